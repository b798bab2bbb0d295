import PyProof.Rows.All
import Wide.All
import OpenK.AllK
import Wide.FinOn
import HandS.ForMost
import HandS.Walk
import HandS.Star
import HandS.TupAny
import HandS.TupMul
import HandS.IsInst
import HandS.Deep
import HandS.Defaults
import HandS.TupSets
import KE.KDictKeyed
import KE.SortCalls
import KE.GoesEnum
import KE.GoesMore
import HandS.SortInts
import HandS.Conv
import HandS.Ends
import HandS.HeadEnd
import KE.KStateDown
import HandS.Head0
import HandS.Head1
import HandS.Head2
import HandS.HeadHook1
import HandS.HeadHook2
import PySem.Challenge.RW_lastthings_k17_whole_races_and_limits
set_option Elab.async false
set_option linter.all false
set_option maxRecDepth 100000
set_option maxHeartbeats 4000000
set_option autoImplicit false
/-! # Pf1 -/
namespace LT
open PySem PySem.Spec PyProof.Rows L2
/-! ## data in the abstract heap -/
abbrev D := PyData
abbrev KF := PySem.W.Frag
mutual
/-- v stands for the datum d, by the objects of G alone -/
inductive Rp (K : KF) (G : Hp) : V → D → Prop
  | non : Rp K G .non .none
  | bl (b : Bool) : Rp K G (.bl b) (.bool b)
  | int (i : Int) : Rp K G (.int i) (.int i)
  | str (x : Str) (h : PyData.strOk x = true) : Rp K G (.str x) (.str x)
  | lst {a : Addr} {xs : List V} {ds : List D} (h : G a = some (.lst xs)) (z : xs.length ≤ sizeLine) (r : RpL K G xs ds) : Rp K G (.ref a) (.list ds)
  | tup {a : Addr} {xs : List V} {ds : List D} (h : SqT K G a xs) (z : xs.length ≤ sizeLine) (r : RpL K G xs ds) : Rp K G (.ref a) (.tuple ds)
inductive RpL (K : KF) (G : Hp) : List V → List D → Prop
  | nil : RpL K G [] []
  | cons {v : V} {vs : List V} {d : D} {ds : List D} (h : Rp K G v d) (r : RpL K G vs ds) : RpL K G (v :: vs) (d :: ds)
end
theorem sqT_same {K : KF} {G G' : Hp} {a : Addr} {xs : List V} (e : Same G G') (h : SqT K G a xs) : SqT K G' a xs := by
  rcases h with (h | ⟨o, h⟩) | h
  · exact .inl (.inl (e _ _ h))
  · exact .inl (.inr ⟨o, e _ _ h⟩)
  · exact .inr h
mutual
theorem Rp.same {K : KF} {G G' : Hp} (e : Same G G') : ∀ {d : D} {v : V}, Rp K G v d → Rp K G' v d
  | _, _, .non => .non
  | _, _, .bl b => .bl b
  | _, _, .int i => .int i
  | _, _, .str x h => .str x h
  | _, _, .lst h z r => .lst (e _ _ h) z (RpL.same e r)
  | _, _, .tup h z r => .tup (sqT_same e h) z (RpL.same e r)
theorem RpL.same {K : KF} {G G' : Hp} (e : Same G G') : ∀ {ds : List D} {vs : List V}, RpL K G vs ds → RpL K G' vs ds
  | _, _, .nil => .nil
  | _, _, .cons h r => .cons (Rp.same e h) (RpL.same e r)
end
mutual
theorem Rp.dp {K : KF} {G : Hp} : ∀ {d : D} {v : V}, Rp K G v d → Dp K G v d
  | _, _, .non => .non
  | _, _, .bl b => .bl b
  | _, _, .int i => .int i
  | _, _, .str x _ => .str x
  | _, _, .lst h _ r => .lst (SqL.of h) (RpL.dp r)
  | _, _, .tup h _ r => .tup h (RpL.dp r)
theorem RpL.dp {K : KF} {G : Hp} : ∀ {ds : List D} {vs : List V}, RpL K G vs ds → DpAll K G vs ds
  | _, _, .nil => .nil
  | _, _, .cons h r => .cons (Rp.dp h) (RpL.dp r)
end
theorem RpL.length {K : KF} {G : Hp} : ∀ {ds : List D} {vs : List V}, RpL K G vs ds → vs.length = ds.length
  | _, _, .nil => rfl
  | _, _, .cons _ r => congrArg (· + 1) (RpL.length r)
theorem RpL.app {K : KF} {G : Hp} : ∀ {ds es : List D} {vs us : List V}, RpL K G vs ds → RpL K G us es → RpL K G (vs ++ us) (ds ++ es)
  | _, _, _, _, .nil, s => s
  | _, _, _, _, .cons h r, s => .cons h (RpL.app r s)
theorem RpL.take {K : KF} {G : Hp} : ∀ {ds : List D} {vs : List V} (n : Nat), RpL K G vs ds → RpL K G (vs.take n) (ds.take n)
  | _, _, 0, _ => .nil
  | _, _, _ + 1, .nil => .nil
  | _, _, n + 1, .cons h r => .cons h (RpL.take n r)
theorem RpL.drop {K : KF} {G : Hp} : ∀ {ds : List D} {vs : List V} (n : Nat), RpL K G vs ds → RpL K G (vs.drop n) (ds.drop n)
  | _, _, 0, r => r
  | _, _, _ + 1, .nil => .nil
  | _, _, n + 1, .cons _ r => RpL.drop n r
theorem RpL.get {K : KF} {G : Hp} : ∀ {ds : List D} {vs : List V} {i : Nat} {d : D}, RpL K G vs ds → ds[i]? = some d → ∃ v, vs[i]? = some v ∧ Rp K G v d
  | _, _, _, _, .nil, e => by simp at e
  | _, _, 0, _, .cons h _, e => by simp at e; subst e; exact ⟨_, rfl, h⟩
  | _, _, i + 1, d, .cons _ r, e => by
    obtain ⟨v, a, b⟩ := RpL.get (i := i) (d := d) r (by simpa using e)
    exact ⟨v, by simpa using a, b⟩
theorem RpL.get2 {K : KF} {G : Hp} : ∀ {ds : List D} {vs : List V} {i : Nat} {v : V}, RpL K G vs ds → vs[i]? = some v → ∃ d, ds[i]? = some d ∧ Rp K G v d
  | _, _, _, _, .nil, e => by simp at e
  | _, _, 0, _, .cons h _, e => by simp at e; subst e; exact ⟨_, rfl, h⟩
  | _, _, i + 1, v, .cons _ r, e => by
    obtain ⟨d, a, b⟩ := RpL.get2 (i := i) (v := v) r (by simpa using e)
    exact ⟨d, by simpa using a, b⟩
theorem RpL.snoc {K : KF} {G : Hp} {ds : List D} {vs : List V} {d : D} {v : V} (r : RpL K G vs ds) (h : Rp K G v d) : RpL K G (vs ++ [v]) (ds ++ [d]) := r.app (.cons h .nil)
mutual
theorem Rp.lay {K : KF} {G : Hp} : ∀ {d : D} {v : V}, Rp K G v d → PyData.canLay0 d = true
  | _, _, .non => by simp [PyData.canLay0]
  | _, _, .bl b => by simp [PyData.canLay0]
  | _, _, .int i => by simp [PyData.canLay0]
  | _, _, .str x h => by simpa [PyData.canLay0] using h
  | _, _, .lst _ _ r => by simpa [PyData.canLay0] using RpL.lay r
  | _, _, .tup _ _ r => by simpa [PyData.canLay0] using RpL.lay r
theorem RpL.lay {K : KF} {G : Hp} : ∀ {ds : List D} {vs : List V}, RpL K G vs ds → PyData.canLayAll0 ds = true
  | _, _, .nil => by simp [PyData.canLayAll0]
  | _, _, .cons h r => by simp [PyData.canLayAll0, Rp.lay h, RpL.lay r]
end

/-! ## heaps that grow: G what data stand on, H all -/
structure Ext (G H G' H' : Hp) : Prop where
  hh : Same H H'
  gg : Same G G'
  gh : Same G' H'
  nw : ∀ b, G' b ≠ none → G b ≠ none ∨ H b = none
theorem same_upd {H : Hp} {p : Addr} (h : H p = none) (o : HO) : Same H (upd H p o) := fun b u q => by rw [upd_ne (ne_of_none q h)]; exact q
section
variable {G H G' H' G1 H1 : Hp} {p : Addr}
theorem Ext.refl (s : Same G H) : Ext G H G H := ⟨Same.refl H, Same.refl G, s, fun _ h => .inl h⟩
theorem Ext.trans (a : Ext G H G1 H1) (b : Ext G1 H1 G' H') : Ext G H G' H' := ⟨a.hh.trans b.hh, a.gg.trans b.gg, b.gh, fun c h => by
  rcases b.nw c h with h | h
  · exact a.nw c h
  · exact .inr (a.hh.free h)⟩
theorem none_of_same (s : Same G H) (n : H p = none) : G p = none := s.free n
theorem Ext.new (s : Same G H) (n : H p = none) (o : HO) : Ext G H (upd G p o) (upd H p o) := by
  have gn := none_of_same s n
  refine ⟨same_upd n o, same_upd gn o, fun b u h => ?_, fun b h => ?_⟩
  · by_cases e : b = p
    · subst e; rw [upd_same] at h ⊢; exact h
    · rw [upd_ne e] at h ⊢; exact s b u h
  · by_cases e : b = p
    · subst e; exact .inr n
    · rw [upd_ne e] at h; exact .inl h
theorem Ext.only (s : Same G H) (k : Same H H') : Ext G H G H' := ⟨k, Same.refl G, s.trans k, fun _ h => .inl h⟩
theorem Ext.keep (a : Ext G H G' H') {b : Addr} (hg : G b = none) {o : HO} (hh : H b = some o) : G' b = none := by
  cases e : G' b with
  | none => rfl
  | some u =>
    rcases a.nw b (by rw [e]; exact fun z => nomatch z) with h | h
    · exact absurd hg h
    · rw [hh] at h; cases h
end

/-! ## slots as data -/
/-- nothing; a datum; a list of the def's own, not yet told of; an object that isn't told of here -/
inductive Sl where
  | no
  | im (d : D)
  | ow (ds : List D)
  | lk (a : Addr)
abbrev Rho := List Sl
structure EnvR (K : KF) (G H : Hp) (σ : L2.St) (ρ : Rho) : Prop where
  len : ρ.length = σ.length
  im : ∀ (i : Nat) d, ρ[i]? = some (.im d) → ∃ v, σ[i]? = some (some v) ∧ Rp K G v d
  ow : ∀ (i : Nat) ds, ρ[i]? = some (.ow ds) → ∃ a xs, σ[i]? = some (some (.ref a)) ∧ H a = some (.lst xs) ∧ G a = none ∧ xs.length ≤ sizeLine ∧ RpL K G xs ds
  one : ∀ (i j : Nat) ds es, ρ[i]? = some (.ow ds) → ρ[j]? = some (.ow es) → i = j
  lk : ∀ (i : Nat) a, ρ[i]? = some (.lk a) → σ[i]? = some (some (.ref a))
theorem EnvR.ext {K : KF} {G H G' H' : Hp} {σ : L2.St} {ρ : Rho} (e : EnvR K G H σ ρ) (x : Ext G H G' H') : EnvR K G' H' σ ρ :=
  ⟨e.len, fun i d h => let ⟨v, a, b⟩ := e.im i d h; ⟨v, a, b.same x.gg⟩, fun i ds h => let ⟨a, xs, q1, q2, q3, q4, q5⟩ := e.ow i ds h; ⟨a, xs, q1, x.hh _ _ q2, x.keep q3 q2, q4, q5.same x.gg⟩, e.one, e.lk⟩
theorem set_get {α : Type} {l : List α} {i j : Nat} {x y : α} (h : (l.set i x)[j]? = some y) : (j = i ∧ y = x) ∨ (j ≠ i ∧ l[j]? = some y) := by
  by_cases e : i = j
  · subst e
    by_cases hl : i < l.length
    · rw [List.getElem?_set_self hl] at h; exact .inl ⟨rfl, (Option.some.inj h).symm⟩
    · rw [List.getElem?_eq_none (by simpa using hl)] at h; cases h
  · rw [List.getElem?_set_ne e] at h; exact .inr ⟨fun z => e z.symm, h⟩
theorem EnvR.set {K : KF} {G H : Hp} {σ : L2.St} {ρ : Rho} (e : EnvR K G H σ ρ) {v : V} {d : D} (r : Rp K G v d) (i : Nat) : EnvR K G H (σ.set i (some v)) (ρ.set i (.im d)) := by
  have hset : ∀ {j : Nat} {w : V}, σ[j]? = some (some w) → j ≠ i → (σ.set i (some v))[j]? = some (some w) := fun {j w} h ne => by
    rw [List.getElem?_set_ne (Ne.symm ne)]; exact h
  refine ⟨by simp [e.len], fun j c h => ?_, fun j ds h => ?_, fun j k ds es h1 h2 => ?_, fun j a h => ?_⟩
  · rcases set_get h with ⟨rfl, h2⟩ | ⟨ne, h2⟩
    · cases h2
      have hl : j < σ.length := by
        have := (List.getElem?_eq_some_iff.mp h).1
        rw [List.length_set, e.len] at this
        exact this
      exact ⟨v, by rw [List.getElem?_set_self hl], r⟩
    · obtain ⟨w, a, b⟩ := e.im j c h2
      exact ⟨w, hset a ne, b⟩
  · rcases set_get h with ⟨_, h2⟩ | ⟨ne, h2⟩
    · cases h2
    · obtain ⟨a, xs, q1, q⟩ := e.ow j ds h2
      exact ⟨a, xs, hset q1 ne, q⟩
  · rcases set_get h1 with ⟨_, z⟩ | ⟨_, z1⟩
    · cases z
    · rcases set_get h2 with ⟨_, z⟩ | ⟨_, z2⟩
      · cases z
      · exact e.one j k ds es z1 z2
  · rcases set_get h with ⟨_, h2⟩ | ⟨ne, h2⟩
    · cases h2
    · exact hset (e.lk j a h2) ne
/-- forgetting slots -/
def wipeR (ρ : Rho) : List Nat → Rho
  | [] => ρ
  | i :: is => (wipeR ρ is).set i .no
theorem wipeR_get {ρ : Rho} {x : Sl} (hx : x ≠ .no) {i : Nat} : ∀ {vs : List Nat}, (wipeR ρ vs)[i]? = some x → ρ[i]? = some x ∧ i ∉ vs
  | [], h => ⟨h, by simp⟩
  | v :: vs, h => by
    unfold wipeR at h
    rcases set_get h with ⟨_, h2⟩ | ⟨ne, h2⟩
    · exact absurd h2 hx
    · obtain ⟨a, b⟩ := wipeR_get hx h2
      exact ⟨a, by simp only [List.mem_cons, not_or]; exact ⟨ne, b⟩⟩
theorem wipe_at {σ : L2.St} {i : Nat} : ∀ {vs : List Nat}, i ∉ vs → (wipe σ vs)[i]? = σ[i]?
  | [], _ => rfl
  | v :: vs, h => by
    simp only [List.mem_cons, not_or] at h
    unfold wipe
    rw [List.getElem?_set_ne (Ne.symm h.1)]
    exact wipe_at h.2
theorem wipeR_length (ρ : Rho) : ∀ vs : List Nat, (wipeR ρ vs).length = ρ.length
  | [] => rfl
  | v :: vs => by unfold wipeR; rw [List.length_set, wipeR_length ρ vs]
theorem EnvR.wipe {K : KF} {G H : Hp} {σ : L2.St} {ρ : Rho} (e : EnvR K G H σ ρ) (vs : List Nat) : EnvR K G H (wipe σ vs) (wipeR ρ vs) := by
  refine ⟨by rw [wipeR_length, wipe_length]; exact e.len, fun j c h => ?_, fun j ds h => ?_, fun j k ds es h1 h2 => ?_, fun j c h => ?_⟩
  · obtain ⟨a, b⟩ := wipeR_get (by simp) h
    obtain ⟨w, p, q⟩ := e.im j c a
    exact ⟨w, by rw [wipe_at b]; exact p, q⟩
  · obtain ⟨a, b⟩ := wipeR_get (by simp) h
    obtain ⟨c, xs, q1, q⟩ := e.ow j ds a
    exact ⟨c, xs, by rw [wipe_at b]; exact q1, q⟩
  · exact e.one j k ds es (wipeR_get (by simp) h1).1 (wipeR_get (by simp) h2).1
  · obtain ⟨a, b⟩ := wipeR_get (by simp) h
    rw [wipe_at b]; exact e.lk j c a

/-! ## readings by functions of data -/
abbrev FE := Rho → Option D
abbrev FB := Rho → Option Bool
abbrev FL := Rho → Option (List D)
def tF (K : KF) (f : FE) : TE := fun σ H Q => ∃ (ρ : Rho) (G : Hp) (d : D), Same G H ∧ EnvR K G H σ ρ ∧ f ρ = some d ∧ ∀ v G' H', Ext G H G' H' → Rp K G' v d → Q v H'
def tFB (K : KF) (f : FB) : TT := fun σ H Q => ∃ (ρ : Rho) (G : Hp) (b : Bool), Same G H ∧ EnvR K G H σ ρ ∧ f ρ = some b ∧ ∀ G' H', Ext G H G' H' → Q b H'
def tFL (K : KF) (f : FL) : TA := fun σ H Q => ∃ (ρ : Rho) (G : Hp) (ds : List D), Same G H ∧ EnvR K G H σ ρ ∧ f ρ = some ds ∧ ∀ vs G' H', Ext G H G' H' → RpL K G' vs ds → Q vs H'
abbrev PF (X : Cx) (e : Expr) (f : FE) : Prop := PE X e (tF X.K f)
abbrev PB (X : Cx) (e : Expr) (f : FB) : Prop := PT X e (tFB X.K f)
abbrev PL (X : Cx) (es : List Expr) (f : FL) : Prop := PA X es (tFL X.K f)
section
variable {X : Cx} {e : Expr} {es : List Expr}
theorem pe_weak {t t' : TE} (h : PE X e t) (w : ∀ σ H Q, t' σ H Q → t σ H Q) : PE X e t' := ⟨fun pins s σ H Q I q => h.run pins s σ H Q I (w σ H Q q)⟩
theorem pt_weak {t t' : TT} (h : PT X e t) (w : ∀ σ H Q, t' σ H Q → t σ H Q) : PT X e t' := ⟨fun pins s σ H Q I q => h.run pins s σ H Q I (w σ H Q q)⟩
theorem pw_weak {t t' : TT} (h : PW X e t) (w : ∀ σ H Q, t' σ H Q → t σ H Q) : PW X e t' := ⟨fun wh pins s σ H Q I q => h.run wh pins s σ H Q I (w σ H Q q)⟩
theorem pa_weak {t t' : TA} (h : PA X es t) (w : ∀ σ H Q, t' σ H Q → t σ H Q) : PA X es t' := ⟨fun pos pins s σ H Q I q => h.run pos pins s σ H Q I (w σ H Q q)⟩
theorem ps_weak {st : Stmt} {t t' : TS} (h : PS X st t) (w : ∀ D σ H, t' D σ H → t D σ H) : PS X st t' := ⟨fun pins s σ H D I q => h.run pins s σ H D I (w D σ H q)⟩
theorem pss_weak {st : List Stmt} {t t' : TS} (h : PSs X st t) (w : ∀ D σ H, t' D σ H → t D σ H) : PSs X st t' := ⟨fun pins s σ H D I q => h.run pins s σ H D I (w D σ H q)⟩
end
/-- two in a row -/
theorem seq2 {K : KF} {f g : FE} {σ : L2.St} {H : Hp} {G : Hp} {ρ : Rho} {x y : D} {R : V → V → Hp → Prop} (sg : Same G H) (e : EnvR K G H σ ρ) (hf : f ρ = some x) (hg : g ρ = some y)
    (k : ∀ v u G' H', Ext G H G' H' → Rp K G' v x → Rp K G' u y → R v u H') : tF K f σ H fun v H1 => tF K g σ H1 fun u H2 => R v u H2 :=
  ⟨ρ, G, x, sg, e, hf, fun v G1 H1 x1 r1 => ⟨ρ, G1, y, x1.gh, e.ext x1, hg, fun u G2 H2 x2 r2 => k v u G2 H2 (x1.trans x2) (r1.same x2.gg) r2⟩⟩

/-! ### names, constants -/
def cV (i : Nat) : FE := fun ρ => match ρ[i]? with
  | some (.im d) => some d
  | _ => none
def cK (d : D) : FE := fun _ => some d
section
variable {X : Cx} {a b c e : Expr} {es : List Expr} {f g k : FE} {pos : Pos}
theorem cV_some {i : Nat} {ρ : Rho} {d : D} (h : cV i ρ = some d) : ρ[i]? = some (.im d) := by
  unfold cV at h
  split at h
  · rename_i q; rw [q]; cases h; rfl
  · cases h
theorem pf_var {i : Nat} (h : PE X e (tVar i)) : PF X e (cV i) := pe_weak h fun σ H Q ⟨ρ, G, d, sg, ev, hf, q⟩ => by
  obtain ⟨v, a, r⟩ := ev.im i d (cV_some hf)
  exact ⟨v, a, q v G H (Ext.refl sg) r⟩
theorem pf_const {v : V} {d : D} (h : PE X e (tC v)) (r : ∀ G, Rp X.K G v d) : PF X e (cK d) := pe_weak h fun σ H Q ⟨ρ, G, d', sg, ev, hf, q⟩ => by
  cases hf
  exact q v G H (Ext.refl sg) (r G)
theorem pf_int {i : Int} {j : Nat} : PF X (.Constant (.int i) j pos) (cK (.int i)) := pf_const pe_int fun _ => .int i
theorem pf_bl {i : Bool} {j : Nat} : PF X (.Constant (.bool i) j pos) (cK (.bool i)) := pf_const pe_bl fun _ => .bl i
theorem pf_non {j : Nat} : PF X (.Constant .none j pos) (cK .none) := pf_const pe_non fun _ => .non
theorem pf_str {x : Str} {j : Nat} (h : PyData.strOk x = true := by decide +kernel) : PF X (.Constant (.str x) j pos) (cK (.str x)) := pf_const pe_str fun _ => .str x h

/-! ### displays -/
def cNil : FL := fun _ => some []
def cCons (f : FE) (g : FL) : FL := fun ρ => (f ρ).bind fun x => (g ρ).bind fun xs => some (x :: xs)
/-- the items of a list or tuple -/
def itemsD : D → Option (List D)
  | .list xs => some xs
  | .tuple xs => some xs
  | _ => none
def cStar (f : FE) (g : FL) : FL := fun ρ => (f ρ).bind fun x => (itemsD x).bind fun xs => (g ρ).bind fun ys => some (xs ++ ys)
def chkLen (xs : List D) : Option (List D) := if xs.length ≤ sizeLine then some xs else none
def cTup (f : FL) : FE := fun ρ => (f ρ).bind fun xs => (chkLen xs).map .tuple
def cLst (f : FL) : FE := fun ρ => (f ρ).bind fun xs => (chkLen xs).map .list
theorem chkLen_some {xs ys : List D} (h : chkLen xs = some ys) : ys = xs ∧ xs.length ≤ sizeLine := by
  unfold chkLen at h
  split at h
  · cases h; exact ⟨rfl, by assumption⟩
  · cases h
theorem pl_nil : PL X [] cNil := pa_weak pa_nil fun σ H Q ⟨ρ, G, ds, sg, ev, hf, q⟩ => by
  cases hf
  exact q [] G H (Ext.refl sg) .nil
theorem pl_cons {g : FL} (h1 : PF X e f) (h2 : PL X es g) (hs : starEach (e :: es) X.env = (false, eval e X.env) :: starEach es X.env := by rfl) : PL X (e :: es) (cCons f g) :=
  pa_weak (pa_cons h1 h2 hs) fun σ H Q ⟨ρ, G, ds, sg, ev, hf, q⟩ => by
    obtain ⟨x, h1, hf⟩ := Option.bind_eq_some_iff.mp hf
    obtain ⟨xs, h2, hf⟩ := Option.bind_eq_some_iff.mp hf
    cases hf
    exact ⟨ρ, G, x, sg, ev, h1, fun v G1 H1 x1 r1 => ⟨ρ, G1, xs, x1.gh, ev.ext x1, h2, fun vs G2 H2 x2 r2 => q _ G2 H2 (x1.trans x2) (.cons (r1.same x2.gg) r2)⟩⟩
theorem Rp.items {K : KF} {G : Hp} {v : V} {x : D} {xs : List D} (r : Rp K G v x) (h : itemsD x = some xs) : ∃ a vs, v = .ref a ∧ (SqT K G a vs ∨ SqL K G a vs) ∧ vs.length ≤ sizeLine ∧ RpL K G vs xs := by
  cases r with
  | lst h1 z r => cases h; exact ⟨_, _, rfl, .inr (SqL.of h1), z, r⟩
  | tup h1 z r => cases h; exact ⟨_, _, rfl, .inl h1, z, r⟩
  | _ => cases h
theorem pl_star {g : FL} {p : Pos} (h1 : PF X e f) (h2 : PL X es g) (hs : starEach (.Starred e p :: es) X.env = (true, eval e X.env) :: starEach es X.env := by rfl) : PL X (.Starred e p :: es) (cStar f g) :=
  pa_weak (StX.pa_star h1 h2 hs) fun σ H Q ⟨ρ, G, ds, sg, ev, hf, q⟩ => by
    obtain ⟨x, h1, hf⟩ := Option.bind_eq_some_iff.mp hf
    obtain ⟨xs, hi, hf⟩ := Option.bind_eq_some_iff.mp hf
    obtain ⟨ys, h2, hf⟩ := Option.bind_eq_some_iff.mp hf
    cases hf
    refine ⟨ρ, G, x, sg, ev, h1, fun v G1 H1 x1 r1 => ?_⟩
    obtain ⟨a, vs, e1, hq, _, rv⟩ := r1.items hi
    refine ⟨a, vs, e1, ?_, ρ, G1, ys, x1.gh, ev.ext x1, h2, fun us G2 H2 x2 r2 => q _ G2 H2 (x1.trans x2) ((rv.same x2.gg).app r2)⟩
    rcases hq with hq | hq
    · exact .inl (sqT_same x1.gh hq)
    · exact .inr (x1.gh.seq hq)
theorem pf_tup {g : FL} {k : Nat} (h : PL X es g) : PF X (.Tuple es k pos) (cTup g) := pe_weak (pe_tup h) fun σ H Q ⟨ρ, G, d, sg, ev, hf, q⟩ => by
  obtain ⟨xs, h1, hf⟩ := Option.bind_eq_some_iff.mp hf
  obtain ⟨ys, h2, rfl⟩ := Option.map_eq_some_iff.mp hf
  obtain ⟨rfl, z⟩ := chkLen_some h2
  refine ⟨ρ, G, ys, sg, ev, h1, fun vs G1 H1 x1 r1 => ⟨by rw [r1.length]; exact z, fun p hp => ?_⟩⟩
  have x2 := Ext.new x1.gh hp (.tup vs)
  exact q _ _ _ (x1.trans x2) (.tup (SqT.of upd_same) (by rw [r1.length]; exact z) (r1.same x2.gg))
theorem pf_lst {g : FL} (h : PL X es g) : PF X (.List es pos) (cLst g) := pe_weak (pe_lst h) fun σ H Q ⟨ρ, G, d, sg, ev, hf, q⟩ => by
  obtain ⟨xs, h1, hf⟩ := Option.bind_eq_some_iff.mp hf
  obtain ⟨ys, h2, rfl⟩ := Option.map_eq_some_iff.mp hf
  obtain ⟨rfl, z⟩ := chkLen_some h2
  refine ⟨ρ, G, ys, sg, ev, h1, fun vs G1 H1 x1 r1 => ⟨by rw [r1.length]; exact z, fun p hp => ?_⟩⟩
  have x2 := Ext.new x1.gh hp (.lst vs)
  exact q _ _ _ (x1.trans x2) (.lst upd_same (by rw [r1.length]; exact z) (r1.same x2.gg))
end
end LT
/-! # Pf2 -/
namespace LT
open PySem PySem.Spec PyProof.Rows L2
/-! ## operators by functions of data -/
/-- an operation on data whose answer may be a new object -/
def rD (K : KF) (h : D → D → Option D) : R2 := fun x y H Q => ∃ (G : Hp) (d e r : D), Same G H ∧ Rp K G x d ∧ Rp K G y e ∧ h d e = some r ∧ ∀ v G' H', Ext G H G' H' → Rp K G' v r → Q v H'
/-- one whose answer is a bool -/
def rDB (K : KF) (h : D → D → Option Bool) : R2 := fun x y H Q => ∃ (G : Hp) (d e : D) (r : Bool), Same G H ∧ Rp K G x d ∧ Rp K G y e ∧ h d e = some r ∧ Q (.bl r) H
def bin2 (h : D → D → Option D) (f g : FE) : FE := fun ρ => (f ρ).bind fun x => (g ρ).bind fun y => h x y
def cmp2 (h : D → D → Option Bool) (f g : FE) : FE := fun ρ => (f ρ).bind fun x => (g ρ).bind fun y => (h x y).map .bool
def cmpB (h : D → D → Option Bool) (f g : FE) : FB := fun ρ => (f ρ).bind fun x => (g ρ).bind fun y => h x y
section
variable {X : Cx} {a b c e : Expr} {es : List Expr} {f g k : FE} {pos : Pos}
theorem opr_weak {F : Value → Value → Sem Value} {r r' : R2} (h : OpR X F r) (w : ∀ x y H Q, r' x y H Q → r x y H Q) : OpR X F r' := fun pins s σ H x y v u Q I rx ry q => h pins s σ H x y v u Q I rx ry (w x y H Q q)
theorem pf_bin {op : Operator} {h : D → D → Option D} (ho : OpR X (binaryOp op) (rD X.K h)) (ha : PF X a f) (hb : PF X b g) : PF X (.BinOp a op b pos) (bin2 h f g) :=
  pe_weak (pe_op ho ha hb) fun σ H Q ⟨ρ, G, d, sg, ev, hf, q⟩ => by
    obtain ⟨x, h1, hf⟩ := Option.bind_eq_some_iff.mp hf
    obtain ⟨y, h2, hf⟩ := Option.bind_eq_some_iff.mp hf
    exact seq2 (R := fun v u H2 => rD X.K h v u H2 Q) sg ev h1 h2 fun v u G1 H1 x1 r1 r2 => ⟨G1, x, y, d, x1.gh, r1, r2, hf, fun v G2 H2 x2 r => q v G2 H2 (x1.trans x2) r⟩
theorem pf_cmp {op : CmpOp} {h : D → D → Option Bool} (ho : OpR X (compareOp op) (rDB X.K h)) (ha : PF X a f) (hb : PF X b g) (hm : behindInMarks op b = false) : PF X (.Compare a [op] [b] pos) (cmp2 h f g) :=
  pe_weak (pe_cmpR ho ha hb hm) fun σ H Q ⟨ρ, G, d, sg, ev, hf, q⟩ => by
    obtain ⟨x, h1, hf⟩ := Option.bind_eq_some_iff.mp hf
    obtain ⟨y, h2, hf⟩ := Option.bind_eq_some_iff.mp hf
    obtain ⟨r, h3, rfl⟩ := Option.map_eq_some_iff.mp hf
    exact seq2 (R := fun v u H2 => rDB X.K h v u H2 Q) sg ev h1 h2 fun v u G1 H1 x1 r1 r2 => ⟨G1, x, y, r, x1.gh, r1, r2, h3, q _ G1 H1 x1 (.bl r)⟩
theorem pb_cmp {op : CmpOp} {h : D → D → Option Bool} (ho : OpR X (compareOp op) (rDB X.K h)) (ha : PF X a f) (hb : PF X b g) (hm : behindInMarks op b = false) : PB X (.Compare a [op] [b] pos) (cmpB h f g) :=
  pt_weak (pt_cmpR ho ha hb hm) fun σ H Q ⟨ρ, G, d, sg, ev, hf, q⟩ => by
    obtain ⟨x, h1, hf⟩ := Option.bind_eq_some_iff.mp hf
    obtain ⟨y, h2, hf⟩ := Option.bind_eq_some_iff.mp hf
    exact seq2 (R := fun v u H2 => rDB X.K h v u H2 fun x H' => ∃ k, x = .bl k ∧ Q k H') sg ev h1 h2 fun v u G1 H1 x1 r1 r2 => ⟨G1, x, y, d, x1.gh, r1, r2, hf, d, rfl, q G1 H1 x1⟩
/-! ### the comparisons -/
def eqH (x y : D) : Option Bool := if min x.depth y.depth ≤ 64 then some (PyData.eqv x y) else none
def neH (x y : D) : Option Bool := if min x.depth y.depth ≤ 64 then some (!PyData.eqv x y) else none
def inH (x y : D) : Option Bool := (itemsD y).bind fun ys => if x.depth ≤ 64 then some (ys.any fun z => PyData.eqv z x) else none
def niH (x y : D) : Option Bool := (itemsD y).bind fun ys => if x.depth ≤ 64 then some (!ys.any fun z => PyData.eqv z x) else none
def intH (p : Int → Int → Bool) (x y : D) : Option Bool := match x, y with
  | .int i, .int j => some (p i j)
  | _, _ => none
theorem ite_some {α : Type} {p : Prop} [Decidable p] {x y : α} (h : (if p then some x else none) = some y) : p ∧ x = y := by
  split at h
  · cases h; exact ⟨by assumption, rfl⟩
  · cases h
theorem opD_eq (hu : X.A.units + 64 < cLine) : OpR X (compareOp .Eq) (rDB X.K eqH) := by
  intro pins s σ H x y v u Q I rx ry ⟨G, d, e, r, sg, rd, re, h, q⟩
  obtain ⟨hd, rfl⟩ := ite_some h
  obtain ⟨as, r1⟩ := Dp.reads I d x v (rd.same sg).dp rx
  obtain ⟨bs, r2⟩ := Dp.reads I e y u (re.same sg).dp ry
  exact SeqAt.compareEq_reads r1 r2 rd.lay re.lay (by omega) ⟨.bl _, H, I, rfl, q⟩
theorem opD_ne (hu : X.A.units + 64 < cLine) : OpR X (compareOp .NotEq) (rDB X.K neH) := by
  intro pins s σ H x y v u Q I rx ry ⟨G, d, e, r, sg, rd, re, h, q⟩
  obtain ⟨hd, rfl⟩ := ite_some h
  obtain ⟨as, r1⟩ := Dp.reads I d x v (rd.same sg).dp rx
  obtain ⟨bs, r2⟩ := Dp.reads I e y u (re.same sg).dp ry
  exact SeqAt.compareNe_reads r1 r2 rd.lay re.lay (by omega) ⟨.bl _, H, I, rfl, q⟩
theorem opD_in (hu : X.A.units + 65 < cLine) : OpR X (compareOp .In) (rDB X.K inH) := by
  intro pins s σ H x y v u Q I rx ry ⟨G, d, e, r, sg, rd, re, h, q⟩
  obtain ⟨ys, hi, h⟩ := Option.bind_eq_some_iff.mp h
  obtain ⟨hd, rfl⟩ := ite_some h
  obtain ⟨as, r1⟩ := Dp.reads I d x v (rd.same sg).dp rx
  obtain ⟨bs, r2⟩ := Dp.reads I e y u (re.same sg).dp ry
  have le := re.lay
  cases e with
  | list zs =>
    cases hi
    exact SeqAt.in_list_reads r2 r1 (by simpa [PyData.canLay0] using le) rd.lay (by omega) ⟨.bl _, H, I, rfl, q⟩
  | tuple zs =>
    cases hi
    exact SeqAt.in_tuple_reads r2 r1 (by simpa [PyData.canLay0] using le) rd.lay (by omega) ⟨.bl _, H, I, rfl, q⟩
  | _ => cases hi
theorem opD_ni (hu : X.A.units + 65 < cLine) : OpR X (compareOp .NotIn) (rDB X.K niH) := by
  intro pins s σ H x y v u Q I rx ry ⟨G, d, e, r, sg, rd, re, h, q⟩
  obtain ⟨ys, hi, h⟩ := Option.bind_eq_some_iff.mp h
  obtain ⟨hd, rfl⟩ := ite_some h
  obtain ⟨as, r1⟩ := Dp.reads I d x v (rd.same sg).dp rx
  obtain ⟨bs, r2⟩ := Dp.reads I e y u (re.same sg).dp ry
  have le := re.lay
  cases e with
  | list zs =>
    cases hi
    exact SeqAt.notIn_list_reads r2 r1 (by simpa [PyData.canLay0] using le) rd.lay (by omega) ⟨.bl _, H, I, rfl, q⟩
  | tuple zs =>
    cases hi
    exact SeqAt.notIn_tuple_reads r2 r1 (by simpa [PyData.canLay0] using le) rd.lay (by omega) ⟨.bl _, H, I, rfl, q⟩
  | _ => cases hi
theorem opD_int {op : CmpOp} {p : Int → Int → Bool} (h : OpR X (compareOp op) (rI0 fun i j => .bl (p i j))) : OpR X (compareOp op) (rDB X.K (intH p)) := opr_weak h fun x y H Q ⟨G, d, e, r, sg, rd, re, h, q⟩ => by
  cases rd with
  | int i =>
    cases re with
    | int j => cases h; exact ⟨i, j, rfl, rfl, q⟩
    | _ => cases h
  | _ => cases h
theorem opD_lt : OpR X (compareOp .Lt) (rDB X.K (intH fun i j => decide (i < j))) := opD_int op_lt
theorem opD_le : OpR X (compareOp .LtE) (rDB X.K (intH fun i j => decide (i ≤ j))) := opD_int op_le
theorem opD_gt : OpR X (compareOp .Gt) (rDB X.K (intH fun i j => decide (j < i))) := opD_int op_gt
theorem opD_ge : OpR X (compareOp .GtE) (rDB X.K (intH fun i j => decide (j ≤ i))) := opD_int op_ge
/-- a <= b <= c -/
def chn2 (h h' : D → D → Option Bool) (f g k : FE) : FE := fun ρ => (f ρ).bind fun x => (g ρ).bind fun y => (h x y).bind fun t => match t with
  | true => (k ρ).bind fun z => (h' y z).map .bool
  | false => some (.bool false)
theorem pf_chain {op op' : CmpOp} {h h' : D → D → Option Bool} (ho : OpR X (compareOp op) (rDB X.K h)) (ho' : OpR X (compareOp op') (rDB X.K h')) (ha : PF X a f) (hb : PF X b g) (hc : PF X c k)
    (hm : lastMarks [op, op'] [b, c] = false := by with_unfolding_all rfl) : PF X (.Compare a [op, op'] [b, c] pos) (chn2 h h' f g k) :=
  pe_weak (pe_chain ho ho' ha hb hc hm) fun σ H Q ⟨ρ, G, d, sg, ev, hf, q⟩ => by
    obtain ⟨x, h1, hf⟩ := Option.bind_eq_some_iff.mp hf
    obtain ⟨y, h2, hf⟩ := Option.bind_eq_some_iff.mp hf
    obtain ⟨t, h3, hf⟩ := Option.bind_eq_some_iff.mp hf
    refine seq2 (R := fun v u H2 => rDB X.K h v u H2 _) sg ev h1 h2 fun v u G1 H1 x1 r1 r2 => ⟨G1, x, y, t, x1.gh, r1, r2, h3, t, rfl, ?_⟩
    cases t with
    | true =>
      obtain ⟨z, h4, hf⟩ := Option.bind_eq_some_iff.mp hf
      obtain ⟨r, h5, rfl⟩ := Option.map_eq_some_iff.mp hf
      exact iteT ⟨ρ, G1, z, x1.gh, ev.ext x1, h4, fun w G2 H2 x2 r3 => ⟨G2, y, z, r, x2.gh, r2.same x2.gg, r3, h5, q _ G2 H2 (x1.trans x2) (.bl r)⟩⟩
    | false =>
      cases hf
      exact iteF (q _ G1 H1 x1 (.bl false))
/-! ### + - * -/
def subH (x y : D) : Option D := match x, y with
  | .int i, .int j => some (.int (i - j))
  | _, _ => none
def addH (x y : D) : Option D := match x, y with
  | .int i, .int j => some (.int (i + j))
  | .list xs, .list ys => (chkLen (xs ++ ys)).map .list
  | .tuple xs, .tuple ys => (chkLen (xs ++ ys)).map .tuple
  | _, _ => none
theorem opD_sub : OpR X (binaryOp .Sub) (rD X.K subH) := opr_weak op_sub fun x y H Q ⟨G, d, e, r, sg, rd, re, h, q⟩ => by
  cases rd with
  | int i =>
    cases re with
    | int j => cases h; exact ⟨i, j, rfl, rfl, q _ G H (Ext.refl sg) (.int _)⟩
    | _ => cases h
  | _ => cases h
theorem opD_add : OpR X (binaryOp .Add) (rD X.K addH) := opr_weak (op_add.or (op_cat.or op_catA)) fun x y H Q ⟨G, d, e, r, sg, rd, re, h, q⟩ => by
  cases rd with
  | int i =>
    cases re with
    | int j => cases h; exact .inl ⟨i, j, rfl, rfl, q _ G H (Ext.refl sg) (.int _)⟩
    | _ => cases h
  | @lst pa va da h1 z1 r1 =>
    cases re with
    | @lst pb vb db h2 z2 r2 =>
      obtain ⟨ys, h3, rfl⟩ := Option.map_eq_some_iff.mp h
      obtain ⟨rfl, z⟩ := chkLen_some h3
      have l := (r1.app r2).length
      have z' := z
      rw [← l] at z'
      rw [List.length_append] at z'
      refine .inr (.inl ⟨_, _, _, _, rfl, rfl, sg _ _ h1, sg _ _ h2, z', fun p hp => ?_⟩)
      have x2 := Ext.new sg hp (.lst (va ++ vb))
      exact q _ _ _ x2 (.lst upd_same (by rw [l]; exact z) ((r1.app r2).same x2.gg))
    | _ => cases h
  | @tup pa va da h1 z1 r1 =>
    cases re with
    | @tup pb vb db h2 z2 r2 =>
      obtain ⟨ys, h3, rfl⟩ := Option.map_eq_some_iff.mp h
      obtain ⟨rfl, z⟩ := chkLen_some h3
      have l := (r1.app r2).length
      have z' := z
      rw [← l, List.length_append] at z'
      refine .inr (.inr ⟨_, _, _, _, rfl, rfl, sqT_same sg h1, sqT_same sg h2, z', fun e0 => ?_, fun _ e0 => ?_, fun _ _ p hp => ?_⟩)
      · subst e0
        cases r1
        exact q _ G H (Ext.refl sg) (.tup h2 z2 r2)
      · subst e0
        cases r2
        exact q _ G H (Ext.refl sg) (by rw [List.append_nil]; exact .tup h1 z1 r1)
      · have x2 := Ext.new sg hp (.tup (va ++ vb))
        exact q _ _ _ x2 (.tup (SqT.of upd_same) (by rw [l]; exact z) ((r1.app r2).same x2.gg))
    | _ => cases h
  | _ => cases h
/-- [..] * n -/
def repL (xs : List D) (n : Nat) : List D := (List.replicate n xs).flatten
def mulLH (x y : D) : Option D := match x, y with
  | .list xs, .int i => if (xs.length ≤ 1000 ∧ -1000 ≤ i) ∧ i ≤ 1000 then some (.list (repL xs i.toNat)) else none
  | _, _ => none
theorem RpL.rep {K : KF} {G : Hp} {vs : List V} {ds : List D} (r : RpL K G vs ds) : ∀ n : Nat, RpL K G (List.replicate n vs).flatten (List.replicate n ds).flatten
  | 0 => .nil
  | n + 1 => by
    rw [List.replicate_succ, List.replicate_succ, List.flatten_cons, List.flatten_cons]
    exact r.app (RpL.rep r n)
theorem rep_len (xs : List D) : ∀ n : Nat, (repL xs n).length = n * xs.length
  | 0 => by simp [repL]
  | n + 1 => by
    have ih := rep_len xs n
    unfold repL at ih ⊢
    rw [List.replicate_succ, List.flatten_cons, List.length_append, ih, Nat.succ_mul, Nat.add_comm]
theorem opD_mulL : OpR X (binaryOp .Mult) (rD X.K mulLH) := opr_weak op_rep fun x y H Q ⟨G, d, e, r, sg, rd, re, h, q⟩ => by
  cases rd with
  | @lst pa va da h1 z1 r1 =>
    cases re with
    | int j =>
      obtain ⟨⟨⟨a1, a2⟩, a3⟩, rfl⟩ := ite_some h
      have l1 := r1.length
      have b : va.length * j.toNat ≤ 1000 * 1000 := Nat.mul_le_mul (l1 ▸ a1) (by omega)
      refine ⟨_, j, _, rfl, rfl, sg _ _ h1, by omega, by omega, Nat.le_trans b (by rw [sizeLine_eq]; decide), fun p hp => ?_⟩
      have x2 := Ext.new sg hp (.lst (List.replicate j.toNat va).flatten)
      have rr := r1.rep j.toNat
      refine q _ _ _ x2 (.lst upd_same ?_ (rr.same x2.gg))
      rw [rr.length]
      have := rep_len da j.toNat
      unfold repL at this
      rw [this, Nat.mul_comm, ← l1]
      exact Nat.le_trans b (by rw [sizeLine_eq]; decide)
    | _ => cases h
  | _ => cases h
/-! ### x[i], t[i:j] -/
def atH (x y : D) : Option D := match y with
  | .int i => (itemsD x).bind fun xs => atI xs i
  | _ => none
theorem RpL.atI {K : KF} {G : Hp} {vs : List V} {ds : List D} {i : Int} {d : D} (r : RpL K G vs ds) (h : L2.atI ds i = some d) : ∃ v, L2.atI vs i = some v ∧ Rp K G v d := by
  unfold L2.atI at h ⊢
  obtain ⟨j, h1, h2⟩ := Option.bind_eq_some_iff.mp h
  obtain ⟨v, a, b⟩ := r.get h2
  exact ⟨v, by rw [r.length, h1]; exact a, b⟩
theorem pf_ix (ha : PF X a f) (hb : PF X b g) (hs : PlainIx b := by intro _ _; rfl) : PF X (.Subscript a b pos) (bin2 atH f g) :=
  pe_weak (pe_ix ix_seq ha hb hs) fun σ H Q ⟨ρ, G, d, sg, ev, hf, q⟩ => by
    obtain ⟨x, h1, hf⟩ := Option.bind_eq_some_iff.mp hf
    obtain ⟨y, h2, hf⟩ := Option.bind_eq_some_iff.mp hf
    refine seq2 (R := fun v u H2 => rIx X.K v u H2 Q) sg ev h1 h2 fun v u G1 H1 x1 r1 r2 => ?_
    cases r2 with
    | int i =>
      obtain ⟨xs, h3, h4⟩ := Option.bind_eq_some_iff.mp hf
      obtain ⟨p, vs, rfl, hq, _, rv⟩ := r1.items h3
      obtain ⟨w, h5, rw⟩ := rv.atI h4
      rcases hq with hq | hq
      · exact .inr (.inl ⟨p, vs, i, w, rfl, rfl, sqT_same x1.gh hq, h5, q w G1 H1 x1 rw⟩)
      · exact .inl ⟨p, vs, i, w, rfl, rfl, x1.gh.seq hq, h5, q w G1 H1 x1 rw⟩
    | _ => cases hf
abbrev FO := Rho → Option (Option Int)
def tFO (K : KF) (f : FO) : TO := fun σ H Q => ∃ (ρ : Rho) (G : Hp) (o : Option Int), Same G H ∧ EnvR K G H σ ρ ∧ f ρ = some o ∧ ∀ G' H', Ext G H G' H' → Q o H'
theorem po_weak {e : Option Expr} {t t' : TO} (h : PO X e t) (w : ∀ σ H Q, t' σ H Q → t σ H Q) : PO X e t' := by
  cases h with
  | mk run => exact ⟨fun pins s σ H Q I q => run pins s σ H Q I (w σ H Q q)⟩
def cNo : FO := fun _ => some none
def cPt (f : FE) : FO := fun ρ => match f ρ with
  | some (.int i) => some (some i)
  | _ => none
theorem pfo_none : PO X none (tFO X.K cNo) := po_weak po_none fun σ H Q ⟨ρ, G, o, sg, ev, hf, q⟩ => by
  cases hf
  exact q G H (Ext.refl sg)
theorem pfo_some (h : PF X e f) : PO X (some e) (tFO X.K (cPt f)) := po_weak (po_some h) fun σ H Q ⟨ρ, G, o, sg, ev, hf, q⟩ => by
  unfold cPt at hf
  split at hf
  · rename_i i hi
    cases hf
    refine ⟨ρ, G, .int i, sg, ev, hi, fun v G1 H1 x1 r1 => ?_⟩
    cases r1
    exact ⟨i, rfl, q G1 H1 x1⟩
  · cases hf
def cutL {α : Type} (xs : List α) (lo hi : Option Int) : List α := (xs.drop (HT.sIx xs.length 0 lo)).take (HT.sIx xs.length xs.length hi - HT.sIx xs.length 0 lo)
theorem cutL_length {α : Type} (xs : List α) (lo hi : Option Int) : (cutL xs lo hi).length ≤ xs.length := by
  unfold cutL
  rw [List.length_take, List.length_drop]
  omega
def cSl (f : FE) (lo hi : FO) : FE := fun ρ => (f ρ).bind fun x => (lo ρ).bind fun l => (hi ρ).bind fun u => match x with
  | .tuple xs => some (.tuple (cutL xs l u))
  | _ => none
theorem RpL.cut {K : KF} {G : Hp} {vs : List V} {ds : List D} (r : RpL K G vs ds) (lo hi : Option Int) : RpL K G (cutV vs lo hi) (cutL ds lo hi) := by
  unfold cutV cutL
  rw [r.length]
  exact (r.drop _).take _
theorem pf_slice {lo hi : Option Expr} {fl fh : FO} {p2 : Pos} (ha : PF X a f) (hl : PO X lo (tFO X.K fl)) (hh : PO X hi (tFO X.K fh)) : PF X (.Subscript a (.Slice lo hi none p2) pos) (cSl f fl fh) :=
  pe_weak (pe_slice sl_tupA ha hl hh) fun σ H Q ⟨ρ, G, d, sg, ev, hf, q⟩ => by
    obtain ⟨x, h1, hf⟩ := Option.bind_eq_some_iff.mp hf
    obtain ⟨l, h2, hf⟩ := Option.bind_eq_some_iff.mp hf
    obtain ⟨u, h3, hf⟩ := Option.bind_eq_some_iff.mp hf
    refine ⟨ρ, G, x, sg, ev, h1, fun v G1 H1 x1 r1 => ⟨ρ, G1, l, x1.gh, ev.ext x1, h2, fun G2 H2 x2 => ⟨ρ, G2, u, x2.gh, (ev.ext x1).ext x2, h3, fun G3 H3 x3 => ?_⟩⟩⟩
    have xx := (x1.trans x2).trans x3
    cases r1 with
    | @tup pa va da hq z rv =>
      cases hf
      have r3 := rv.same (x2.gg.trans x3.gg)
      have h3 := sqT_same (x2.gg.trans x3.gg) hq
      refine ⟨_, _, rfl, sqT_same x3.gh h3, fun hw => ?_, fun _ p hp => ?_⟩
      · refine q _ G3 H3 xx (.tup h3 z ?_)
        have e1 : cutL da l u = da := by
          rw [rv.length] at hw
          unfold cutL
          rw [hw.1, hw.2, List.drop_zero, Nat.sub_zero, List.take_length]
        rw [e1]
        exact r3
      · have x4 := Ext.new x3.gh hp (.tup (cutV va l u))
        exact q _ _ _ (xx.trans x4) (.tup (SqT.of upd_same) (Nat.le_trans (cutV_length _ _ _) z) ((r3.cut l u).same x4.gg))
    | _ => cases hf
end
end LT
/-! # Pf3 -/
namespace LT
open PySem PySem.Spec PyProof.Rows L2
/-! ## truth -/
def bV (f : FE) : FB := fun ρ => match f ρ with
  | some (.bool b) => some b
  | _ => none
def bAnd (p q : FB) : FB := fun ρ => (p ρ).bind fun t => match t with
  | true => q ρ
  | false => some false
def bOr (p q : FB) : FB := fun ρ => (p ρ).bind fun t => match t with
  | true => some true
  | false => q ρ
def bNot (p : FB) : FB := fun ρ => (p ρ).map (!·)
def vAnd (f g : FE) : FE := fun ρ => match f ρ with
  | some (.bool true) => g ρ
  | some (.bool false) => some (.bool false)
  | _ => none
def vOr (f g : FE) : FE := fun ρ => match f ρ with
  | some (.bool true) => some (.bool true)
  | some (.bool false) => g ρ
  | _ => none
def vNot (f : FE) : FE := fun ρ => match f ρ with
  | some (.bool b) => some (.bool !b)
  | _ => none
def cIf (p : FB) (f g : FE) : FE := fun ρ => (p ρ).bind fun t => match t with
  | true => f ρ
  | false => g ρ
abbrev PWb (X : Cx) (e : Expr) (f : FB) : Prop := PW X e (tFB X.K f)
section
variable {X : Cx} {a b c e : Expr} {es rest : List Expr} {f g k : FE} {p q : FB} {pos : Pos}
theorem bV_some {ρ : Rho} {t : Bool} (h : bV f ρ = some t) : f ρ = some (.bool t) := by
  unfold bV at h
  split at h
  · cases h; assumption
  · cases h
theorem tB_of {σ : L2.St} {H : Hp} {Q : Bool → Hp → Prop} (h : tFB X.K (bV f) σ H Q) : tB (tF X.K f) σ H Q := by
  obtain ⟨ρ, G, t, sg, ev, hf, q⟩ := h
  refine ⟨ρ, G, .bool t, sg, ev, bV_some hf, fun v G1 H1 x1 r1 => ?_⟩
  cases r1
  exact ⟨t, rfl, q G1 H1 x1⟩
theorem pb_val (h : PF X e f) (he : ∀ whole, isTrue e X.env whole = (do let v ← whole; standAt e.pos; holding [v] (truthy v)) := by intro _; rfl) : PB X e (bV f) := pt_weak (pt_val h he) fun _ _ _ h => tB_of h
theorem pb_w (h : PWb X e p) : PB X e p := h.pt
theorem pwb_and1 (h : PB X a p) : PWb X (.BoolOp .And [a] pos) p := pw_and1 h
theorem pwb_or1 (h : PB X a p) : PWb X (.BoolOp .Or [a] pos) p := pw_or1 h
theorem pwb_and (h1 : PB X a p) (h2 : PWb X (.BoolOp .And (b :: rest) pos) q) : PWb X (.BoolOp .And (a :: b :: rest) pos) (bAnd p q) := pw_weak (pw_and h1 h2) fun σ H Q ⟨ρ, G, t, sg, ev, hf, k⟩ => by
  obtain ⟨t1, e1, hf⟩ := Option.bind_eq_some_iff.mp hf
  refine ⟨ρ, G, t1, sg, ev, e1, fun G1 H1 x1 => ?_⟩
  cases t1 with
  | true => exact iteT ⟨ρ, G1, t, x1.gh, ev.ext x1, hf, fun G2 H2 x2 => k G2 H2 (x1.trans x2)⟩
  | false => cases hf; exact iteF (k G1 H1 x1)
theorem pwb_or (h1 : PB X a p) (h2 : PWb X (.BoolOp .Or (b :: rest) pos) q) : PWb X (.BoolOp .Or (a :: b :: rest) pos) (bOr p q) := pw_weak (pw_or h1 h2) fun σ H Q ⟨ρ, G, t, sg, ev, hf, k⟩ => by
  obtain ⟨t1, e1, hf⟩ := Option.bind_eq_some_iff.mp hf
  refine ⟨ρ, G, t1, sg, ev, e1, fun G1 H1 x1 => ?_⟩
  cases t1 with
  | false => exact iteF ⟨ρ, G1, t, x1.gh, ev.ext x1, hf, fun G2 H2 x2 => k G2 H2 (x1.trans x2)⟩
  | true => cases hf; exact iteT (k G1 H1 x1)
theorem pb_not (h : PB X a p) : PB X (.UnaryOp .Not a pos) (bNot p) := pt_weak (pt_not h) fun σ H Q ⟨ρ, G, t, sg, ev, hf, k⟩ => by
  obtain ⟨t1, e1, rfl⟩ := Option.map_eq_some_iff.mp hf
  exact ⟨ρ, G, t1, sg, ev, e1, k⟩
theorem pf_one {op : BoolOp} (h : PF X a f) : PF X (.BoolOp op [a] pos) f := pe_one h
theorem pf_and (h1 : PF X a f) (h2 : PF X (.BoolOp .And (b :: rest) pos) g) : PF X (.BoolOp .And (a :: b :: rest) pos) (vAnd f g) := pe_weak (pe_and h1 h2) fun σ H Q ⟨ρ, G, d, sg, ev, hf, k⟩ => by
  unfold vAnd at hf
  split at hf
  · rename_i e1
    refine ⟨ρ, G, _, sg, ev, e1, fun v G1 H1 x1 r1 => ?_⟩
    cases r1
    exact ⟨true, rfl, iteT ⟨ρ, G1, d, x1.gh, ev.ext x1, hf, fun v G2 H2 x2 => k v G2 H2 (x1.trans x2)⟩⟩
  · rename_i e1
    cases hf
    refine ⟨ρ, G, _, sg, ev, e1, fun v G1 H1 x1 r1 => ?_⟩
    cases r1
    exact ⟨false, rfl, iteF (k _ G1 H1 x1 (.bl false))⟩
  · cases hf
theorem pf_or (h1 : PF X a f) (h2 : PF X (.BoolOp .Or (b :: rest) pos) g) : PF X (.BoolOp .Or (a :: b :: rest) pos) (vOr f g) := pe_weak (pe_or h1 h2) fun σ H Q ⟨ρ, G, d, sg, ev, hf, k⟩ => by
  unfold vOr at hf
  split at hf
  · rename_i e1
    cases hf
    refine ⟨ρ, G, _, sg, ev, e1, fun v G1 H1 x1 r1 => ?_⟩
    cases r1
    exact ⟨true, rfl, iteT (k _ G1 H1 x1 (.bl true))⟩
  · rename_i e1
    refine ⟨ρ, G, _, sg, ev, e1, fun v G1 H1 x1 r1 => ?_⟩
    cases r1
    exact ⟨false, rfl, iteF ⟨ρ, G1, d, x1.gh, ev.ext x1, hf, fun v G2 H2 x2 => k v G2 H2 (x1.trans x2)⟩⟩
  · cases hf
theorem pf_not (h1 : PF X a f) : PF X (.UnaryOp .Not a pos) (vNot f) := pe_weak (pe_not h1) fun σ H Q ⟨ρ, G, d, sg, ev, hf, k⟩ => by
  unfold vNot at hf
  split at hf
  · rename_i b0 e1
    cases hf
    refine ⟨ρ, G, _, sg, ev, e1, fun v G1 H1 x1 r1 => ?_⟩
    cases r1
    exact ⟨b0, rfl, k _ G1 H1 x1 (.bl _)⟩
  · cases hf
theorem pf_if (hc : PB X c p) (ha : PF X a f) (hb : PF X b g) : PF X (.IfExp c a b pos) (cIf p f g) := pe_weak (pe_ifExp hc ha hb) fun σ H Q ⟨ρ, G, d, sg, ev, hf, k⟩ => by
  obtain ⟨t, e1, hf⟩ := Option.bind_eq_some_iff.mp hf
  refine ⟨ρ, G, t, sg, ev, e1, fun G1 H1 x1 => ?_⟩
  cases t with
  | true => exact iteT ⟨ρ, G1, d, x1.gh, ev.ext x1, hf, fun v G2 H2 x2 => k v G2 H2 (x1.trans x2)⟩
  | false => exact iteF ⟨ρ, G1, d, x1.gh, ev.ext x1, hf, fun v G2 H2 x2 => k v G2 H2 (x1.trans x2)⟩

/-! ## calls -/
end
/-- a def that is a function of data: n arguments, the answer of F -/
def spD (n : Nat) (F : List D → Option D) (K : KF) : Sp := fun vs H Q _ => ∃ (G : Hp) (ds : List D) (d : D), Same G H ∧ RpL K G vs ds ∧ ds.length = n ∧ F ds = some d ∧ ∀ v G' H', Ext G H G' H' → Rp K G' v d → Q v H'
/-- the module's name x is such a def, at most k levels deep -/
def FokP (P : Program) (w : World) (K : KF) (mg : Str → Option Value) (base : Heap) (k : Nat) (x : Str) (ps : List Str) (F : List D → Option D) : Prop :=
  ∃ (f : Addr) (fd : FuncData), FnOk P w K mg base CX0 k f fd ps (spD ps.length F K) ∧ mg x = some (.ref f) ∧ PySem.W.keepIn K (.ref f) = true ∧ Binds K fd ps []
def cCall (n : Nat) (F : List D → Option D) (fl : FL) : FE := fun ρ => (fl ρ).bind fun ds => if ds.length = n then F ds else none
def cB (h : D → Option D) (f : FE) : FE := fun ρ => (f ρ).bind h
/-- what a built-in makes of one datum -/
def rB (K : KF) (h : D → Option D) : List V → Hp → VK → Prop := fun xs H Q => ∃ (G : Hp) (v : V) (d r : D), xs = [v] ∧ Same G H ∧ Rp K G v d ∧ h d = some r ∧ ∀ v G' H', Ext G H G' H' → Rp K G' v r → Q v H'
section
variable {X : Cx} {a b c e : Expr} {es rest : List Expr} {f g : FE} {p q : FB} {pos p1 : Pos} {x : Str} {k : Nat}
theorem pf_call {ps : List Str} {m : Nat} {F : List D → Option D} {fl : FL} (h : FokP X.prog X.w X.K X.mg X.base k x ps F) (hr : Room k X.A) (hg : Gl X x) (ha : PL X (e :: es) fl) (hd : (x == ("__debug__" : Str)) = false := by decide)
    (he : starEach (e :: es) X.env = (false, eval e X.env) :: starEach es X.env := by rfl) (hpl : (backTo pos (starEach es X.env)).any (·.1) = false := by rfl) (hn : ps.length = m := by rfl) :
    PF X (.Call (.Name x p1) (e :: es) [] pos) (cCall m F fl) := by
  subst hn
  obtain ⟨f, fd, hF, hm, hk, hb⟩ := h
  refine pe_weak (pe_call hF hr hg hm hk hb .nil pass0 ha hd he hpl) fun σ H Q ⟨ρ, G, d, sg, ev, hf, q⟩ => ?_
  obtain ⟨ds, h1, hf⟩ := Option.bind_eq_some_iff.mp hf
  refine ⟨ρ, G, ds, sg, ev, h1, fun vs G1 H1 x1 r1 => ?_⟩
  have z : ds.length = ps.length ∧ F ds = some d := by
    split at hf
    · exact ⟨by assumption, hf⟩
    · cases hf
  show spD _ _ _ (vs ++ []) H1 Q _
  rw [List.append_nil]
  exact ⟨G1, ds, d, x1.gh, r1, z.1, z.2, fun v G2 H2 x2 r2 => q v G2 H2 (x1.trans x2) r2⟩
theorem callr_weak {fv : Value} {r r' : List V → Hp → VK → Prop} (h : CallR X fv r) (w : ∀ xs H Q, r' xs H Q → r xs H Q) : CallR X fv r' := fun pins s σ H xs us Q I r q => h pins s σ H xs us Q I r (w xs H Q q)
theorem cB_of {h : D → Option D} {σ : L2.St} {H : Hp} {Q : VK} (w : tF X.K (cB h f) σ H Q) : tCB (rB X.K h) (tCons (tF X.K f) tNil) σ H Q := by
  obtain ⟨ρ, G, d, sg, ev, hf, q⟩ := w
  obtain ⟨y, h1, h2⟩ := Option.bind_eq_some_iff.mp hf
  exact ⟨ρ, G, y, sg, ev, h1, fun v G1 H1 x1 r1 => ⟨G1, v, y, d, rfl, x1.gh, r1, h2, fun v G2 H2 x2 r2 => q v G2 H2 (x1.trans x2) r2⟩⟩
theorem pf_cb {id : String} {h : D → Option D} (hc : CallR X (.builtin id) (rB X.K h)) (hg : Gl X x) (hm : X.mg x = none) (hv : bootBuiltins x = some (.builtin id)) (ha : PF X e f) (hn : x ≠ "__name__" := by decide) (hd : (x == ("__debug__" : Str)) = false := by decide)
    (hs : starEach [e] X.env = (false, eval e X.env) :: starEach [] X.env := by rfl) : PF X (.Call (.Name x p1) [e] [] pos) (cB h f) := pe_weak (pe_callB hc hg hm hv (pa_cons ha pa_nil hs) hn hd hs) fun _ _ _ w => cB_of w
theorem pf_ct {id : String} {h : D → Option D} (hc : CallR X (.type id) (rB X.K h)) (hg : Gl X x) (hm : X.mg x = none) (hv : bootBuiltins x = some (.type id)) (ha : PF X e f) (hn : x ≠ "__name__" := by decide) (hd : (x == ("__debug__" : Str)) = false := by decide)
    (hs : starEach [e] X.env = (false, eval e X.env) :: starEach [] X.env := by rfl) : PF X (.Call (.Name x p1) [e] [] pos) (cB h f) := pe_weak (pe_callTy hc hg hm hv (pa_cons ha pa_nil hs) hn hd hs) fun _ _ _ w => cB_of w
/-! ### len, list, tuple, all, any -/
def lenH (d : D) : Option D := (itemsD d).map fun xs => .int xs.length
def listH (d : D) : Option D := (itemsD d).map .list
def tupleH (d : D) : Option D := (itemsD d).map .tuple
def boolsD : List D → Option (List Bool)
  | [] => some []
  | .bool b :: ds => (boolsD ds).map (b :: ·)
  | _ => none
def allH (d : D) : Option D := match d with
  | .list ds => (boolsD ds).map fun bs => .bool (bs.all id)
  | _ => none
def anyH (d : D) : Option D := match d with
  | .list ds => (boolsD ds).map fun bs => .bool (bs.any id)
  | _ => none
theorem cr_len : CallR X (.builtin "len") (rB X.K lenH) := callr_weak call_len_seq fun xs H Q ⟨G, v, d, r, e1, sg, rd, h, q⟩ => by
  obtain ⟨ys, h1, rfl⟩ := Option.map_eq_some_iff.mp h
  obtain ⟨a, vs, rfl, hq, z, rv⟩ := rd.items h1
  refine ⟨a, vs, e1, ?_, ?_⟩
  · rcases hq with hq | hq
    · exact .inr (sqT_same sg hq)
    · exact .inl (sg.seq hq)
  · rw [rv.length]
    exact q _ G H (Ext.refl sg) (.int _)
theorem cr_list : CallR X (.type "list") (rB X.K listH) := callr_weak call_list_of fun xs H Q ⟨G, v, d, r, e1, sg, rd, h, q⟩ => by
  obtain ⟨ys, h1, rfl⟩ := Option.map_eq_some_iff.mp h
  obtain ⟨a, vs, rfl, hq, z, rv⟩ := rd.items h1
  refine ⟨a, vs, e1, ?_, fun l hl => ?_⟩
  · rcases hq with hq | hq
    · exact .inr (sqT_same sg hq)
    · exact .inl (sg.seq hq)
  · have x2 := Ext.new sg hl (.lst vs)
    exact q _ _ _ x2 (.lst upd_same z (rv.same x2.gg))
theorem cr_tuple : CallR X (.type "tuple") (rB X.K tupleH) := callr_weak call_tuple_of fun xs H Q ⟨G, v, d, r, e1, sg, rd, h, q⟩ => by
  obtain ⟨ys, h1, rfl⟩ := Option.map_eq_some_iff.mp h
  cases rd with
  | @lst pa va da hq z rv =>
    cases h1
    refine ⟨pa, va, e1, .inl ⟨sg.seq (SqL.of hq), fun l hl => ?_⟩⟩
    have x2 := Ext.new sg hl (.tup va)
    exact q _ _ _ x2 (.tup (SqT.of upd_same) z (rv.same x2.gg))
  | @tup pa va da hq z rv =>
    cases h1
    exact ⟨pa, va, e1, .inr ⟨sqT_same sg hq, q _ G H (Ext.refl sg) (.tup hq z rv)⟩⟩
  | _ => cases h1
theorem RpL.bools {K : KF} {G : Hp} : ∀ {ds : List D} {vs : List V} {bs : List Bool}, RpL K G vs ds → boolsD ds = some bs → vs = bs.map V.bl
  | [], _, _, .nil, h => by cases h; rfl
  | d :: ds, _, _, .cons h1 r, h => by
    cases d with
    | bool b =>
      obtain ⟨cs, h2, rfl⟩ := Option.map_eq_some_iff.mp h
      cases h1
      rw [RpL.bools r h2] <;> rfl
    | _ => cases h
theorem cr_allD (hc : X.calm = true) : CallR X (.builtin "all") (rB X.K allH) := callr_weak (L2.cr_all hc) fun xs H Q ⟨G, v, d, r, e1, sg, rd, h, q⟩ => by
  cases rd with
  | @lst pa va da hq z rv =>
    obtain ⟨bs, h1, rfl⟩ := Option.map_eq_some_iff.mp h
    have e2 := rv.bools h1
    subst e2
    exact ⟨pa, bs, e1, sg.seq (SqL.of hq), q _ G H (Ext.refl sg) (.bl _)⟩
  | _ => cases h
theorem cr_anyD (hc : X.calm = true) : CallR X (.builtin "any") (rB X.K anyH) := callr_weak (L2.cr_any hc) fun xs H Q ⟨G, v, d, r, e1, sg, rd, h, q⟩ => by
  cases rd with
  | @lst pa va da hq z rv =>
    obtain ⟨bs, h1, rfl⟩ := Option.map_eq_some_iff.mp h
    have e2 := rv.bools h1
    subst e2
    exact ⟨pa, bs, e1, sg.seq (SqL.of hq), q _ G H (Ext.refl sg) (.bl _)⟩
  | _ => cases h
/-! ### isinstance -/
inductive Ty4 where
  | int | bool | tuple | str
def Ty4.name : Ty4 → String
  | .int => "int"
  | .bool => "bool"
  | .tuple => "tuple"
  | .str => "str"
def isH (t : Ty4) (d : D) : Option D := match t, d with
  | .int, .int _ => some (.bool true)
  | .bool, .int _ => some (.bool false)
  | .tuple, .tuple _ => some (.bool true)
  | .str, .str _ => some (.bool true)
  | _, _ => none
theorem Rp.tyTup {K : KF} {G H : Hp} (sg : Same G H) {a : Addr} {xs : List V} (h : SqT K G a xs) : TyX K H (.ref a) (.type "tuple") := by
  rcases h with (h | ⟨o, h⟩) | ⟨o, its, n, h1, h2, _⟩
  · exact .base (.tup (sg _ _ h))
  · exact .fTuple (sg _ _ h)
  · exact .kTuple h1 h2
theorem pf_isi {tn : Str} {p2 : Pos} (t : Ty4) (hg : Gl X "isinstance") (hm : X.mg "isinstance" = none) (ha : PF X e f) (hg2 : Gl X tn) (hm2 : X.mg tn = none) (hv2 : bootBuiltins tn = some (.type t.name)) (hn2 : tn ≠ "__name__" := by decide)
    (hd2 : (tn == ("__debug__" : Str)) = false := by decide) (hs : starEach [e, .Name tn p2] X.env = (false, eval e X.env) :: starEach [.Name tn p2] X.env := by rfl) : PF X (.Call (.Name "isinstance" p1) [e, .Name tn p2] [] pos) (cB (isH t) f) :=
  pe_weak (pe_callB call_isi hg hm boot_isinstance (pa_cons ha (pa_cons (pe_bltn (v := .ty t.name) hg2 hm2 hv2 rfl hn2 hd2) pa_nil) hs) (by decide) (by decide) hs) fun σ H Q ⟨ρ, G, d, sg, ev, hf, q⟩ => by
    obtain ⟨y, h1, h2⟩ := Option.bind_eq_some_iff.mp hf
    refine ⟨ρ, G, y, sg, ev, h1, fun v G1 H1 x1 r1 => ?_⟩
    have key : ∃ tv b, TyX X.K H1 v tv ∧ PySem.W.kitOne X.K tv (.type t.name) = some b ∧ d = .bool b := by
      cases t with
      | int =>
        cases r1 with
        | int i => cases h2; exact ⟨_, true, .base (.int i), kit_ty (by decide +kernel), rfl⟩
        | _ => cases h2
      | bool =>
        cases r1 with
        | int i => cases h2; exact ⟨_, false, .base (.int i), kit_ty (by decide +kernel), rfl⟩
        | _ => cases h2
      | tuple =>
        cases r1 with
        | tup hq z rv => cases h2; exact ⟨_, true, Rp.tyTup x1.gh hq, kit_ty (by decide +kernel), rfl⟩
        | _ => cases h2
      | str =>
        cases r1 with
        | str z hz => cases h2; exact ⟨_, true, .base (.str z), kit_ty (by decide +kernel), rfl⟩
        | _ => cases h2
    obtain ⟨tv, b0, ty, kt, rfl⟩ := key
    exact ⟨v, _, tv, _, b0, rfl, .ty _, ty, kt, q _ G1 H1 x1 (.bl b0)⟩
end
end LT
/-! # Pf4 -/
namespace LT
open PySem PySem.Spec PyProof.Rows L2
/-! ## targets -/
/-- slots as data, own lists outside of B -/
structure EnvB (K : KF) (B : Addr → Prop) (G H : Hp) (σ : L2.St) (ρ : Rho) : Prop where
  ev : EnvR K G H σ ρ
  nb : ∀ (i : Nat) ds a, ρ[i]? = some (.ow ds) → σ[i]? = some (some (.ref a)) → ¬ B a
theorem EnvB.ext {K : KF} {B : Addr → Prop} {G H G' H' : Hp} {σ : L2.St} {ρ : Rho} (e : EnvB K B G H σ ρ) (x : Ext G H G' H') : EnvB K B G' H' σ ρ := ⟨e.ev.ext x, e.nb⟩
theorem EnvB.set {K : KF} {B : Addr → Prop} {G H : Hp} {σ : L2.St} {ρ : Rho} (e : EnvB K B G H σ ρ) {v : V} {d : D} (r : Rp K G v d) (i : Nat) : EnvB K B G H (σ.set i (some v)) (ρ.set i (.im d)) := by
  refine ⟨e.ev.set r i, fun j ds a h1 h2 => ?_⟩
  rcases set_get h1 with ⟨_, z⟩ | ⟨ne, z⟩
  · cases z
  · rcases set_get h2 with ⟨z2, _⟩ | ⟨_, z2⟩
    · exact absurd z2 ne
    · exact e.nb j ds a z z2
def bdN (i : Nat) : D → Rho → Option Rho := fun d ρ => some (ρ.set i (.im d))
def setsR : List Nat → List D → Rho → Option Rho
  | [], [], ρ => some ρ
  | i :: is, d :: ds, ρ => setsR is ds (ρ.set i (.im d))
  | _, _, _ => none
def bdT (is : List Nat) : D → Rho → Option Rho := fun d ρ => match d with
  | .tuple ds => setsR is ds ρ
  | _ => none
def gNames : List Nat → TGs
  | [] => gNil
  | i :: is => gCons (gName i) (gNames is)
/-- a target that binds the slots is as bd says -/
def TgF (K : KF) (g : TG) (bd : D → Rho → Option Rho) (is : List Nat) : Prop := ∀ (B : Addr → Prop) v σ H G ρ ρ' d (Q : L2.St → Hp → Prop), Same G H → EnvB K B G H σ ρ → Rp K G v d → bd d ρ = some ρ' →
  (∀ σ', EnvB K B G H σ' ρ' → (∀ vs : List Nat, (∀ i ∈ is, i ∈ vs) → wipe σ' vs = wipe σ vs) → Q σ' H) → g v σ H Q
theorem set_comm2 {α : Type} {l : List α} {i j : Nat} {x y : α} (h : i ≠ j) : (l.set i x).set j y = (l.set j y).set i x := List.set_comm x y h
theorem wipe_set {σ : L2.St} {i : Nat} {x : Option V} : ∀ {vs : List Nat}, i ∈ vs → wipe (σ.set i x) vs = wipe σ vs
  | v :: vs, h => by
    unfold wipe
    by_cases e : i ∈ vs
    · rw [wipe_set e]
    · have e2 : i = v := by
        rcases List.mem_cons.mp h with z | z
        · exact z
        · exact absurd z e
      subst e2
      have key : ∀ (us : List Nat), i ∉ us → wipe (σ.set i x) us = (wipe σ us).set i x := by
        intro us
        induction us with
        | nil => intro _; rfl
        | cons u us ih =>
          intro hu
          simp only [List.mem_cons, not_or] at hu
          unfold wipe
          rw [ih hu.2, set_comm2 hu.1]
      rw [key vs e, List.set_set]
section
variable {K : KF}
theorem tg_name (i : Nat) : TgF K (gName i) (bdN i) [i] := fun B v σ H G ρ ρ' d Q sg ev r h q => by
  cases h
  exact q _ (ev.set r i) fun vs hv => wipe_set (hv i List.mem_cons_self)
theorem gNames_ok : ∀ (is : List Nat) (B : Addr → Prop) (vs : List V) σ H G ρ ρ' (ds : List D) (Q : L2.St → Hp → Prop), Same G H → EnvB K B G H σ ρ → RpL K G vs ds → setsR is ds ρ = some ρ' →
    (∀ σ', EnvB K B G H σ' ρ' → (∀ us : List Nat, (∀ i ∈ is, i ∈ us) → wipe σ' us = wipe σ us) → Q σ' H) → gNames is vs σ H Q
  | [], B, vs, σ, H, G, ρ, ρ', [], Q, sg, ev, r, h, q => by
    cases h
    cases r
    exact ⟨rfl, q σ ev fun _ _ => rfl⟩
  | i :: is, B, _, σ, H, G, ρ, ρ', d :: ds, Q, sg, ev, .cons r1 r2, h, q => ⟨_, _, rfl, gNames_ok is B _ _ H G _ ρ' ds Q sg (ev.set r1 i) r2 h fun σ' e' w => q σ' e' fun us hu => by
      rw [w us fun j hj => hu j (List.mem_cons_of_mem _ hj), wipe_set (hu i List.mem_cons_self)]⟩
  | [], _, _, _, _, _, _, _, _ :: _, _, _, _, _, h, _ => by cases h
  | _ :: _, _, _, _, _, _, _, _, [], _, _, _, _, h, _ => by cases h
theorem setsR_len : ∀ {is : List Nat} {ds : List D} {ρ ρ' : Rho}, setsR is ds ρ = some ρ' → ds.length = is.length
  | [], [], _, _, _ => rfl
  | _ :: _, _ :: _, _, _, h => congrArg (· + 1) (setsR_len (by unfold setsR at h; exact h))
  | [], _ :: _, _, _, h => by cases h
  | _ :: _, [], _, _, h => by cases h
theorem tg_tup (is : List Nat) {n : Nat} (hn : n = is.length) : TgF K (gTup K n (gNames is)) (bdT is) is := fun B v σ H G ρ ρ' d Q sg ev r h q => by
  subst hn
  cases r with
  | @tup pa va da hq z rv => exact ⟨pa, va, rfl, sqT_same sg hq, rv.length.trans (setsR_len h), gNames_ok is B va σ H G ρ ρ' da Q sg ev rv h q⟩
  | _ => cases h
end

/-! ## what is walked -/
/-- J gives the data ds, one by one, while G stands -/
structure Yl (K : KF) (ds : List D) (G : Hp) (J : It) (Gd : Hp → Prop) (Y : Nat → Hp → V → Hp → Prop) : Prop where
  w : Walk J ds.length Gd Y
  gd : ∀ H, Same G H → Gd H
  y : ∀ i H x H', i < ds.length → Same G H → Y i H x H' → ∃ d, ds[i]? = some d ∧ ∀ G1, Same G G1 → Same G1 H → ∃ G2, Ext G1 H G2 H' ∧ Rp K G2 x d
  z : ds.length ≤ sizeLine
def tFI (K : KF) (f : FL) : TI := fun σ H R => ∃ (ρ : Rho) (G : Hp) (ds : List D), Same G H ∧ EnvR K G H σ ρ ∧ f ρ = some ds ∧ ∀ J Gd Y G' H', Ext G H G' H' → Yl K ds G' J Gd Y → R J H'
abbrev PFI (X : Cx) (tg iter : Expr) (f : FL) : Prop := PI X tg iter (tFI X.K f)
theorem pi_weak {X : Cx} {tg iter : Expr} {t t' : TI} (h : PI X tg iter t) (w : ∀ σ H R, t' σ H R → t σ H R) : PI X tg iter t' := ⟨fun pins s σ H R I q => h.run pins s σ H R I (w σ H R q)⟩
def itL (f : FE) : FL := fun ρ => match f ρ with
  | some (.list xs) => some xs
  | _ => none
def itT (f : FE) : FL := fun ρ => match f ρ with
  | some (.tuple xs) => some xs
  | _ => none
def rangeD (lo : Int) (n : Nat) : List D := (List.range n).map fun i => .int (lo + (i : Nat))
def itR1 (f : FE) : FL := fun ρ => match f ρ with
  | some (.int j) => if (-1000 ≤ j) ∧ j ≤ 1000 then some (rangeD 0 j.toNat) else none
  | _ => none
def itR2 (f g : FE) : FL := fun ρ => (f ρ).bind fun x => (g ρ).bind fun y => match x, y with
  | .int i, .int j => if ((-1000 ≤ i) ∧ i ≤ 1000) ∧ (-1000 ≤ j) ∧ j ≤ 1000 then some (rangeD i (j - i).toNat) else none
  | _, _ => none
def enumD (xs : List D) : List D := (List.range xs.length).zipWith (fun (i : Nat) x => .tuple [.int (i : Int), x]) xs
def itEnum (f : FE) : FL := fun ρ => match f ρ with
  | some (.tuple xs) => some (enumD xs)
  | _ => none
section
variable {K : KF} {G : Hp} {a : Addr} {xs : List V} {ds : List D}
theorem yl_list (h : G a = some (.lst xs)) (z : xs.length ≤ sizeLine) (r : RpL K G xs ds) : Yl K ds G (Itl K a) (fun H => SqL K H a xs) (YAt xs) := by
  refine ⟨by rw [← r.length]; exact walk_list, fun H s => SqL.of (s _ _ h), fun i H x H' hi s ⟨e, y⟩ => ?_, by rw [← r.length]; exact z⟩
  obtain ⟨d, h1, h2⟩ := r.get2 y
  subst e
  exact ⟨d, h1, fun G1 s1 s2 => ⟨G1, Ext.refl s2, h2.same s1⟩⟩
theorem yl_tup (h : SqT K G a xs) (z : xs.length ≤ sizeLine) (r : RpL K G xs ds) : Yl K ds G (Itt K a) (fun H => SqT K H a xs) (YAt xs) := by
  refine ⟨by rw [← r.length]; exact walk_tup, fun H s => sqT_same s h, fun i H x H' hi s ⟨e, y⟩ => ?_, by rw [← r.length]; exact z⟩
  obtain ⟨d, h1, h2⟩ := r.get2 y
  subst e
  exact ⟨d, h1, fun G1 s1 s2 => ⟨G1, Ext.refl s2, h2.same s1⟩⟩
theorem rangeD_len (lo : Int) (n : Nat) : (rangeD lo n).length = n := by simp [rangeD]
theorem yl_range (lo : Int) (n : Nat) (z : n ≤ sizeLine) : Yl K (rangeD lo n) G (Itr lo n) (fun _ => True) (YFn fun i => .int (lo + (i : Nat))) := by
  refine ⟨by rw [rangeD_len]; exact walk_range, fun H s => trivial, fun i H x H' hi s ⟨e, y⟩ => ?_, by rw [rangeD_len]; exact z⟩
  subst e y
  rw [rangeD_len] at hi
  exact ⟨.int (lo + (i : Nat)), by simp [rangeD, hi], fun G1 s1 s2 => ⟨G1, Ext.refl s2, .int _⟩⟩
end
section
variable {X : Cx} {a b tg : Expr} {f g : FE} {p pos : Pos}
theorem pfi_list (h : PF X a f) : PFI X tg a (itL f) := pi_weak (pi_list h) fun σ H R ⟨ρ, G, ds, sg, ev, hf, q⟩ => by
  unfold itL at hf
  split at hf
  · rename_i e1
    cases hf
    refine ⟨ρ, G, _, sg, ev, e1, fun v G1 H1 x1 r1 => ?_⟩
    cases r1 with
    | @lst pa va da hq z rv => exact ⟨pa, rfl, ⟨va, x1.gh.seq (SqL.of hq)⟩, q _ _ _ G1 H1 x1 (yl_list hq z rv)⟩
  · cases hf
theorem pfi_tup (h : PF X a f) : PFI X tg a (itT f) := pi_weak (pi_tup h) fun σ H R ⟨ρ, G, ds, sg, ev, hf, q⟩ => by
  unfold itT at hf
  split at hf
  · rename_i e1
    cases hf
    refine ⟨ρ, G, _, sg, ev, e1, fun v G1 H1 x1 r1 => ?_⟩
    cases r1 with
    | @tup pa va da hq z rv => exact ⟨pa, rfl, ⟨va, sqT_same x1.gh hq⟩, q _ _ _ G1 H1 x1 (yl_tup hq z rv)⟩
  · cases hf
theorem pfi_range1 (hg : Gl X "range") (hm : X.mg "range" = none) (h : PF X a f) (hs : starEach [a] X.env = [(false, eval a X.env)] := by rfl) : PFI X tg (.Call (.Name "range" p) [a] [] pos) (itR1 f) :=
  pi_weak (pi_range1 hg hm (pa_cons h pa_nil hs) hs) fun σ H R ⟨ρ, G, ds, sg, ev, hf, q⟩ => by
    unfold itR1 at hf
    split at hf
    · rename_i j e1
      obtain ⟨⟨z1, z2⟩, rfl⟩ := ite_some hf
      refine ⟨ρ, G, _, sg, ev, e1, fun v G1 H1 x1 r1 => ?_⟩
      cases r1
      exact ⟨j, rfl, by omega, by omega, q _ _ _ G1 H1 x1 (yl_range 0 _ (by rw [sizeLine_eq]; omega))⟩
    · cases hf
theorem pfi_range2 (hg : Gl X "range") (hm : X.mg "range" = none) (h : PF X a f) (h2 : PF X b g) (hs : starEach [a, b] X.env = [(false, eval a X.env), (false, eval b X.env)] := by rfl) (hs2 : starEach [b] X.env = [(false, eval b X.env)] := by rfl) :
    PFI X tg (.Call (.Name "range" p) [a, b] [] pos) (itR2 f g) :=
  pi_weak (pi_range2 hg hm (pa_cons h (pa_cons h2 pa_nil hs2) (by rw [hs, hs2])) hs hs2) fun σ H R ⟨ρ, G, ds, sg, ev, hf, q⟩ => by
    obtain ⟨x, e1, hf⟩ := Option.bind_eq_some_iff.mp hf
    obtain ⟨y, e2, hf⟩ := Option.bind_eq_some_iff.mp hf
    refine ⟨ρ, G, x, sg, ev, e1, fun v G1 H1 x1 r1 => ⟨ρ, G1, y, x1.gh, ev.ext x1, e2, fun u G2 H2 x2 r2 => ?_⟩⟩
    cases r1 with
    | int i =>
      cases r2 with
      | int j =>
        obtain ⟨⟨⟨z1, z2⟩, z3, z4⟩, rfl⟩ := ite_some hf
        exact ⟨i, j, rfl, ⟨by omega, by omega, by omega, by omega⟩, q _ _ _ G2 H2 (x1.trans x2) (yl_range i _ (by rw [sizeLine_eq]; omega))⟩
      | _ => cases hf
    | _ => cases hf
end

/-! ## comprehensions -/
def lcGo (bd : D → Rho → Option Rho) (ft : FB) (fe : FE) (ρ : Rho) : List D → Option (List D)
  | [] => some []
  | d :: ds => (bd d ρ).bind fun ρ' => (ft ρ').bind fun t => match t with
    | true => (fe ρ').bind fun y => (lcGo bd ft fe ρ ds).bind fun ys => some (y :: ys)
    | false => lcGo bd ft fe ρ ds
def cLc (fi : FL) (bd : D → Rho → Option Rho) (ft : FB) (fe : FE) (vs : List Nat) : FE := fun ρ => (fi ρ).bind fun ds => (lcGo bd ft fe (wipeR ρ vs) ds).map .list
def bYes : FB := fun _ => some true
theorem EnvB.free {K : KF} {G H : Hp} {σ : L2.St} {ρ : Rho} (e : EnvR K G H σ ρ) : EnvB K (fun _ => False) G H σ ρ := ⟨e, fun _ _ _ _ _ h => h⟩
theorem lc_of {K : KF} {fi : FL} {g : TG} {bd : D → Rho → Option Rho} {ft : FB} {fe : FE} {is vs : List Nat} (tg : TgF K g bd is) (hv : ∀ i ∈ is, i ∈ vs) {σ : L2.St} {H : Hp} {Q : VK} (w : tF K (cLc fi bd ft fe vs) σ H Q) : tLc (tFI K fi) g (tFB K ft) (tF K fe) vs σ H Q := by
  obtain ⟨ρ, G, d, sg, ev, hf, q⟩ := w
  obtain ⟨ds, h1, hf⟩ := Option.bind_eq_some_iff.mp hf
  obtain ⟨zs, h2, rfl⟩ := Option.map_eq_some_iff.mp hf
  refine ⟨ρ, G, ds, sg, ev, h1, fun J Gd Y G1 H1 x1 yl P nP => ?_⟩
  have gP := none_of_same x1.gh nP
  have hP : H P = none := x1.hh.free nP
  refine lc_it yl.w (fun i H' => ∃ (Gi : Hp) (xs : List V) (ys rest : List D), Ext G1 H1 Gi H' ∧ H' P = some (.lst xs) ∧ Gi P = none ∧ xs.length ≤ i ∧ RpL K Gi xs ys ∧ lcGo bd ft fe (wipeR ρ vs) (ds.drop i) = some rest ∧ ys ++ rest = zs) ?_ ?_ ?_ ?_
  · exact ⟨G1, [], [], zs, Ext.only x1.gh (same_upd nP _), upd_same, gP, Nat.zero_le _, .nil, h2, rfl⟩
  · rintro i H' _ ⟨Gi, xs, ys, rest, x2, _⟩
    exact yl.gd H' (x2.gg.trans x2.gh)
  · rintro i x H' H'' hi ⟨Gi, xs, ys, rest, x2, e1, e2, e3, e4, e5, e6⟩ hy
    obtain ⟨d, hd, hk⟩ := yl.y i H' x H'' hi (x2.gg.trans x2.gh) hy
    obtain ⟨G2, x3, r3⟩ := hk Gi x2.gg x2.gh
    have hdr : ds.drop i = d :: ds.drop (i + 1) := by
      rw [List.drop_eq_getElem_cons hi]
      have : ds[i]? = some ds[i] := List.getElem?_eq_getElem hi
      rw [hd] at this
      rw [Option.some.inj this]
    rw [hdr] at e5
    unfold lcGo at e5
    obtain ⟨ρ', b1, e5⟩ := Option.bind_eq_some_iff.mp e5
    obtain ⟨t, b2, e5⟩ := Option.bind_eq_some_iff.mp e5
    have evw : EnvB K (fun _ => False) G2 H'' (wipe σ vs) (wipeR ρ vs) := EnvB.free ((((ev.ext x1).ext x2).ext x3).wipe vs)
    refine tg _ x _ H'' G2 _ ρ' d _ x3.gh evw r3 b1 fun σ' ev' hw => ⟨?_, ?_⟩
    · rw [hw vs hv]
      have key : ∀ us : List Nat, wipe (wipe σ us) us = wipe σ us := by
        intro us
        apply List.ext_getElem?
        intro j
        by_cases hj : j ∈ us
        · have none_at : ∀ (τ : L2.St) (zs : List Nat), j ∈ zs → τ.length = σ.length → (wipe τ zs)[j]? = if j < σ.length then some none else none := by
            intro τ zs
            induction zs with
            | nil => intro h _; cases h
            | cons z zs ih =>
              intro h hl
              unfold wipe
              by_cases ez : z = j
              · subst ez
                by_cases hlt : z < σ.length
                · rw [List.getElem?_set_self (by rw [wipe_length, hl]; exact hlt), if_pos hlt]
                · rw [List.getElem?_eq_none (by rw [List.length_set, wipe_length, hl]; omega), if_neg hlt]
              · rw [List.getElem?_set_ne ez]
                rcases List.mem_cons.mp h with q | q
                · exact absurd q.symm ez
                · exact ih q hl
          rw [none_at _ us hj (by rw [wipe_length]), none_at _ us hj rfl]
        · rw [wipe_at hj]
      exact key vs
    refine ⟨ρ', G2, t, x3.gh, ev'.ev, b2, fun G3 H3 x4 => ?_⟩
    have xx := (x2.trans x3).trans x4
    have hP3 : H3 P = some (.lst xs) := x4.hh _ _ (x3.hh _ _ e1)
    have gP3 : G3 P = none := x4.keep (x3.keep e2 e1) (x3.hh _ _ e1)
    cases t with
    | false =>
      exact iteF ⟨G3, xs, ys, rest, xx, hP3, gP3, Nat.le_succ_of_le e3, e4.same (x3.gg.trans x4.gg), e5, e6⟩
    | true =>
      obtain ⟨y, b3, e5⟩ := Option.bind_eq_some_iff.mp e5
      obtain ⟨rs, b4, e5⟩ := Option.bind_eq_some_iff.mp e5
      cases e5
      refine iteT ⟨ρ', G3, y, x4.gh, ev'.ev.ext x4, b3, fun v G4 H4 x5 r5 => ⟨xs, x5.hh _ _ hP3, ?_, ?_⟩⟩
      · have := yl.z
        omega
      · have gP4 := x5.keep gP3 hP3
        have xy := xx.trans x5
        refine ⟨G4, xs ++ [v], ys ++ [y], rs, ⟨fun b u hb => ?_, xy.gg, fun b u hb => ?_, xy.nw⟩, upd_same, gP4, by rw [List.length_append]; show xs.length + 1 ≤ i + 1; omega, (e4.same (x3.gg.trans (x4.gg.trans x5.gg))).snoc r5, b4, by rw [List.append_assoc]; exact e6⟩
        · rw [upd_ne (ne_of_none hb nP)]
          exact xy.hh b u hb
        · rw [upd_ne (ne_of_none hb gP4)]
          exact xy.gh b u hb
  · rintro H' ⟨Gi, xs, ys, rest, x2, e1, e2, e3, e4, e5, e6⟩
    rw [List.drop_length] at e5
    cases e5
    rw [List.append_nil] at e6
    subst e6
    have x12 := x1.trans x2
    refine q (.ref P) (upd Gi P (.lst xs)) H' ⟨x12.hh, x12.gg.trans (same_upd e2 _), fun b u hb => ?_, fun b hb => ?_⟩ (.lst upd_same (Nat.le_trans e3 yl.z) (e4.same (same_upd e2 _)))
    · by_cases eb : b = P
      · subst eb; rw [upd_same] at hb; rw [← hb]; exact e1
      · rw [upd_ne eb] at hb; exact x2.gh b u hb
    · by_cases eb : b = P
      · subst eb; exact .inr hP
      · rw [upd_ne eb] at hb; exact x12.nw b hb
section
variable {X : Cx} {elt tg iter : Expr} {ifs : List Expr} {scope : Scope} {own : List (Str × Nat)} {pos : Pos} {fi : FL} {g : TG} {bd : D → Rho → Option Rho} {ft : FB} {fe : FE} {is : List Nat}
theorem pf_lc {vs : List Nat} (hc : X.calm = true) (hN : X.N.Nodup) (tgf : TgF X.K g bd is) (hv : ∀ i ∈ is, i ∈ vs) (hi : PFI X tg iter fi) (ok : BlkOk X.N X.env.scope scope own)
    (hg : ∀ (s : Shared) (H : Hp) (C : Addr) (cl : List (Str × Addr)) (fp : List Addr), PG (X.blk s H scope (compEnvC scope cl C X.env) fp) tg g)
    (ht : ∀ (s : Shared) (H : Hp) (C : Addr) (cl : List (Str × Addr)) (fp : List Addr), PTs (X.blk s H scope (compEnvC scope cl C X.env) fp) ifs (tFB X.K ft))
    (he : ∀ (s : Shared) (H : Hp) (C : Addr) (cl : List (Str × Addr)) (fp : List Addr), PF (X.blk s H scope (compEnvC scope cl C X.env) fp) elt fe) (hs : ∀ x, foldedSetIterable iter X.env x = pure x := by intro _; rfl) (hvs : own.map (·.2) = vs := by rfl) :
    PF X (.ListComp elt [⟨tg, iter, ifs, 0⟩] scope pos) (cLc fi bd ft fe vs) := by
  subst hvs
  exact pe_weak (pe_lc hc hN hi ok hg ht he hs) fun _ _ _ w => lc_of tgf hv w
theorem pts_yes : PTs X [] (tFB X.K bYes) := ⟨fun pins s σ H Q I h => by
  obtain ⟨ρ, G, t, sg, ev, hf, q⟩ := h
  cases hf
  exact (pts_nil (X := X)).run pins s σ H Q I (q G H (Ext.refl sg))⟩
end
end LT
/-! # Pf5 -/
namespace LT
open PySem PySem.Spec PyProof.Rows L2
/-! ## statements -/
inductive Out where
  | nx (ρ : Rho)
  | rt (d : D)
abbrev FS := Rho → Option Out
/-- what a block may do: what stood at B stands, data stay data, nothing of B is told of -/
structure ExtB (B : Addr → Prop) (G H G' H' : Hp) : Prop where
  hb : ∀ b o, B b → H b = some o → H' b = some o
  gg : Same G G'
  gh : Same G' H'
  nb : ∀ b, B b → G' b ≠ none → G b ≠ none
structure SIn (K : KF) (B : Addr → Prop) (G H : Hp) (σ : L2.St) (ρ : Rho) : Prop where
  sg : Same G H
  eb : EnvB K B G H σ ρ
  bn : ∀ b, B b → H b ≠ none
section
variable {K : KF} {B : Addr → Prop} {G H G' H' G1 H1 : Hp} {σ : L2.St} {ρ : Rho} {p : Addr}
theorem ExtB.refl (s : Same G H) : ExtB B G H G H := ⟨fun _ _ _ h => h, Same.refl G, s, fun _ _ h => h⟩
theorem ExtB.trans (a : ExtB B G H G1 H1) (b : ExtB B G1 H1 G' H') : ExtB B G H G' H' := ⟨fun c o h q => b.hb c o h (a.hb c o h q), a.gg.trans b.gg, b.gh, fun c h q => a.nb c h (b.nb c h q)⟩
theorem Ext.toB (x : Ext G H G' H') (bn : ∀ b, B b → H b ≠ none) : ExtB B G H G' H' := ⟨fun b o _ h => x.hh b o h, x.gg, x.gh, fun b hb h => by
  rcases x.nw b h with q | q
  · exact q
  · exact absurd q (bn b hb)⟩
theorem some_of_ne {α : Type} {o : Option α} (h : o ≠ none) : ∃ x, o = some x := by
  cases o with
  | none => exact absurd rfl h
  | some x => exact ⟨x, rfl⟩
theorem SIn.nn (i : SIn K B G H σ ρ) (x : ExtB B G H G' H') : ∀ b, B b → H' b ≠ none := fun b hb => by
  obtain ⟨o, h⟩ := some_of_ne (i.bn b hb)
  rw [x.hb b o hb h]
  exact fun z => nomatch z
theorem SIn.ext (i : SIn K B G H σ ρ) (x : Ext G H G' H') : SIn K B G' H' σ ρ := ⟨x.gh, i.eb.ext x, i.nn (x.toB i.bn)⟩
theorem SIn.set (i : SIn K B G H σ ρ) {v : V} {d : D} (r : Rp K G v d) (j : Nat) : SIn K B G H (σ.set j (some v)) (ρ.set j (.im d)) := ⟨i.sg, i.eb.set r j, i.bn⟩
end
/-- what is wanted behind: o what the function says -/
def Wn (K : KF) (B : Addr → Prop) (G H : Hp) (Dn : Ends) (o : Out) : Prop := match o with
  | .nx ρ' => ∀ σ' G' H', ExtB B G H G' H' → SIn K B G' H' σ' ρ' → Dn.nx σ' H'
  | .rt d => ∀ v G' H', ExtB B G H G' H' → Rp K G' v d → Dn.rt v H'
def tS (K : KF) (g : FS) : TS := fun Dn σ H => ∃ (ρ : Rho) (G : Hp) (B : Addr → Prop) (o : Out), SIn K B G H σ ρ ∧ g ρ = some o ∧ Wn K B G H Dn o
abbrev SF (X : Cx) (st : Stmt) (g : FS) : Prop := PS X st (tS X.K g)
abbrev SFs (X : Cx) (st : List Stmt) (g : FS) : Prop := PSs X st (tS X.K g)
theorem Wn.back {K : KF} {B : Addr → Prop} {G H G1 H1 : Hp} {Dn : Ends} {o : Out} (w : Wn K B G H Dn o) (x : ExtB B G H G1 H1) : Wn K B G1 H1 Dn o := by
  cases o with
  | nx ρ' => exact fun σ' G' H' x' i => w σ' G' H' (x.trans x') i
  | rt d => exact fun v G' H' x' r => w v G' H' (x.trans x') r
def sNil : FS := fun ρ => some (.nx ρ)
def sSeq (a b : FS) : FS := fun ρ => (a ρ).bind fun o => match o with
  | .nx ρ' => b ρ'
  | .rt d => some (.rt d)
def sSet (i : Nat) (f : FE) : FS := fun ρ => (f ρ).map fun d => .nx (ρ.set i (.im d))
def sBd (bd : D → Rho → Option Rho) (f : FE) : FS := fun ρ => (f ρ).bind fun d => (bd d ρ).map .nx
def sPar (i j : Nat) (fl : FL) : FS := fun ρ => (fl ρ).bind fun ds => match ds with
  | [x, y] => some (.nx ((ρ.set i (.im x)).set j (.im y)))
  | _ => none
def sRet (f : FE) : FS := fun ρ => (f ρ).map .rt
def sIf (p : FB) (a b : FS) : FS := fun ρ => (p ρ).bind fun t => match t with
  | true => a ρ
  | false => b ρ
def sNever : FS := fun _ => none
def Sl.isOw : Sl → Bool
  | .ow _ => true
  | _ => false
/-- name = [] , a list of one's own -/
def sNew (i : Nat) : FS := fun ρ => if ρ.any Sl.isOw = true then none else some (.nx (ρ.set i (.ow [])))
/-- the list of one's own is told of from here on -/
def sFrz (i : Nat) (g : FS) : FS := fun ρ => match ρ[i]? with
  | some (.ow ds) => g (ρ.set i (.im (.list ds)))
  | _ => none
def sApp (i : Nat) (f : FE) : FS := fun ρ => (f ρ).bind fun d => match ρ[i]? with
  | some (.ow ds) => if ds.length < sizeLine then some (.nx (ρ.set i (.ow (ds ++ [d])))) else none
  | _ => none
def sExt (i : Nat) (f : FE) : FS := fun ρ => (f ρ).bind fun d => match ρ[i]?, d with
  | some (.ow ds), .list es => if ds.length + es.length ≤ sizeLine then some (.nx (ρ.set i (.ow (ds ++ es)))) else none
  | _, _ => none
def forGo (bd : D → Rho → Option Rho) (body : FS) : List D → Rho → Option Out
  | [], ρ => some (.nx ρ)
  | d :: ds, ρ => (bd d ρ).bind fun ρ1 => (body ρ1).bind fun o => match o with
    | .nx ρ2 => forGo bd body ds ρ2
    | .rt x => some (.rt x)
def sFor (fi : FL) (bd : D → Rho → Option Rho) (body : FS) : FS := fun ρ => (fi ρ).bind fun ds => forGo bd body ds ρ
section
variable {X : Cx} {e : Expr} {st : Stmt} {rest : List Stmt} {f : FE} {g h : FS} {p : FB} {pos : Pos}
theorem sf_seq (h1 : SF X st g) (h2 : SFs X rest h) : SFs X (st :: rest) (sSeq g h) := pss_weak (pss_cons h1 h2) fun Dn σ H ⟨ρ, G, B, o, i, hf, w⟩ => by
  obtain ⟨o1, e1, hf⟩ := Option.bind_eq_some_iff.mp hf
  cases o1 with
  | nx ρ1 => exact ⟨ρ, G, B, _, i, e1, fun σ' G' H' x' i' => ⟨ρ1, G', B, o, i', hf, w.back x'⟩⟩
  | rt d => cases hf; exact ⟨ρ, G, B, _, i, e1, w⟩
theorem sf_one (h1 : SF X st g) : SFs X [st] g := pss_one h1
theorem sf_nil : SFs X [] sNil := pss_weak pss_nil fun Dn σ H ⟨ρ, G, B, o, i, hf, w⟩ => by
  cases hf
  exact w σ G H (ExtB.refl i.sg) i
theorem sf_set {i : Nat} {x : Str} {pos' : Pos} (hN : X.N.Nodup) (hi : X.N[i]? = some x) (hx : Loc X.env.scope x) (he : PF X e f) (hs : swapsWith e (some (.Name x pos')) pos.line X.env = pure false := by rfl)
    (hf : X.fn x = true ∨ X.env.scope.names.lookup x = some .local := by first | exact .inl rfl | exact .inr rfl | assumption) : SF X (.Assign [.Name x pos'] e pos) (sSet i f) :=
  ps_weak (ps_set hN hi hx he hs hf) fun Dn σ H ⟨ρ, G, B, o, ii, hf, w⟩ => by
    obtain ⟨d, e1, rfl⟩ := Option.map_eq_some_iff.mp hf
    exact ⟨ρ, G, d, ii.sg, ii.eb.ev, e1, fun v G1 H1 x1 r1 => w _ G1 H1 (x1.toB ii.bn) ((ii.ext x1).set r1 i)⟩
theorem sf_bd {tg : Expr} {t : TG} {bd : D → Rho → Option Rho} {is : List Nat} (tgf : TgF X.K t bd is) (he : PF X e f) (hg : PG X tg t) (hs : swapsWithSole [tg] e pos.line X.env = pure false := by rfl) (hw : swappedStores [tg] e X.env = pure none := by rfl) (h1 : (assignEach [tg] X.env).map (·.2) = [assign tg X.env] := by rfl) :
    SF X (.Assign [tg] e pos) (sBd bd f) := ps_weak (ps_asg he hg hs hw h1) fun Dn σ H ⟨ρ, G, B, o, ii, hf, w⟩ => by
  obtain ⟨d, e1, hf⟩ := Option.bind_eq_some_iff.mp hf
  obtain ⟨ρ', e2, rfl⟩ := Option.map_eq_some_iff.mp hf
  refine ⟨ρ, G, d, ii.sg, ii.eb.ev, e1, fun v G1 H1 x1 r1 => ?_⟩
  have i1 := ii.ext x1
  exact tgf B v σ H1 G1 ρ ρ' d _ i1.sg i1.eb r1 e2 fun σ' eb' _ => w σ' G1 H1 (x1.toB ii.bn) ⟨i1.sg, eb', i1.bn⟩
theorem sf_par {i j : Nat} {x y : Str} {a b : Expr} {fl : FL} {px py pt : Pos} {kt k2 : Nat} {pt2 : Pos} (h : PS X (.Assign [.Tuple [.Name x px, .Name y py] kt pt] (.Tuple [a, b] k2 pt2) pos) (tPar i j (tFL X.K fl))) :
    SF X (.Assign [.Tuple [.Name x px, .Name y py] kt pt] (.Tuple [a, b] k2 pt2) pos) (sPar i j fl) := ps_weak h fun Dn σ H ⟨ρ, G, B, o, ii, hf, w⟩ => by
  obtain ⟨ds, e1, hf⟩ := Option.bind_eq_some_iff.mp hf
  refine ⟨ρ, G, ds, ii.sg, ii.eb.ev, e1, fun vs G1 H1 x1 r1 => ?_⟩
  cases r1 with
  | nil => cases hf
  | cons r1 r2 => cases r2 with
    | nil => cases hf
    | cons r2 r3 => cases r3 with
      | cons _ _ => cases hf
      | nil =>
        cases hf
        exact ⟨_, _, rfl, w _ G1 H1 (x1.toB ii.bn) (((ii.ext x1).set r1 i).set r2 j)⟩
theorem sf_ret (he : PF X e f) : SF X (.Return (some e) pos) (sRet f) := ps_weak (ps_ret he) fun Dn σ H ⟨ρ, G, B, o, ii, hf, w⟩ => by
  obtain ⟨d, e1, rfl⟩ := Option.map_eq_some_iff.mp hf
  exact ⟨ρ, G, d, ii.sg, ii.eb.ev, e1, fun v G1 H1 x1 r1 => w v G1 H1 (x1.toB ii.bn) r1⟩
theorem sf_if {c : Expr} {a b : List Stmt} (hc : PB X c p) (ha : SFs X a g) (hb : SFs X b h) : SF X (.If c a b pos) (sIf p g h) := ps_weak (ps_if hc ha hb) fun Dn σ H ⟨ρ, G, B, o, ii, hf, w⟩ => by
  obtain ⟨t, e1, hf⟩ := Option.bind_eq_some_iff.mp hf
  refine ⟨ρ, G, t, ii.sg, ii.eb.ev, e1, fun G1 H1 x1 => ?_⟩
  have w1 := w.back (x1.toB ii.bn)
  cases t with
  | true => exact iteT ⟨ρ, G1, B, o, ii.ext x1, hf, w1⟩
  | false => exact iteF ⟨ρ, G1, B, o, ii.ext x1, hf, w1⟩
theorem sf_never : SF X st sNever := ps_weak ps_never fun Dn σ H ⟨ρ, G, B, o, ii, hf, w⟩ => by cases hf
theorem not_ow {ρ : Rho} (h : ¬ ρ.any Sl.isOw = true) {i : Nat} {ds : List D} : ρ[i]? ≠ some (.ow ds) := fun e => h (List.any_eq_true.mpr ⟨_, List.mem_of_getElem? e, rfl⟩)
/-- the slot i holds a list of one's own -/
theorem SIn.own {K : KF} {B : Addr → Prop} {G H : Hp} {σ : L2.St} {ρ : Rho} (ii : SIn K B G H σ ρ) {i : Nat} {x : Sl} {ds : List D} {a : Addr} {xs : List V} (hi : ∀ (j : Nat) es, ρ[j]? = some (.ow es) → j = i)
    (ha : G a = none) (hB : ¬ B a) (hx : σ[i]? = some (some (.ref a))) (z : xs.length ≤ sizeLine) (r : RpL K G xs ds) : SIn K B G (upd H a (.lst xs)) σ (ρ.set i (.ow ds)) := by
  refine ⟨fun b u hb => ?_, ⟨⟨by simp [ii.eb.ev.len], fun j d h => ?_, fun j es h => ?_, fun j k es fs h1 h2 => ?_, fun j c h => ?_⟩, fun j es b h1 h2 => ?_⟩, fun b hb => ?_⟩
  · rw [upd_ne (ne_of_none hb ha)]; exact ii.sg b u hb
  · rcases set_get h with ⟨_, q⟩ | ⟨_, q⟩
    · cases q
    · exact ii.eb.ev.im j d q
  · rcases set_get h with ⟨rfl, q⟩ | ⟨ne, q⟩
    · cases q; exact ⟨a, xs, hx, upd_same, ha, z, r⟩
    · exact absurd (hi j es q) ne
  · have key : ∀ (m : Nat) us, (ρ.set i (.ow ds))[m]? = some (.ow us) → m = i := fun m us q => by
      rcases set_get q with ⟨q1, _⟩ | ⟨_, q1⟩
      · exact q1
      · exact hi m us q1
    rw [key j es h1, key k fs h2]
  · rcases set_get h with ⟨_, q⟩ | ⟨_, q⟩
    · cases q
    · exact ii.eb.ev.lk j c q
  · rcases set_get h1 with ⟨rfl, _⟩ | ⟨ne, q⟩
    · rw [hx] at h2; cases h2; exact hB
    · exact absurd (hi j es q) ne
  · have ne : b ≠ a := fun e => hB (e ▸ hb)
    rw [upd_ne ne]
    exact ii.bn b hb
theorem sf_new {i : Nat} {x : Str} {pos' pos2 : Pos} (hN : X.N.Nodup) (hi : X.N[i]? = some x) (hx : Loc X.env.scope x) (hs : swapsWith (.List [] pos2) (some (.Name x pos')) pos.line X.env = pure false := by rfl)
    (hf : X.fn x = true ∨ X.env.scope.names.lookup x = some .local := by first | exact .inl rfl | exact .inr rfl | assumption) : SF X (.Assign [.Name x pos'] (.List [] pos2) pos) (sNew i) :=
  ⟨fun pins s σ H Dn I w0 => by
    refine (ps_set hN hi hx (pe_lst pa_nil) hs hf).run pins s σ H Dn I ?_
    obtain ⟨ρ, G, B, o, ii, hf, w⟩ := w0
    unfold sNew at hf
    split at hf
    · cases hf
    · rename_i no
      cases hf
      refine ⟨Nat.zero_le _, fun a ha => ?_⟩
      have hiσ : i < σ.length := by rw [I.len]; exact (List.getElem?_eq_some_iff.mp hi).1
      have ga := none_of_same ii.sg ha
      have hB : ¬ B a := fun q => ii.bn a q ha
      refine w _ G _ ⟨fun b u hb q => ?_, Same.refl G, ?_, fun _ _ q => q⟩ ?_
      · rw [upd_ne (ne_of_none q ha)]; exact q
      · exact fun b u q => by rw [upd_ne (ne_of_none q ga)]; exact ii.sg b u q
      · have i2 : SIn X.K B G H (σ.set i (some (.ref a))) (ρ.set i .no) := by
          refine ⟨ii.sg, ⟨⟨by simp [ii.eb.ev.len], fun j d h => ?_, fun j es h => ?_, fun j k es fs h1 h2 => ?_, fun j c h => ?_⟩, fun j es b h1 h2 => ?_⟩, ii.bn⟩
          · rcases set_get h with ⟨_, q⟩ | ⟨ne, q⟩
            · cases q
            · obtain ⟨v, q1, q2⟩ := ii.eb.ev.im j d q
              exact ⟨v, by rw [List.getElem?_set_ne (Ne.symm ne)]; exact q1, q2⟩
          · rcases set_get h with ⟨_, q⟩ | ⟨ne, q⟩
            · cases q
            · exact absurd q (not_ow no)
          · rcases set_get h1 with ⟨_, q⟩ | ⟨_, q⟩
            · cases q
            · exact absurd q (not_ow no)
          · rcases set_get h with ⟨_, q⟩ | ⟨ne, q⟩
            · cases q
            · rw [List.getElem?_set_ne (Ne.symm ne)]; exact ii.eb.ev.lk j c q
          · rcases set_get h1 with ⟨_, q⟩ | ⟨_, q⟩
            · cases q
            · exact absurd q (not_ow no)
        have i3 := i2.own (i := i) (x := .no) (ds := []) (xs := []) (a := a) (fun j es h => by
          rcases set_get h with ⟨_, q⟩ | ⟨_, q⟩
          · cases q
          · exact absurd q (not_ow no)) ga hB (List.getElem?_set_self hiσ) (Nat.zero_le _) .nil
        rw [List.set_set] at i3
        exact i3⟩
theorem sf_frz {i : Nat} (h : SFs X rest g) : SFs X rest (sFrz i g) := pss_weak h fun Dn σ H ⟨ρ, G, B, o, ii, hf, w⟩ => by
  unfold sFrz at hf
  split at hf
  · rename_i ds e1
    obtain ⟨a, xs, q1, q2, q3, q4, q5⟩ := ii.eb.ev.ow i ds e1
    have hB := ii.eb.nb i ds a e1 q1
    have sg2 : Same (upd G a (.lst xs)) H := fun b u hb => by
      by_cases eb : b = a
      · subst eb; rw [upd_same] at hb; rw [← hb]; exact q2
      · rw [upd_ne eb] at hb; exact ii.sg b u hb
    have s2 := same_upd q3 (.lst xs)
    have x2 : ExtB B G H (upd G a (.lst xs)) H := ⟨fun _ _ _ q => q, s2, sg2, fun b hb q => by
      by_cases eb : b = a
      · subst eb; exact absurd hb hB
      · rw [upd_ne eb] at q; exact q⟩
    refine ⟨_, upd G a (.lst xs), B, o, ⟨sg2, ⟨⟨by simp [ii.eb.ev.len], fun j d h => ?_, fun j es h => ?_, fun j k es fs h1 h2 => ?_, fun j c h => ?_⟩, fun j es b h1 h2 => ?_⟩, ii.bn⟩, hf, w.back x2⟩
    · rcases set_get h with ⟨rfl, q⟩ | ⟨ne, q⟩
      · cases q; exact ⟨_, q1, .lst upd_same q4 (q5.same s2)⟩
      · obtain ⟨v, z1, z2⟩ := ii.eb.ev.im j d q
        exact ⟨v, z1, z2.same s2⟩
    · rcases set_get h with ⟨rfl, q⟩ | ⟨ne, q⟩
      · cases q
      · exact absurd (ii.eb.ev.one j i es ds q e1) ne
    · rcases set_get h1 with ⟨rfl, q⟩ | ⟨ne, q⟩
      · cases q
      · exact absurd (ii.eb.ev.one j i es ds q e1) ne
    · rcases set_get h with ⟨_, q⟩ | ⟨ne, q⟩
      · cases q
      · exact ii.eb.ev.lk j c q
    · rcases set_get h1 with ⟨rfl, q⟩ | ⟨ne, q⟩
      · cases q
      · exact absurd (ii.eb.ev.one j i es ds q e1) ne
  · cases hf
theorem sf_app {i : Nat} {o : Expr} {apos cpos : Pos} (ho : PE X o (tVar i)) (he : PF X e f) (hbase : attributeBase o "append" X.env (eval o X.env) = eval o X.env := by rfl)
    (hfew : ((backTo cpos (starEach [e] X.env)).all (fun x => !x.1) && (backToKw cpos (keywordEach [] X.env)).all (fun x => x.1.isSome) && decide ([e].length + ([] : List Keyword).length + (if ([] : List Keyword).isEmpty then 0 else 1) < 30)) = true := by rfl)
    (hline : (apos.endLine == cpos.line) = true := by rfl) (hs : starEach [e] X.env = (false, eval e X.env) :: starEach [] X.env := by rfl) (hplain : (backTo cpos (starEach [] X.env)).any (·.1) = false := by rfl)
    (hsw : swapsWith (.Call (.Attribute o "append" apos) [e] [] cpos) none pos.line X.env = pure false := by rfl) : SF X (.Expr (.Call (.Attribute o "append" apos) [e] [] cpos) pos) (sApp i f) :=
  ps_weak (ps_expr (pe_bm PySem.F.plainAttrs_list PySem.F.slot_list_append PySem.F.type_list_append mt_append ho (pa_cons he pa_nil hs) hbase hfew hline hs hplain) hsw) fun Dn σ H ⟨ρ, G, B, o, ii, hf, w⟩ => by
    obtain ⟨d, e1, hf⟩ := Option.bind_eq_some_iff.mp hf
    split at hf
    · rename_i ds e2
      obtain ⟨z, rfl⟩ := ite_some hf
      obtain ⟨a, xs, q1, q2, q3, q4, q5⟩ := ii.eb.ev.ow i ds e2
      have hB := ii.eb.nb i ds a e2 q1
      refine ⟨.ref a, q1, .inl ⟨rfl, _, SqL.of q2⟩, ρ, G, d, ii.sg, ii.eb.ev, e1, fun v G1 H1 x1 r1 => ⟨a, xs, v, rfl, rfl, x1.hh _ _ q2, by rw [q5.length]; exact z, ?_⟩⟩
      have i1 := ii.ext x1
      have ga := x1.keep q3 q2
      have i2 := i1.own (x := .no) (i := i) (fun j es h => i1.eb.ev.one j i es ds h e2) ga hB q1 (xs := xs ++ [v]) (ds := ds ++ [d]) (by rw [List.length_append, q5.length]; exact z) ((q5.same x1.gg).snoc r1)
      refine w _ _ _ ((x1.toB ii.bn).trans ⟨fun b u hb q => ?_, Same.refl _, i2.sg, fun _ _ q => q⟩) i2
      rw [upd_ne (show b ≠ a from fun eb => hB (eb ▸ hb))]
      exact q
    · cases hf
theorem sf_ext {i : Nat} {o : Expr} {apos cpos : Pos} (ho : PE X o (tVar i)) (he : PF X e f) (hbase : attributeBase o "extend" X.env (eval o X.env) = eval o X.env := by rfl)
    (hfew : ((backTo cpos (starEach [e] X.env)).all (fun x => !x.1) && (backToKw cpos (keywordEach [] X.env)).all (fun x => x.1.isSome) && decide ([e].length + ([] : List Keyword).length + (if ([] : List Keyword).isEmpty then 0 else 1) < 30)) = true := by rfl)
    (hline : (apos.endLine == cpos.line) = true := by rfl) (hs : starEach [e] X.env = (false, eval e X.env) :: starEach [] X.env := by rfl) (hplain : (backTo cpos (starEach [] X.env)).any (·.1) = false := by rfl)
    (hsw : swapsWith (.Call (.Attribute o "extend" apos) [e] [] cpos) none pos.line X.env = pure false := by rfl) : SF X (.Expr (.Call (.Attribute o "extend" apos) [e] [] cpos) pos) (sExt i f) :=
  ps_weak (ps_expr (pe_bm PySem.F.plainAttrs_list PySem.F.slot_list_extend PySem.F.type_list_extend mt_extend ho (pa_cons he pa_nil hs) hbase hfew hline hs hplain) hsw) fun Dn σ H ⟨ρ, G, B, o, ii, hf, w⟩ => by
    obtain ⟨d, e1, hf⟩ := Option.bind_eq_some_iff.mp hf
    split at hf
    · rename_i ds es e2
      obtain ⟨z, rfl⟩ := ite_some hf
      obtain ⟨a, xs, q1, q2, q3, q4, q5⟩ := ii.eb.ev.ow i ds e2
      have hB := ii.eb.nb i ds a e2 q1
      refine ⟨.ref a, q1, .inl ⟨rfl, _, SqL.of q2⟩, ρ, G, _, ii.sg, ii.eb.ev, e1, fun v G1 H1 x1 r1 => ?_⟩
      cases r1 with
      | @lst pb vb db hq zb rb =>
        refine ⟨a, pb, xs, vb, rfl, rfl, x1.hh _ _ q2, x1.gh _ _ hq, by rw [q5.length, rb.length]; exact z, ?_⟩
        have i1 := ii.ext x1
        have ga := x1.keep q3 q2
        have i2 := i1.own (x := .no) (i := i) (fun j us h => i1.eb.ev.one j i us ds h e2) ga hB q1 (xs := xs ++ vb) (ds := ds ++ es) (by rw [List.length_append, q5.length, rb.length]; exact z) ((q5.same x1.gg).app rb)
        refine w _ _ _ ((x1.toB ii.bn).trans ⟨fun b u hb q => ?_, Same.refl _, i2.sg, fun _ _ q => q⟩) i2
        rw [upd_ne (show b ≠ a from fun eb => hB (eb ▸ hb))]
        exact q
    · cases hf
theorem sf_for {tg iter : Expr} {body : List Stmt} {fi : FL} {t : TG} {bd : D → Rho → Option Rho} {is : List Nat} (hp : PassesOwn (model X.prog X.w) X.A X.env X.xe) (hc : X.calm = true) (tgf : TgF X.K t bd is) (hi : PFI X tg iter fi) (hg : PG X tg t) (hb : SFs X body g)
    (hs : ∀ x, foldedSetIterable iter X.env x = pure x := by intro _; rfl) : SF X (.For tg iter body [] pos) (sFor fi bd g) := ps_weak (ps_for hp hc hi hg hb hs) fun Dn σ H ⟨ρ, G, B, o, ii, hf, w⟩ => by
  obtain ⟨ds, e1, hf⟩ := Option.bind_eq_some_iff.mp hf
  refine ⟨ρ, G, ds, ii.sg, ii.eb.ev, e1, fun J Gd Y G1 H1 x1 yl => ?_⟩
  refine for_it yl.w (fun i σ' H' => ∃ (ρi : Rho) (Gi : Hp), SIn X.K B Gi H' σ' ρi ∧ ExtB B G1 H1 Gi H' ∧ forGo bd g (ds.drop i) ρi = some o) ?_ ?_ ?_ ?_
  · exact ⟨ρ, G1, ii.ext x1, ExtB.refl x1.gh, hf⟩
  · rintro i σ' H' _ ⟨ρi, Gi, si, xb, _⟩
    exact yl.gd H' (xb.gg.trans xb.gh)
  · rintro i x σ' H' H'' hlt ⟨ρi, Gi, si, xb, hgo⟩ hy
    obtain ⟨d, hd, hk⟩ := yl.y i H' x H'' hlt (xb.gg.trans xb.gh) hy
    obtain ⟨G2, x3, r3⟩ := hk Gi xb.gg xb.gh
    have hdr : ds.drop i = d :: ds.drop (i + 1) := by
      rw [List.drop_eq_getElem_cons hlt]
      have : ds[i]? = some ds[i] := List.getElem?_eq_getElem hlt
      rw [hd] at this
      rw [Option.some.inj this]
    rw [hdr] at hgo
    unfold forGo at hgo
    obtain ⟨ρ1, b1, hgo⟩ := Option.bind_eq_some_iff.mp hgo
    obtain ⟨o1, b2, hgo⟩ := Option.bind_eq_some_iff.mp hgo
    have s3 := si.ext x3
    have xb3 := xb.trans (x3.toB si.bn)
    refine tgf B x σ' H'' G2 ρi ρ1 d _ s3.sg s3.eb r3 b1 fun σ2 eb2 _ => ⟨ρ1, G2, B, o1, ⟨s3.sg, eb2, s3.bn⟩, b2, ?_⟩
    cases o1 with
    | nx ρ2 => exact fun σ4 G4 H4 x4 s4 => ⟨ρ2, G4, s4, xb3.trans x4, hgo⟩
    | rt z =>
      cases hgo
      exact fun v G4 H4 x4 r4 => w v G4 H4 ((x1.toB ii.bn).trans (xb3.trans x4)) r4
  · rintro σ' H' ⟨ρi, Gi, si, xb, hgo⟩
    rw [List.drop_length] at hgo
    cases hgo
    exact w σ' Gi H' ((x1.toB ii.bn).trans xb) si
theorem sf_setLc {vs : List Nat} {i : Nat} {y : Str} {py : Pos} {elt tg iter : Expr} {ifs : List Expr} {scope : Scope} {own : List (Str × Nat)} {pos2 : Pos} {fi : FL} {t : TG} {bd : D → Rho → Option Rho} {ft : FB} {fe : FE} {is : List Nat} (hc : X.calm = true) (hN : X.N.Nodup)
    (tgf : TgF X.K t bd is) (hv : ∀ j ∈ is, j ∈ vs) (hy : X.N[i]? = some y) (hyl : X.env.scope.names.lookup y = some .local) (hsw : swapsWith (.ListComp elt [⟨tg, iter, ifs, 0⟩] scope pos2) (some (.Name y py)) pos.line X.env = pure true) (hi : PFI X tg iter fi) (ok : BlkOk X.N X.env.scope scope own)
    (hg : ∀ (s : Shared) (H : Hp) (C : Addr) (cl : List (Str × Addr)) (fp : List Addr), PG (X.blk s H scope (compEnvC scope cl C X.env) fp) tg t)
    (ht : ∀ (s : Shared) (H : Hp) (C : Addr) (cl : List (Str × Addr)) (fp : List Addr), PTs (X.blk s H scope (compEnvC scope cl C X.env) fp) ifs (tFB X.K ft))
    (he : ∀ (s : Shared) (H : Hp) (C : Addr) (cl : List (Str × Addr)) (fp : List Addr), PF (X.blk s H scope (compEnvC scope cl C X.env) fp) elt fe) (hs : ∀ x, foldedSetIterable iter X.env x = pure x := by intro _; rfl) (hvs : own.map (·.2) = vs := by rfl) :
    SF X (.Assign [.Name y py] (.ListComp elt [⟨tg, iter, ifs, 0⟩] scope pos2) pos) (sSet i (cLc fi bd ft fe vs)) := by
  subst hvs
  exact ps_weak (ps_setLc hc hN hy hyl hsw hi ok hg ht he hs) fun Dn σ H ⟨ρ, G, B, o, ii, hf, w⟩ => by
    obtain ⟨d, e1, rfl⟩ := Option.map_eq_some_iff.mp hf
    refine lc_of (Q := fun x H1 => gName i x σ H1 Dn.nx) tgf hv ⟨ρ, G, d, ii.sg, ii.eb.ev, e1, fun v G1 H1 x1 r1 => ?_⟩
    exact w _ G1 H1 (x1.toB ii.bn) ((ii.ext x1).set r1 i)
end
/-! ## a def whose body is a function of data -/
def bodyF (N : Nat) (g : FS) (ds : List D) : Option D := match g (ds.map Sl.im ++ List.replicate (N - ds.length) Sl.no) with
  | some (.rt d) => some d
  | some (.nx _) => some .none
  | none => none
theorem start_env {K : KF} {G H : Hp} {N : List Str} {vs : List V} {ds : List D} (r : RpL K G vs ds) : EnvR K G H (L2.start N vs) (ds.map Sl.im ++ List.replicate (N.length - ds.length) Sl.no) := by
  refine ⟨by simp [L2.start, r.length], fun i d h => ?_, fun i es h => ?_, fun i j es fs h1 h2 => ?_, fun i c h => ?_⟩
  · by_cases hi : i < ds.length
    · rw [List.getElem?_append_left (by simpa using hi), List.getElem?_map] at h
      obtain ⟨d', e1, e2⟩ := Option.map_eq_some_iff.mp h
      cases e2
      obtain ⟨v, a, b⟩ := r.get e1
      refine ⟨v, ?_, b⟩
      unfold L2.start
      rw [List.getElem?_append_left (by simpa [r.length] using hi), List.getElem?_map, a] <;> rfl
    · rw [List.getElem?_append_right (by simpa using hi)] at h
      have := List.mem_of_getElem? h
      rw [List.mem_replicate] at this
      cases this.2
  · exfalso
    have := List.mem_of_getElem? h
    rcases List.mem_append.mp this with q | q
    · obtain ⟨x, _, e⟩ := List.mem_map.mp q
      cases e
    · rw [List.mem_replicate] at q
      cases q.2
  · exfalso
    have := List.mem_of_getElem? h1
    rcases List.mem_append.mp this with q | q
    · obtain ⟨x, _, e⟩ := List.mem_map.mp q
      cases e
    · rw [List.mem_replicate] at q
      cases q.2
  · exfalso
    have := List.mem_of_getElem? h
    rcases List.mem_append.mp this with q | q
    · obtain ⟨x, _, e⟩ := List.mem_map.mp q
      cases e
    · rw [List.mem_replicate] at q
      cases q.2
/-- THE RULE for a def of data -/
theorem fok_of {P : Program} {w : World} {K : KF} {mg : Str → Option Value} {base : Heap} {x qual : Str} {st : Stmt} {f : Addr} {fd : FuncData} {N ps : List Str} {k : Nat} {g : FS}
    (F : FunD K x qual (defArgs st) (defBody st) (defScope st) [] [] f fd) (S : FnScope N ps (defScope st)) (hm : mg x = some (.ref f))
    (hb : ∀ (kV doc pm : Value) (an : Option Addr) (cdv ct : Value) (us : List Value), us.length = ps.length → bindArgs (PySem.W.fnOf x qual (defArgs st) (defBody st) (defScope st) .none kV doc pm an cdv ct) ⟨us, []⟩ = pure (ps.zip us))
    (hbody : ∀ (cdv : Value) (A : Around) (outer : List Env) (s : Shared) (H : Hp) (E : XK), Room k (A.deeper (envOfC qual (defScope st) s.heap.objs.size f cdv)) →
      SFs (cxOf CX0 P w K mg base N qual (defScope st) f cdv A outer s H E).nox (defBody st) g) : FokP P w K mg base (k + 1) x ps (bodyF N.length g) := by
  refine ⟨f, fd, F.ok S (fun vs H Q E h => ?_) (fun cdv A outer s H vs Q E hr h => ⟨tS K g, PSs.nox (hbody cdv A outer s H E hr), ?_⟩), hm, F.kp, F.bindsN hb⟩
  · obtain ⟨G, ds, d, sg, r, hl, _⟩ := h
    rw [r.length]
    exact hl
  · obtain ⟨G, ds, d, sg, r, hl, hF, q⟩ := h
    unfold bodyF at hF
    have i0 : SIn K (fun b => H b ≠ none) G H (L2.start N vs) (ds.map Sl.im ++ List.replicate (N.length - ds.length) Sl.no) := by
      refine ⟨sg, ⟨start_env r, fun i es a h _ => ?_⟩, fun _ hb => hb⟩
      exfalso
      rcases List.mem_append.mp (List.mem_of_getElem? h) with z | z
      · obtain ⟨y, _, e⟩ := List.mem_map.mp z
        cases e
      · rw [List.mem_replicate] at z
        cases z.2
    have ext : ∀ {G' H'}, ExtB (fun b => H b ≠ none) G H G' H' → Ext G H G' H' := fun {G' H'} x => ⟨fun b o h => x.hb b o (by rw [h]; exact fun z => nomatch z) h, x.gg, x.gh, fun b h => by
      by_cases e : H b = none
      · exact .inr e
      · exact .inl (x.nb b e h)⟩
    split at hF
    · rename_i d' e1
      cases hF
      exact ⟨_, G, _, _, i0, e1, fun v G' H' x r' => q v G' H' (ext x) r'⟩
    · rename_i ρ' e1
      cases hF
      exact ⟨_, G, _, _, i0, e1, fun σ' G' H' x s' => q .non G' H' (ext x) .non⟩
    · cases hF
end LT
/-! # Pf6 -/
namespace LT
open PySem PySem.Spec PyProof.Rows L2
/-! ## enumerate(a tuple) -/
set_option maxHeartbeats 4000000 in
theorem meets_enumNew1 {v : Value} {o : Obj} {H : Heap → Prop} (B : Begins v o H) :
    Meets (Builtin.«enumerate.__new__» ⟨[.type "enumerate", v], []⟩) (fun _ R s => H s.heap ∧
      R (.ok (.ret (.ref (s.heap.push o).objs.size))) { s with heap := (s.heap.push o).push { cls := .type "enumerate", data := .fields #[.none, .bool false, .ref s.heap.objs.size, rawInt 0, .none, .none] } }) :=
  .of_wp fun prog w A R s h => by
    obtain ⟨hp, g, d, tk, os⟩ := s
    obtain ⟨h1, h⟩ := h
    have hsub := sub_enumerate
    have q1 : ∀ {A' : Around} {E : Value → Shared → Prop} {Q : Value → Shared → Prop}, Q (.ref hp.objs.size) ⟨hp.push o, g, d, tk, os⟩ → wpAny (model prog w) A' (pyIter v) Q E ⟨hp, g, d, tk, os⟩ :=
      fun q => B.iter prog w _ _ ⟨hp, g, d, tk, os⟩ _ h1 q
    wp_walk using q1
    try (refine wpAny_stack_any fun st => wpAny_pure ?_)
    try split
    all_goals first
      | (rename_i c _ _ _ _ _
         cases (c == Value.type "enumerate")
         · wp_walk using q1
           exact ⟨_, rfl, h⟩
         · wp_walk using q1
           exact ⟨_, rfl, h⟩)
      | (wp_walk using q1
         exact ⟨_, rfl, h⟩)
      | exact ⟨_, rfl, h⟩
theorem enum1_begins {prog : Program} {w : World} {A : Around} {E : Value → Shared → Prop} {s : Shared} {v : Value} {o : Obj} {H : Heap → Prop} {Q : Value → Shared → Prop} (B : Begins v o H) (h1 : H s.heap)
    (h : ∀ h', IsEnum h' (s.heap.objs.size + 1) s.heap.objs.size 0 .none → h'.get? s.heap.objs.size = some o → h'.objs.size = s.heap.objs.size + 2 →
      (∀ b o, s.heap.get? b = some o → h'.get? b = some o) → Q (.ref (s.heap.objs.size + 1)) { s with heap := h' }) : wpAny (model prog w) A (call (.type "enumerate") [v]) Q E s := by
  refine callType_new F.called_enumerate (by decide) (F.typeCall_enumerate_1 _) (F.newCall_enumerate_1 _) (fun obj => F.args_object_init_2 obj _) F.entry_enumerate_new (meets_enumNew1 B) ⟨h1, ?_⟩
  have hz : (s.heap.push o).objs.size = s.heap.objs.size + 1 := Heap.size_push ..
  show _ ∧ _
  rw [hz]
  have he : IsEnum ((s.heap.push o).push { cls := .type "enumerate", data := .fields #[.none, .bool false, .ref s.heap.objs.size, rawInt 0, .none, .none] }) (s.heap.objs.size + 1) s.heap.objs.size 0 .none := by
    have e1 := Heap.get?_push_size (s.heap.push o) (o := { cls := .type "enumerate", data := .fields #[.none, .bool false, .ref s.heap.objs.size, rawInt 0, .none, .none] }) rfl
    rw [hz] at e1
    exact e1
  exact ⟨⟨_, he, rfl⟩, h _ he (Heap.get?_push_of_some _ (Heap.get?_push_size _ B.free)) (by rw [Heap.size_push, hz]) fun b o x => Heap.get?_push_of_some _ (Heap.get?_push_of_some _ x)⟩
/-- the tuple at a, each item in a new pair -/
def ItEt (K : KF) (a : Addr) : It :=
  ⟨fun i H => ∃ (xs : List V) (x : V), SqT K H a xs ∧ xs[i]? = some x, fun i H v H' => ∃ T x, v = .ref T ∧ H T = none ∧ H' = upd H T (.tup [.int (i : Nat), x]) ∧ ∀ xs, SqT K H a xs → xs[i]? = some x, fun i H => ∃ xs : List V, SqT K H a xs ∧ xs.length = i⟩
theorem turn_enumT {P : Program} {w : World} {K : KF} {elts : List Expr} {kk : Nat} {tpos : Pos} (a e it : Addr) (n : Nat) (hat : a ≠ it) (hae : a ≠ e) (items : Array Value) :
    Turn P w K (.Tuple elts kk tpos) (ItEt K a) [e, it] e (fun i h => (∃ old, IsEnum h e it ((i : Nat) : Int) old) ∧ h.IsTupleIter it a i ∧ e ≠ it) where
  mem := by simp
  obj := fun i h st b hb => by
    obtain ⟨⟨old, he⟩, ⟨o, ho, hc, hd⟩, _⟩ := st
    rcases (show b = e ∨ b = it by simpa using hb) with z | z
    · rw [z]; exact ⟨_, he, fun v q => nomatch q⟩
    · rw [z]; exact ⟨o, ho, fun v q => by rw [hd] at q; cases q⟩
  keep := fun i h h' st k => let ⟨⟨old, he⟩, hi, hne⟩ := st; ⟨⟨old, k e (by simp) _ he⟩, hi.at fun o q => k it (by simp) o q, hne⟩
  item := by
    intro X hP hw hK hc i pins s σ H E I hf st hg
    subst hP hw hK
    obtain ⟨⟨old, he⟩, hit, hne⟩ := st
    obtain ⟨xs, x, hq, hx⟩ := hg
    obtain ⟨its, rv, p, hz⟩ := I.tuple hq
    obtain ⟨u, hu, ru⟩ := rv.get hx
    have hel : e < s.heap.objs.size := Heap.lt_size he
    have hil : it < s.heap.objs.size := by obtain ⟨_, q, _⟩ := hit; exact Heap.lt_size q
    have hlt : i < its.toArray.size := by
      have := (List.getElem?_eq_some_iff.mp hu).1
      simpa using this
    refine wpAny_pyNext_enum_itemD (Draws.tuple (A := X.A.in1) (I.ok.hd hc) it a hat its.toArray) he ⟨hit, p⟩ hlt hne (by simp [hne, Ne.symm hae]) fun y h' tk hy ho hst' hT hsz hk => ?_
    have hyu : y = u := by
      have e1 : its.toArray[i]? = some u := by simpa using hu
      rw [e1] at hy
      exact (Option.some.inj hy).symm
    subst hyu
    refine ⟨_, rfl, wpAny_letOwnedTupleGo_enum (s := { s with heap := h', toks := tk + 1 }) ho fun h'' he' sb => ?_⟩
    have hT2 : h''.get? s.heap.objs.size = some { cls := .type "tuple", data := .seq #[.int i tk, y] } := (sb.2 _ (Nat.ne_of_gt hel)).trans hT
    have new : ObjOk X.prog X.w (upd H s.heap.objs.size (.tup [.int (i : Nat), x])) h'' s.heap.objs.size (.tup [.int (i : Nat), x]) :=
      ⟨by show 2 ≤ sizeLine; decide, [.int i tk, y], .cons ⟨_, rfl⟩ (.cons ru .nil), ⟨_, hT2, rfl, _, rfl⟩⟩
    have I1 : Inv X pins σ (upd H s.heap.objs.size (.tup [.int (i : Nat), x])) { s with heap := h'', toks := tk + 1 } :=
      I.turnedNew (ch := [e, it]) (fun b ob hb q => (sb.2 b (fun z => hb (by simp [z]))).trans (hk b ob (fun z => hb (by simp [z])) (fun z => hb (by simp [z])) q)) hf (Nat.le_refl _) new
    refine ⟨.ref s.heap.objs.size, _, I1, rfl, ⟨_, x, rfl, I.hok.fresh (Nat.le_refl _), rfl, fun ys hy2 => by rw [I.tuple_inj hy2 hq]; exact hx⟩, ⟨⟨y, ?_⟩, hst'.1.at fun o q => (sb.2 it (Ne.symm hne)).trans q, hne⟩, fun b hb => ?_⟩
    · have e1 : ((i + 1 : Nat) : Int) = (i : Int) + 1 := by omega
      rw [e1]; exact he'
    · have hb' : b < s.heap.objs.size := by
        rcases (show b = e ∨ b = it by simpa using hb) with z | z
        · rw [z]; exact hel
        · rw [z]; exact hil
      rw [upd_ne (Nat.ne_of_lt hb')]
      exact (hf b hb).1
  done := by
    intro X hP hw hK hc i pins s σ H E I hf st hg
    subst hP hw hK
    obtain ⟨⟨old, he⟩, hit, hne⟩ := st
    obtain ⟨xs, hq, hx⟩ := hg
    obtain ⟨its, rv, p, hz⟩ := I.tuple hq
    obtain ⟨f0, f1, f2, f3, f4, f5⟩ := hf it (by simp)
    have hl : its.toArray.size = i := by
      have := rv.length
      simp only [List.size_toArray]
      omega
    refine wpAny_pyNext_enum_endD (Draws.tuple (A := X.A.in1) (I.ok.hd hc) it a hat its.toArray) he ⟨by rw [hl]; exact hit, p⟩ fun h' eb => ⟨rfl, I.turned (t' := s.toks) (fun b o hb q => eb b o hb q) f0 f1 f3 f4 f5⟩
  self := fun A i s Q E st h => let ⟨⟨_, he⟩, _⟩ := st; wpAny_pyIter_enum he h
theorem yl_enum {K : KF} {G : Hp} {a : Addr} {xs : List V} {ds : List D} (h : SqT K G a xs) (z : xs.length ≤ sizeLine) (r : RpL K G xs ds) :
    Yl K (enumD ds) G (ItEt K a) (fun H => Same G H) (fun i H v H' => ∃ T x, v = .ref T ∧ H T = none ∧ H' = upd H T (.tup [.int (i : Nat), x]) ∧ xs[i]? = some x) := by
  have hlen : (enumD ds).length = xs.length := by simp [enumD, r.length]
  refine ⟨?_, fun H s => s, fun i H x H' hi s ⟨T, y, e1, e2, e3, e4⟩ => ?_, by rw [hlen]; exact z⟩
  · rw [hlen]
    refine ⟨fun i H hi s => ⟨xs, xs[i], sqT_same s h, by simp [hi]⟩, fun H s => ⟨xs, sqT_same s h, rfl⟩, fun i H x H' hi s ⟨T, y, e1, e2, e3, e4⟩ => ⟨T, y, e1, e2, e3, e4 xs (sqT_same s h)⟩⟩
  · obtain ⟨d, h1, h2⟩ := r.get2 e4
    subst e1 e3
    refine ⟨.tuple [.int (i : Int), d], ?_, fun G1 s1 s2 => ⟨_, Ext.new s2 e2 (.tup [.int (i : Nat), y]), .tup (SqT.of upd_same) (by show 2 ≤ sizeLine; decide) (.cons (.int _) (.cons (h2.same (s1.trans (Ext.new s2 e2 (.tup [.int (i : Nat), y])).gg)) .nil))⟩⟩
    have hi2 : i < ds.length := by rw [hlen, r.length] at hi; exact hi
    have e5 : ds[i] = d := Option.some.inj ((List.getElem?_eq_getElem hi2).symm.trans h1)
    simp [enumD, hi2, e5]
theorem pfi_enum {X : Cx} {e : Expr} {f : FE} {p pos tpos : Pos} {elts : List Expr} {kk : Nat} (hg : Gl X "enumerate") (hm : X.mg "enumerate" = none) (he : PF X e f) (hs : starEach [e] X.env = [(false, eval e X.env)] := by rfl) :
    PFI X (.Tuple elts kk tpos) (.Call (.Name "enumerate" p) [e] [] pos) (itEnum f) := by
  refine ⟨fun pins s σ H R I h => ?_⟩
  obtain ⟨ρ, G, ds, sg, ev, hf, q⟩ := h
  unfold itEnum at hf
  split at hf
  · rename_i xs0 e0
    cases hf
    refine Call_ (ld_blt I hg hm boot_enumerate (PyProof.Rows.callWith_type1 (thn ((pa_cons he pa_nil hs).run pos pins s σ H (fun vs H1 => ∃ (v : V) (G1 : Hp), vs = [v] ∧ Ext G H G1 H1 ∧ Rp X.K G1 v (.tuple xs0)) I ⟨ρ, G, _, sg, ev, e0, fun v G1 H1 x1 r1 => ⟨v, G1, rfl, x1, r1⟩⟩) fun us s1 ⟨vs, H1, I1, r1, v, G1, ex, x1, rv1⟩ => ?_) hs rfl))
    subst ex
    cases r1 with
    | cons r rr =>
      cases rr
      cases rv1 with
      | @tup pa va da hq z rv =>
        cases r
        have hq1 := sqT_same x1.gh hq
        obtain ⟨its, rvs, p', hz⟩ := I1.tuple hq1
        have hpl : pa < s1.heap.objs.size := by obtain ⟨o, ho, _⟩ := p'; exact Heap.lt_size ho
        refine enum1_begins (begins_tuple pa its.toArray) p' fun h' he' hit hsz hk => wpAny_pyIter_enum he' ?_
        have I2 : Inv X pins σ H1 { s1 with heap := h' } := I1.kept (t' := s1.toks) hk
        refine ⟨s1.heap.objs.size + 1, [s1.heap.objs.size + 1, s1.heap.objs.size], _, _, H1, rfl, I2, turn_enumT pa (s1.heap.objs.size + 1) s1.heap.objs.size its.length (Nat.ne_of_lt hpl) (Nat.ne_of_lt (Nat.lt_succ_of_lt hpl)) its.toArray,
          ⟨⟨.none, he'⟩, ⟨_, hit, rfl, rfl⟩, Nat.succ_ne_self _⟩, fun b hb => ?_, q _ _ _ G1 H1 x1 (yl_enum hq z rv)⟩
        have hle : s1.heap.objs.size ≤ b := by
          rcases (show b = s1.heap.objs.size + 1 ∨ b = s1.heap.objs.size by simpa using hb) with y | y
          · rw [y]; exact Nat.le_add_right _ _
          · rw [y]; exact Nat.le_refl _
        exact I1.fpOk hle (I1.hok.fresh hle)
  · cases hf
/-! ## odds and ends -/
def sDrop (f : FE) : FS := fun ρ => (f ρ).map fun _ => .nx ρ
section
variable {X : Cx} {e : Expr} {f : FE} {pos : Pos} {x : Str}
theorem sf_expr (he : PF X e f) (hs : swapsWith e none pos.line X.env = pure false := by rfl) : SF X (.Expr e pos) (sDrop f) := ps_weak (ps_expr he hs) fun Dn σ H ⟨ρ, G, B, o, ii, hf, w⟩ => by
  obtain ⟨d, e1, rfl⟩ := Option.map_eq_some_iff.mp hf
  exact ⟨ρ, G, d, ii.sg, ii.eb.ev, e1, fun v G1 H1 x1 r1 => w σ G1 H1 (x1.toB ii.bn) (ii.ext x1)⟩
theorem pf_gint {i : Int} (hm : ∃ t, X.mg x = some (.int i t)) (hg : Gl X x) (hd : (x == ("__debug__" : Str)) = false := by decide) : PF X (.Name x pos) (cK (.int i)) := by
  obtain ⟨t, hm⟩ := hm
  exact pf_const (pe_glob hg hm (v := .int i) ⟨t, rfl⟩ hd) fun _ => .int i
theorem pf_gtup {vs : List V} {ds : List D} (hm : ∃ a, X.mg x = some (.ref a) ∧ ∀ H, SqT X.K H a vs) (r : ∀ G, RpL X.K G vs ds) (z : vs.length ≤ sizeLine) (hg : Gl X x) (hd : (x == ("__debug__" : Str)) = false := by decide) : PF X (.Name x pos) (cK (.tuple ds)) := by
  obtain ⟨a, hm, hq⟩ := hm
  exact pf_const (pe_glob hg hm (v := .ref a) rfl hd) fun G => .tup (hq G) z (r G)
end
end LT
/-! # St1 -/
namespace LT
open PySem PySem.Spec PyProof.Rows L2
/-! ## tables of hashes: the round of x -> 5 x + 1 modulo a power of two -/
def xs5 : Nat → Nat
  | 0 => 0
  | k + 1 => 5 * xs5 k + 1
theorem pow5 : ∀ k, 5 ^ k = 4 * xs5 k + 1
  | 0 => rfl
  | k + 1 => by
    rw [Nat.pow_succ, pow5 k]
    show (4 * xs5 k + 1) * 5 = 4 * (5 * xs5 k + 1) + 1
    omega
theorem xs5_add (a : Nat) : ∀ c, xs5 (a + c) = 5 ^ c * xs5 a + xs5 c
  | 0 => by simp [xs5]
  | c + 1 => by
    show 5 * xs5 (a + c) + 1 = 5 ^ (c + 1) * xs5 a + (5 * xs5 c + 1)
    rw [xs5_add a c, Nat.pow_succ, Nat.mul_add, Nat.mul_comm (5 ^ c) 5, Nat.mul_assoc]
    omega
theorem xs5_two (j : Nat) : xs5 (j + j) = 2 * (xs5 j * (2 * xs5 j + 1)) := by
  rw [xs5_add j j, pow5 j]
  have e : (4 * xs5 j + 1) * xs5 j + xs5 j = (4 * xs5 j + 2) * xs5 j := by
    rw [show 4 * xs5 j + 2 = (4 * xs5 j + 1) + 1 from rfl, Nat.add_mul (4 * xs5 j + 1) 1, Nat.one_mul]
  rw [e, show 4 * xs5 j + 2 = 2 * (2 * xs5 j + 1) by omega, Nat.mul_assoc, Nat.mul_comm (2 * xs5 j + 1)]
theorem xs5_par : ∀ k, xs5 k % 2 = k % 2
  | 0 => rfl
  | k + 1 => by
    have ih := xs5_par k
    show (5 * xs5 k + 1) % 2 = (k + 1) % 2
    omega
theorem odd_cop (K n : Nat) : Nat.Coprime (2 ^ K) (2 * n + 1) := by
  refine Nat.Coprime.pow_left K ?_
  show Nat.gcd 2 (2 * n + 1) = 1
  rw [Nat.gcd_rec, show (2 * n + 1) % 2 = 1 by omega]
  rfl
/-- the power of two that divides the k-th term divides k -/
theorem xs5_dvd : ∀ (K k : Nat), 2 ^ K ∣ xs5 k → 2 ^ K ∣ k
  | 0, k, _ => ⟨k, by simp⟩
  | K + 1, k, h => by
    have h2 : xs5 k % 2 = 0 := by
      obtain ⟨q, e⟩ := h
      rw [e, Nat.pow_succ, Nat.mul_comm (2 ^ K) 2, Nat.mul_assoc]
      omega
    rw [xs5_par] at h2
    obtain ⟨j, rfl⟩ : ∃ j, k = j + j := ⟨k / 2, by omega⟩
    rw [xs5_two, Nat.pow_succ, Nat.mul_comm (2 ^ K) 2] at h
    have h3 : 2 ^ K ∣ xs5 j * (2 * xs5 j + 1) := Nat.dvd_of_mul_dvd_mul_left (by decide) h
    obtain ⟨q, e⟩ := xs5_dvd K j (Nat.Coprime.dvd_of_dvd_mul_right (odd_cop K (xs5 j)) h3)
    exact ⟨q, by rw [Nat.pow_succ, Nat.mul_comm (2 ^ K) 2, Nat.mul_assoc, ← e]; omega⟩
/-- the masks: 2 ^ k - 1 -/
def MaskP (m : Nat) : Prop := ∃ k, 3 ≤ k ∧ k ≤ 13 ∧ m + 1 = 2 ^ k
theorem lcg_form {m i : Nat} : ∀ k, lcgI m i k % (m + 1) = (5 ^ k * i + xs5 k) % (m + 1)
  | 0 => by
    show i % (m + 1) = (1 * i + 0) % (m + 1)
    rw [Nat.one_mul] <;> rfl
  | k + 1 => by
    show (lcgI m i k * 5 + 1) % (m + 1) % (m + 1) = _
    rw [Nat.mod_mod, Nat.add_mod, Nat.mul_mod, lcg_form k, ← Nat.mul_mod, ← Nat.add_mod]
    congr 1
    rw [Nat.pow_succ]
    show (5 ^ k * i + xs5 k) * 5 + 1 = 5 ^ k * 5 * i + (5 * xs5 k + 1)
    rw [Nat.add_mul, Nat.mul_assoc (5 ^ k) 5 i, Nat.mul_comm 5 i, ← Nat.mul_assoc]
    omega
theorem lcg_le {m i : Nat} (hi : i ≤ m) : ∀ k, lcgI m i k ≤ m
  | 0 => hi
  | k + 1 => Nat.le_of_lt_succ (Nat.mod_lt _ (Nat.succ_pos _))
theorem lcg_inj {m i a c : Nat} (hm : MaskP m) (hc : 0 < c) (hcm : c ≤ m) : lcgI m i a % (m + 1) ≠ lcgI m i (a + c) % (m + 1) := by
  obtain ⟨K, _, _, hK⟩ := hm
  intro e
  rw [lcg_form, lcg_form] at e
  have s : 5 ^ (a + c) * i + xs5 (a + c) = (5 ^ a * i + xs5 a) + 5 ^ a * (xs5 c * (2 * (2 * i) + 1)) := by
    rw [Nat.add_comm a c, xs5_add c a, Nat.pow_add, pow5 c]
    have e1 : (4 * xs5 c + 1) * 5 ^ a * i = 5 ^ a * i + 5 ^ a * (4 * xs5 c * i) := by
      rw [Nat.add_mul, Nat.one_mul, Nat.add_mul, Nat.mul_comm (4 * xs5 c) (5 ^ a), Nat.mul_assoc]
      omega
    have e2 : xs5 c * (2 * (2 * i) + 1) = 4 * xs5 c * i + xs5 c := by
      rw [Nat.mul_add, Nat.mul_one, show 2 * (2 * i) = 4 * i by omega, ← Nat.mul_assoc, Nat.mul_comm (xs5 c) 4]
    rw [e1, e2, Nat.mul_add (5 ^ a)]
    omega
  rw [s] at e
  have d : (m + 1) ∣ 5 ^ a * (xs5 c * (2 * (2 * i) + 1)) := by
    have h := Nat.sub_mod_eq_zero_of_mod_eq e.symm
    rw [Nat.add_sub_cancel_left] at h
    exact Nat.dvd_of_mod_eq_zero h
  rw [hK] at d
  rw [pow5 a, show 4 * xs5 a + 1 = 2 * (2 * xs5 a) + 1 by omega] at d
  have d1 := Nat.Coprime.dvd_of_dvd_mul_left (odd_cop K (2 * xs5 a)) d
  have d2 := xs5_dvd K c (Nat.Coprime.dvd_of_dvd_mul_right (odd_cop K (2 * i)) d1)
  have := Nat.le_of_dvd hc d2
  omega
/-- from anywhere each slot is met within a round -/
theorem lcg_meets {m i j : Nat} (hm : MaskP m) (hi : i ≤ m) (hj : j ≤ m) : ∃ k, k ≤ m ∧ lcgI m i k = j := by
  rcases Classical.em (∃ k, k ≤ m ∧ lcgI m i k = j) with h | h
  · exact h
  · exfalso
    have nd : ((List.range (m + 1)).map (lcgI m i)).Nodup := by
      refine List.pairwise_map.mpr (List.Pairwise.imp_of_mem (fun {a b} ha hb hlt e => ?_) List.pairwise_lt_range)
      have hb' := List.mem_range.mp hb
      refine lcg_inj (i := i) (a := a) (c := b - a) hm (by omega) (by omega) ?_
      rw [show a + (b - a) = b by omega, e]
    have sub : ∀ x ∈ (List.range (m + 1)).map (lcgI m i), x ∈ (List.range (m + 1)).erase j := fun x hx => by
      obtain ⟨k, hk, rfl⟩ := List.mem_map.mp hx
      have hk' := List.mem_range.mp hk
      refine (List.mem_erase_of_ne fun e => h ⟨k, by omega, e⟩).mpr (List.mem_range.mpr ?_)
      have := lcg_le hi k
      omega
    have l := nat_nodup_len _ _ nd sub
    rw [List.length_map, List.length_range, List.length_erase_of_mem (List.mem_range.mpr (by omega)), List.length_range] at l
    omega
/-- each slot is met within the search's bound -/
theorem way_meets {m : Nat} (hm : MaskP m) (h : Int) {j : Nat} (hj : j ≤ m) : ∃ k, k < 10 * SetTable.turns m ∧ way m h k = j := by
  obtain ⟨k, hk, e⟩ := lcg_meets hm (runI_le m (SetTable.bits h) 12) hj
  obtain ⟨q, hq, e2⟩ := run_nth m (SetTable.bits h) (12 + k)
  refine ⟨q, by unfold SetTable.turns; omega, ?_⟩
  show (nth m _ q).j = j
  rw [e2, runI_tail (bits_lt h), e]
  rfl
theorem way_in {m : Nat} {h : Int} {k : Nat} : way m h k ≤ m := by
  have hi : SetTable.bits h % (m + 1) ≤ m := Nat.le_of_lt_succ (Nat.mod_lt _ (Nat.succ_pos _))
  have r := runEnd_bd hi
  have q := nth_in (m := m) k (runAt m (SetTable.bits h % (m + 1)) (SetTable.bits h)) (show SetTable.bits h % (m + 1) + (SetTable.runEnd m (SetTable.bits h % (m + 1)) - SetTable.bits h % (m + 1)) ≤ m by omega)
  show (nth m _ k).j ≤ m
  omega
/-! ## a table whose slots are found again from their hashes -/
structure TabP (t : SetTable) (hs : List Int) : Prop where
  ris : Ris t.place.toList
  dm : t.dummies = #[]
  sz : t.place.size = hs.length
  mok : MaskP t.mask
  bd : ∀ x ∈ t.place.toList, x ≤ t.mask
  back : ∀ (i : Nat) (h : Int) (j : Nat), hs[i]? = some h → t.place.toList[i]? = some j → ∃ k, way t.mask h k = j ∧ ∀ k', k' < k → way t.mask h k' ∈ t.place.toList
theorem MaskP.odd {m : Nat} (h : MaskP m) : m % 2 = 1 := by
  obtain ⟨k, h1, _, h3⟩ := h
  obtain ⟨q, rfl⟩ : ∃ q, k = q + 1 := ⟨k - 1, by omega⟩
  rw [Nat.pow_succ] at h3
  omega
theorem MaskP.small {m : Nat} (h : MaskP m) : m ≤ 8191 := by
  obtain ⟨k, h1, h2, h3⟩ := h
  have : 2 ^ k ≤ 2 ^ 13 := Nat.pow_le_pow_right (by decide) h2
  have e : 2 ^ 13 = 8192 := by decide
  omega
section
variable {t : SetTable} {hs : List Int}
/-- the first empty slot on the way of a hash -/
theorem TabP.fst (T : TabP t hs) (hl : hs.length ≤ t.mask) (h : Int) : ∃ K, K < 10 * SetTable.turns t.mask ∧ way t.mask h K ∉ t.place.toList ∧ ∀ k, k < K → way t.mask h k ∈ t.place.toList := by
  obtain ⟨j, hj, hn⟩ := st_missing t.place.toList (t.mask + 1) (by rw [Array.length_toList, T.sz]; omega)
  obtain ⟨k, hk, e⟩ := way_meets T.mok h (Nat.le_of_lt_succ hj)
  obtain ⟨K, h1, h2, h3⟩ := st_least (p := fun k => way t.mask h k ∉ t.place.toList) k (by show way t.mask h k ∉ _; rw [e]; exact hn)
  exact ⟨K, Nat.lt_of_le_of_lt h1 hk, h2, fun k' hk' => Classical.not_not.mp (h3 k' hk')⟩
theorem TabP.ahead (T : TabP t hs) {h : Int} {K i j : Nat} (hK : way t.mask h K ∉ t.place.toList) (hi : hs[i]? = some h) (hj : t.place.toList[i]? = some j) : ∃ k, k < K ∧ way t.mask h k = j := by
  obtain ⟨k, e, hb⟩ := T.back i h j hi hj
  refine ⟨k, ?_, e⟩
  rcases Nat.lt_trichotomy k K with c | c | c
  · exact c
  · subst c
    rw [e] at hK
    exact absurd (List.mem_of_getElem? hj) hK
  · exact absurd (hb K c) hK
theorem TabP.ins (T : TabP t hs) {h : Int} {K p : Nat} (hp : p = SetTable.below t.place (way t.mask h K)) (hK : way t.mask h K ∉ t.place.toList) (hb : ∀ k, k < K → way t.mask h k ∈ t.place.toList) :
    p ≤ hs.length ∧ TabP (t.put (way t.mask h K)).1 (hs.take p ++ h :: hs.drop p) := by
  have c1 := (below_cut T.ris (way t.mask h K)).1
  rw [← hp] at c1
  have hl : t.place.toList.length = hs.length := by rw [Array.length_toList]; exact T.sz
  have hps : p ≤ hs.length := by rw [← T.sz]; exact c1
  have hpl : p ≤ t.place.toList.length := by rw [hl]; exact hps
  have hpp := put_place t (way t.mask h K)
  rw [← hp] at hpp
  have old : ∀ {x : Nat}, x ∈ t.place.toList → x ∈ (t.put (way t.mask h K)).1.place.toList := fun hx => by rw [hpp]; exact mem_ins.2 (.inr hx)
  have nw : t.place[SetTable.below t.place (way t.mask h K)]? ≠ some (way t.mask h K) := fun e => hK (List.mem_of_getElem? (by rw [Array.getElem?_toList]; exact e))
  refine ⟨hps, ris_insert T.ris nw, put_dm T.dm _, ?_, T.mok, fun x hx => ?_, fun i h' j' h1 h2 => ?_⟩
  · rw [len_ins _ hps, ← Array.length_toList, hpp, len_ins _ hpl, hl]
  · rw [hpp] at hx
    rcases mem_ins.1 hx with z | z
    · subst z; exact way_in
    · exact T.bd x z
  · rw [tins_get hs hps] at h1
    rw [hpp, tins_get _ hpl] at h2
    show ∃ k, way t.mask h' k = j' ∧ ∀ k', k' < k → way t.mask h' k' ∈ (t.put (way t.mask h K)).1.place.toList
    by_cases c : i < p
    · rw [if_pos c] at h1 h2
      obtain ⟨k, e, z⟩ := T.back i h' j' h1 h2
      exact ⟨k, e, fun k' hk' => old (z k' hk')⟩
    · rw [if_neg c] at h1 h2
      by_cases d : i = p
      · rw [if_pos d] at h1 h2
        cases h1
        cases h2
        exact ⟨K, rfl, fun k' hk' => old (hb k' hk')⟩
      · rw [if_neg d] at h1 h2
        obtain ⟨k, e, z⟩ := T.back (i - 1) h' j' h1 h2
        exact ⟨k, e, fun k' hk' => old (z k' hk')⟩
theorem TabP.fillNew (T : TabP t hs) {j p : Nat} (hp : p = SetTable.below t.place j) : (t.put j).1.fill = hs.length + 1 := by
  have c1 := (below_cut T.ris j).1
  show (t.put j).1.place.size + (t.put j).1.dummies.size = _
  rw [put_dm T.dm j, ← Array.length_toList, put_place t j, len_ins _ (by rw [Array.length_toList]; exact c1), Array.length_toList, T.sz]
  rfl
end
end LT
/-! # St2 -/
namespace LT
open PySem PySem.Spec PyProof.Rows L2
/-! ## a table laid anew -/
/-- laying finds the first free place of the way -/
theorem lay_free {m : Nat} (hm : MaskP m) (ow : Array (Option Nat)) (h : Int) {j : Nat} (hj : j ≤ m) (hf : oAt ow j = none) :
    ∃ K, SetTable.layClean.free m ow (SetTable.turns m) (SetTable.bits h % (m + 1)) (SetTable.bits h) = some (way m h K) ∧ oAt ow (way m h K) = none ∧ ∀ k, k < K → oAt ow (way m h k) ≠ none := by
  obtain ⟨k0, hk0, e0⟩ := lcg_meets hm (runI_le m (SetTable.bits h) 12) hj
  have e1 : way m h (off m (SetTable.bits h % (m + 1)) (SetTable.bits h) (12 + k0)) = j := by
    show (nth m _ _).j = j
    rw [nth_off, itL_run, runI_tail (bits_lt h), e0]
    rfl
  obtain ⟨K, k1, k2, k3⟩ := st_least (p := fun k => oAt ow (way m h k) = none) (off m (SetTable.bits h % (m + 1)) (SetTable.bits h) (12 + k0)) (by show oAt ow (way m h _) = none; rw [e1]; exact hf)
  refine ⟨K, free_spec m ow (SetTable.turns m) (12 + k0) _ _ K (by unfold SetTable.turns; omega) k1 (fun k hk => ?_) ?_, k2, k3⟩
  · cases z : oAt ow (way m h k) with
    | none => exact absurd z (k3 k hk)
    | some v => rfl
  · show (oAt ow (way m h K)).isNone = true
    rw [k2]
    rfl
theorem own_more {m : Nat} (hm : MaskP m) {done : List Int} {ow : Array (Option Nat)} (W : L2.Own m done ow) (hl : done.length ≤ m) (h : Int) :
    ∃ j, SetTable.layClean.free m ow (SetTable.turns m) (SetTable.bits h % (m + 1)) (SetTable.bits h) = some j ∧ L2.Own m (done ++ [h]) (ow.setIfInBounds j (some done.length)) := by
  obtain ⟨ps, hps, hin⟩ := W.ps
  obtain ⟨j0, h0, hn0⟩ := st_missing ps (m + 1) (by omega)
  have f0 : oAt ow j0 = none := by
    cases z : oAt ow j0 with
    | none => rfl
    | some k => exact absurd (hin j0 (by omega) (by rw [z]; exact fun e => nomatch e)) hn0
  obtain ⟨K, e1, e2, e3⟩ := lay_free hm ow h (Nat.le_of_lt_succ h0) f0
  have wi : way m h K ≤ m := way_in
  have slf : oAt (ow.setIfInBounds (way m h K) (some done.length)) (way m h K) = some done.length := oAt_set_self _ (by rw [W.sz]; omega)
  have oth : ∀ {i : Nat}, i ≠ way m h K → oAt (ow.setIfInBounds (way m h K) (some done.length)) i = oAt ow i := fun hne => oAt_set_ne _ hne
  have up : ∀ {i : Nat}, oAt ow i ≠ none → oAt (ow.setIfInBounds (way m h K) (some done.length)) i ≠ none := fun {i} hi => by
    rcases Classical.em (i = way m h K) with c | c
    · rw [c, slf]; exact fun e => nomatch e
    · rw [oth c]; exact hi
  refine ⟨way m h K, e1, ⟨by rw [Array.size_setIfInBounds, W.sz], fun j k hj e => ?_, fun k hk => ?_, way m h K :: ps, by simp [hps], fun j hj e => ?_⟩⟩
  · rcases Classical.em (j = way m h K) with c | c
    · subst c
      rw [slf] at e
      cases e
      exact ⟨h, K, by simp, rfl, fun k' hk' => up (e3 k' hk')⟩
    · rw [oth c] at e
      obtain ⟨h', K', a1, a2, a3⟩ := W.at_ j k hj e
      exact ⟨h', K', by rw [List.getElem?_append_left (List.getElem?_eq_some_iff.mp a1).1]; exact a1, a2, fun k' hk' => up (a3 k' hk')⟩
  · rcases Nat.lt_or_ge k done.length with c | c
    · obtain ⟨j, hj, e⟩ := W.all k c
      refine ⟨j, hj, (oth fun z => ?_).trans e⟩
      rw [z, e2] at e
      cases e
    · have : k = done.length := by simp at hk; omega
      subst this
      exact ⟨_, wi, slf⟩
  · rcases Classical.em (j = way m h K) with c | c
    · rw [c]; exact List.mem_cons_self
    · rw [oth c] at e
      exact List.mem_cons_of_mem _ (hin j hj e)
theorem own_fold {m : Nat} (hm : MaskP m) : ∀ (more done : List Int) (ow : Array (Option Nat)), L2.Own m done ow → done.length + more.length ≤ m →
    ∃ ow', more.foldl (stepF m) (some (ow, done.length)) = some (ow', (done ++ more).length) ∧ L2.Own m (done ++ more) ow'
  | [], done, ow, W, _ => ⟨ow, by simp, by simpa using W⟩
  | h :: more, done, ow, W, hl => by
    simp only [List.length_cons] at hl
    obtain ⟨j, e, W'⟩ := own_more hm W (by omega) h
    obtain ⟨ow', f, W2⟩ := own_fold hm more (done ++ [h]) _ W' (by simp; omega)
    rw [List.append_assoc] at f W2
    refine ⟨ow', ?_, W2⟩
    rw [List.foldl_cons, stepF_some e]
    simpa using f
theorem lay_all {m : Nat} (hm : MaskP m) {hs : Array Int} (hn : hs.size ≤ m) : ∃ ow, SetTable.layClean m hs = some ow ∧ L2.Own m hs.toList ow := by
  obtain ⟨ow, f, W⟩ := own_fold hm hs.toList [] _ (Own.init m) (by simpa using hn)
  refine ⟨ow, ?_, W⟩
  rw [layClean_eq]
  exact congrArg (Option.map (·.1)) f
theorem relay_ok (t : SetTable) {hs : Array Int} {wanted M : Nat} (hw : SetTable.sizeAbove wanted - 1 = M) (hM : MaskP M) (hn : hs.size ≤ M) :
    ∃ t' order, t.relaid hs wanted = some (t', order) ∧ order.toList.Perm (List.range hs.size) ∧ TabP t' (order.toList.map fun i => hs.getD i 0) ∧ t'.mask = M ∧ t'.led = t.led ∧ t'.plain = t.plain := by
  obtain ⟨ow, e, W⟩ := lay_all hM hn
  have hr : t.relaid hs wanted = some (tabOf t M ow, ((liveOf M ow).map (·.2)).toArray) := by rw [relaid_eq, hw, e]; rfl
  have ris := ris_live (fun j => ow.getD j none) (List.range (M + 1)) (show List.Pairwise _ _ from List.pairwise_lt_range)
  have r1 : Ris ((liveOf M ow).map (·.1)) := ris.1
  have nd : ((liveOf M ow).map (·.1)).Nodup := by
    have r1' : List.Pairwise (fun a b : Nat => a < b) ((liveOf M ow).map (·.1)) := r1
    exact r1'.imp fun h => Nat.ne_of_lt h
  have r2 : ∀ x ∈ (liveOf M ow).map (·.1), x ∈ List.range (M + 1) := ris.2
  have key : ∀ k, k < hs.size → ∃ j, (j, k) ∈ liveOf M ow := fun k hk => by
    obtain ⟨j, b1, b2⟩ := W.all k (by rw [Array.length_toList]; exact hk)
    exact ⟨j, (mem_live W.sz).2 ⟨b1, b2⟩⟩
  have len : (liveOf M ow).length = hs.size := by
    obtain ⟨ps, p1, p2⟩ := W.ps
    have l1 := nat_nodup_len ((liveOf M ow).map (·.1)) ps nd fun x hx => by
      obtain ⟨⟨y, k⟩, hq, rfl⟩ := List.mem_map.mp hx
      obtain ⟨b1, b2⟩ := (mem_live W.sz).1 hq
      exact p2 y b1 (by rw [b2]; exact fun z => nomatch z)
    have l2 := nat_nodup_len (List.range hs.size) ((liveOf M ow).map (·.2)) List.nodup_range fun k hk => by
      obtain ⟨j, hj⟩ := key k (List.mem_range.mp hk)
      exact List.mem_map.mpr ⟨_, hj, rfl⟩
    simp at l1 l2 p1
    omega
  refine ⟨_, _, hr, L2.perm_range hs.size _ (by simpa using len) fun k hk => ?_, ⟨r1, rfl, by simp [tabOf], hM, fun x hx => Nat.le_of_lt_succ (List.mem_range.mp (r2 x hx)), fun i h j h1 h2 => ?_⟩, rfl, rfl, rfl⟩
  · obtain ⟨j, hj⟩ := key k hk
    exact List.mem_map.mpr ⟨_, hj, rfl⟩
  · have h1' : (((liveOf M ow).map (·.2)).map fun i => hs.getD i 0)[i]? = some h := h1
    have h2' : ((liveOf M ow).map (·.1))[i]? = some j := h2
    simp only [List.getElem?_map, Option.map_map] at h1' h2'
    obtain ⟨⟨y, k⟩, hq, rfl⟩ := Option.map_eq_some_iff.mp h2'
    rw [hq] at h1'
    have eh : hs.getD k 0 = h := by simpa using h1'
    obtain ⟨b1, b2⟩ := (mem_live W.sz).1 (List.mem_of_getElem? hq)
    obtain ⟨h0, K, a1, a2, a3⟩ := W.at_ y k b1 b2
    have e0 : hs.getD k 0 = h0 := by
      rw [Array.getD_eq_getD_getElem?, ← Array.getElem?_toList, a1]
      rfl
    obtain rfl := e0.symm.trans eh
    refine ⟨K, a2, fun k' hk' => ?_⟩
    show way M h0 k' ∈ (liveOf M ow).map (·.1)
    cases z : oAt ow (way M h0 k') with
    | none => exact absurd z (a3 k' hk')
    | some k2 => exact List.mem_map.mpr ⟨(way M h0 k', k2), (mem_live W.sz).2 ⟨way_in, z⟩, rfl⟩
/-! ## how large a table grows -/
theorem above_of {n : Nat} : ∀ (f s : Nat), (∃ k, s = 2 ^ k) → n < s * 2 ^ f → ∃ k, SetTable.sizeAbove.go n f s = 2 ^ k ∧ s ≤ 2 ^ k ∧ n < 2 ^ k ∧ (2 ^ k = s ∨ 2 ^ k ≤ 2 * n)
  | 0, s, ⟨k, e⟩, h => ⟨k, by unfold SetTable.sizeAbove.go; exact e, by omega, by rw [← e]; simpa using h, .inl e.symm⟩
  | f + 1, s, ⟨k, e⟩, h => by
    unfold SetTable.sizeAbove.go
    by_cases c : s ≤ n
    · rw [if_pos c]
      obtain ⟨k', a, b, d, g⟩ := above_of (n := n) f (s * 2) ⟨k + 1, by rw [Nat.pow_succ, e]⟩ (by rw [Nat.mul_assoc, ← Nat.pow_succ']; exact h)
      exact ⟨k', a, by omega, d, .inr (by rcases g with g | g <;> omega)⟩
    · rw [if_neg c]
      exact ⟨k, e, by omega, by omega, .inl e.symm⟩
/-- the table behind a growth: it has room -/
theorem grow_mask {n : Nat} (h5 : 5 ≤ n) (hn : n < 1300) : ∃ M, SetTable.sizeAbove (SetTable.grown n) - 1 = M ∧ MaskP M ∧ SetTable.sizeAbove (SetTable.grown n) ≤ 16384 ∧ 4 * n ≤ M ∧ n * 5 < M * 3 := by
  have eg : SetTable.grown n = n * 4 := by unfold SetTable.grown; rw [if_neg (by omega)]
  rw [eg]
  obtain ⟨k, a, b, c, d⟩ := above_of (n := n * 4) 64 8 ⟨3, by decide⟩ (by
    have : (8 : Nat) * 2 ^ 64 ≥ 10000 := by decide
    omega)
  have e : SetTable.sizeAbove (n * 4) = 2 ^ k := a
  rw [e]
  have l : 2 ^ k ≤ 10400 := by rcases d with d | d <;> omega
  have k13 : k ≤ 13 := by
    rcases Nat.lt_or_ge 13 k with q | q
    · have : 2 ^ 14 ≤ 2 ^ k := Nat.pow_le_pow_right (by decide) q
      have e14 : (2 : Nat) ^ 14 = 16384 := by decide
      omega
    · exact q
  have k3 : 3 ≤ k := by
    rcases Nat.lt_or_ge k 3 with q | q
    · have : 2 ^ k ≤ 2 ^ 2 := Nat.pow_le_pow_right (by decide) (by omega)
      have e2 : (2 : Nat) ^ 2 = 4 := by decide
      omega
    · exact q
  exact ⟨2 ^ k - 1, rfl, ⟨k, k3, k13, by omega⟩, by omega, by omega, by omega⟩
end LT
/-! # St3 -/
namespace LT
open PySem PySem.Spec PyProof.Rows L2
section
variable {P : Program} {w : World}
/-- the tuple at a is the key k -/
def KIs (h : Heap) (k : NestedKey) (a : Addr) : Prop := NestedIs h k (.ref a) ∧ k.depth ≤ 8
abbrev kh (w : World) (k : NestedKey) : Int := k.hash w
theorem KIs.ty {s : Shared} {k : NestedKey} {a : Addr} (x : KIs s.heap k a) : s.TypeIs (.ref a) "tuple" := by
  obtain ⟨x, _⟩ := x
  cases x with
  | tup h1 h2 _ _ => exact ⟨_, h1, h2⟩
theorem KIs.but {h h' : Heap} {k : NestedKey} {a b : Addr} {o : Obj} {es : Array (Int × Value)} {ep : Nat} {t : SetTable} (x : KIs h k b) (ho : h.get? a = some o) (hd : o.data = .set es ep t) (hs : Heap.SameBut a h h') : KIs h' k b :=
  ⟨NestedIs.at (fun c ob vs n hb hc => by
    refine (hs.2 c fun e => ?_).trans hb
    subst e
    rw [ho] at hb
    cases hb
    rw [hd] at hc
    cases hc) k _ x.1, x.2⟩
theorem KIs.keep {h h' : Heap} {k : NestedKey} {b : Addr} (x : KIs h k b) (hk : ∀ c o, h.get? c = some o → h'.get? c = some o) : KIs h' k b := ⟨NestedIs.at (fun c ob _ _ hb _ => hk c ob hb) k _ x.1, x.2⟩
theorem KIs.inj {h : Heap} {k k' : NestedKey} {b : Addr} (x : KIs h k b) (y : KIs h k' b) : k = k' := NestedIs.inj _ _ _ x.1 y.1
/-- asking whether a key is of a class statement: no -/
def NoCls (P : Program) (w : World) (n : Nat) (s : Shared) (v : Value) : Prop := ∀ (A : Around) (E : Value → Shared → Prop) (Q : Bool → Shared → Prop), Q false s → wpAny (model P w) A (ofAClassStatement n v) Q E s
mutual
theorem no_cls : ∀ (k : NestedKey) (v : Value) (n : Nat) (s : Shared), NestedIs s.heap k v → k.depth ≤ n → NoCls P w n s v
  | .none, _, n, s, x, _ => by cases x; exact fun A E Q h => by cases n <;> exact wpAny_pure h
  | .num i, _, n, s, x, _ => by cases x <;> exact fun A E Q h => by cases n <;> exact wpAny_pure h
  | .text y, _, n, s, x, _ => by cases x; exact fun A E Q h => by cases n <;> exact wpAny_pure h
  | .tup ks, _, n, s, x, hn => by
    cases x with
    | @tup a o vs m _ hg hc hd hk =>
      simp only [NestedKey.depth] at hn
      obtain ⟨n, rfl⟩ : ∃ q, n = q + 1 := ⟨n - 1, by omega⟩
      intro A E Q h
      have hT : s.TypeIs (.ref a) "tuple" := ⟨o, hg, hc⟩
      unfold ofAClassStatement
      refine wpAny_bind (wpAny_typeOf hT ?_)
      dsimp only
      have e : (("tuple" : String) == "tuple") = true := by decide
      simp only [e, if_true, Bool.not_true, Bool.false_eq_true, if_false]
      try refine wpAny_bind (wpAny_pure ?_)
      try simp only [Bool.not_true, Bool.false_eq_true, if_false]
      show wpAny _ _ (seqItems? (.ref a) >>= _) _ _ s
      refine wpAny_bind (wpAny_seqItems hg hd ?_)
      dsimp only
      refine wpAny_bind ?_
      show wpAny _ _ (forIn vs _ _) _ _ s
      rw [← Array.forIn_toList]
      refine wpAny_forIn_list _ (fun rest r s' => r.1 = none ∧ s' = s ∧ ∀ v ∈ rest, NoCls P w n s v) _ ?_ ?_ _ _ ⟨rfl, rfl, no_clss ks _ n s hk (by omega)⟩
      · rintro v rest r s' ⟨hr, rfl, hall⟩
        refine wpAny_bind (hall v List.mem_cons_self _ _ _ ?_)
        simp only [Bool.false_eq_true, if_false]
        exact wpAny_pure ⟨rfl, rfl, fun u hu' => hall u (List.mem_cons_of_mem _ hu')⟩
      · rintro ⟨r1, r2⟩ s' ⟨hr, rfl, _⟩
        simp only at hr
        subst hr
        exact wpAny_pure h
theorem no_clss : ∀ (ks : List NestedKey) (vs : List Value) (n : Nat) (s : Shared), NestedAll s.heap ks vs → NestedKey.depthAll ks ≤ n → ∀ v ∈ vs, NoCls P w n s v
  | [], _, n, s, x, _, v, hv => by cases x; cases hv
  | k :: ks, _, n, s, x, hn, v, hv => by
    cases x with
    | cons x1 x2 =>
      simp only [NestedKey.depthAll] at hn
      rcases List.mem_cons.mp hv with e | hv
      · rw [e]; exact no_cls k _ n s x1 (by omega)
      · exact no_clss ks _ n s x2 (by omega) v hv
end
/-- whether a key's hash is by value alone: it answers -/
def HbVal (P : Program) (w : World) (n : Nat) (s : Shared) (v : Value) : Prop := ∀ (A : Around) (E : Value → Shared → Prop) (Q : Bool → Shared → Prop), (∀ b, Q b s) → wpAny (model P w) A (hashByValue n v) Q E s
mutual
theorem hb_val : ∀ (k : NestedKey) (v : Value) (n : Nat) (s : Shared), NestedIs s.heap k v → HbVal P w n s v
  | .none, _, n, s, x => by cases x; exact fun A E Q h => by cases n <;> exact wpAny_pure (h _)
  | .num i, _, n, s, x => by cases x <;> exact fun A E Q h => by cases n <;> exact wpAny_pure (h _)
  | .text y, _, n, s, x => by cases x; exact fun A E Q h => by cases n <;> exact wpAny_pure (h _)
  | .tup ks, _, n, s, x => by
    cases x with
    | @tup a o vs m _ hg hc hd hk =>
      intro A E Q h
      cases n with
      | zero => exact wpAny_pure (h _)
      | succ n =>
        have hT : s.TypeIs (.ref a) "tuple" := ⟨o, hg, hc⟩
        unfold hashByValue
        refine wpAny_bind (wpAny_specialOf hT F.slot_tuple_hash.lookup ?_)
        show wpAny _ _ (seqItems? (.ref a) >>= _) _ _ s
        refine wpAny_bind (wpAny_seqItems hg hd ?_)
        refine wpAny_bind ?_
        show wpAny _ _ (forIn vs _ _) _ _ s
        rw [← Array.forIn_toList]
        refine wpAny_forIn_list _ (fun rest r s' => r.1 = none ∧ s' = s ∧ ∀ v ∈ rest, HbVal P w n s v) _ ?_ ?_ _ _ ⟨rfl, rfl, hb_vals ks _ n s hk⟩
        · rintro v rest r s' ⟨hr, rfl, hall⟩
          refine wpAny_bind (hall v List.mem_cons_self _ _ _ fun b => ?_)
          cases b
          · exact wpAny_pure (wpAny_pure (h _))
          · exact wpAny_pure ⟨rfl, rfl, fun u hu' => hall u (List.mem_cons_of_mem _ hu')⟩
        · rintro ⟨r1, r2⟩ s' ⟨hr, rfl, _⟩
          simp only at hr
          subst hr
          exact wpAny_pure (h _)
theorem hb_vals : ∀ (ks : List NestedKey) (vs : List Value) (n : Nat) (s : Shared), NestedAll s.heap ks vs → ∀ v ∈ vs, HbVal P w n s v
  | [], _, n, s, x, v, hv => by cases x; cases hv
  | k :: ks, _, n, s, x, v, hv => by
    cases x with
    | cons x1 x2 =>
      rcases List.mem_cons.mp hv with e | hv
      · rw [e]; exact hb_val k _ n s x1
      · exact hb_vals ks _ n s x2 v hv
end
end
section
variable {P : Program} {w : World} {A : Around} {E : Value → Shared → Prop} {s : Shared}
/-- a search among keys shows nothing -/
theorem unseen {k : NestedKey} {b : Addr} {Q : Bool → Shared → Prop} (hk : KIs s.heap k b) {ys : List Value} (hy : ∀ y ∈ ys, ∃ k' c, y = Value.ref c ∧ KIs s.heap k' c) (h : Q false s) :
    wpAny (model P w) A (searchCouldBeSeen (.ref b) ys) Q E s := by
  unfold searchCouldBeSeen
  refine wpAny_bind (wpAny_forIn_list _ (fun rest r s' => r.1 = none ∧ s' = s ∧ ∀ y ∈ rest, ∃ k' c, y = Value.ref c ∧ KIs s.heap k' c) _ ?_ ?_ _ _ ⟨rfl, rfl, hy⟩)
  · rintro v rest r s' ⟨hr, rfl, hall⟩
    obtain ⟨k', c, rfl, hc⟩ := hall v List.mem_cons_self
    have tl : ∀ y ∈ rest, ∃ k' c, y = Value.ref c ∧ KIs s'.heap k' c := fun u hu' => hall u (List.mem_cons_of_mem _ hu')
    dsimp only
    by_cases hv : (b == c || (carriedByValue (.ref b) && carriedByValue (.ref c))) = true
    · exact wp_if_pos hv (wpAny_pure ⟨rfl, rfl, tl⟩)
    · refine wp_if_neg hv (wpAny_bind ((nestedKind P w).quiet hk ?_))
      simp only [Bool.not_true, Bool.false_eq_true, if_false]
      refine wpAny_bind ((nestedKind P w).quiet hc ?_)
      simp only [Bool.not_true, Bool.false_eq_true, if_false]
      refine wpAny_bind (no_cls k _ 8 s' hk.1 hk.2 _ _ _ ?_)
      simp only [Bool.false_eq_true, if_false]
      refine wpAny_bind (no_cls k' _ 8 s' hc.1 hc.2 _ _ _ ?_)
      simp only [Bool.false_eq_true, if_false]
      exact wpAny_pure ⟨rfl, rfl, tl⟩
  · rintro ⟨r1, r2⟩ s' ⟨hr, rfl, _⟩
    simp only at hr
    subst hr
    exact wpAny_pure h

/-! ### a set of keys -/
/-- the masks that come -/
def MaskE (m : Nat) : Prop := m = 7 ∨ m = 31 ∨ m = 127 ∨ m = 511 ∨ m = 2047 ∨ m = 8191
theorem MaskE.p {m : Nat} (h : MaskE m) : MaskP m := by
  rcases h with h | h | h | h | h | h <;> subst h
  · exact ⟨3, by decide, by decide, by decide⟩
  · exact ⟨5, by decide, by decide, by decide⟩
  · exact ⟨7, by decide, by decide, by decide⟩
  · exact ⟨9, by decide, by decide, by decide⟩
  · exact ⟨11, by decide, by decide, by decide⟩
  · exact ⟨13, by decide, by decide, by decide⟩
def rowsN (w : World) (L : List (Addr × NestedKey)) : List (Int × Value) := L.map fun p => (kh w p.2, Value.ref p.1)
structure SetN (w : World) (h : Heap) (a : Addr) (L : List (Addr × NestedKey)) (es : Array (Int × Value)) (ep : Nat) (t : SetTable) : Prop where
  ob : ∃ o, h.get? a = some o ∧ o.ExactSet ∧ o.data = .set es ep t
  rows : es.toList = rowsN w L
  tab : TabP t (L.map fun p => kh w p.2)
  me : MaskE t.mask
  nd : (L.map (·.2)).Nodup
  key : ∀ p ∈ L, KIs h p.2 p.1
  led : w.params.followText "set-order" = true ∨ t.led = true
  room : L.length * 5 < t.mask * 3
  few : L.length < 4096
variable {a : Addr} {L : List (Addr × NestedKey)} {es : Array (Int × Value)} {ep : Nat} {t : SetTable}
theorem rows_size (h : es.toList = rowsN w L) : es.size = L.length := by
  rw [← Array.length_toList, h]
  simp [rowsN]
theorem fits_of {hs : List Int} (T : TabP t hs) (h1 : es.size = hs.length) (h2 : hs.length ≤ t.mask) : t.fits es.size = true := by
  have h3 := T.sz
  unfold SetTable.fits SetTable.fill
  rw [T.dm, Bool.and_eq_true, beq_iff_eq, decide_eq_true_eq]
  show t.place.size = es.size ∧ t.place.size + 0 ≤ t.mask
  omega
theorem SetN.fits (R : SetN w s.heap a L es ep t) : t.fits es.size = true := fits_of R.tab (by rw [rows_size R.rows]; simp) (by have := R.room; simp; omega)
theorem SetN.ent (R : SetN w s.heap a L es ep t) {i : Nat} {p : Addr × NestedKey} (h : L[i]? = some p) : es[i]? = some (kh w p.2, Value.ref p.1) := by
  rw [← Array.getElem?_toList, R.rows]
  simp [rowsN, h]
theorem SetN.gw (R : SetN w s.heap a L es ep t) : ¬ t.gaveWay = true := by
  unfold SetTable.gaveWay
  rw [R.tab.mok.odd]
  decide
theorem nth_nodummy {m : Nat} : ∀ (n : Nat) (p : SetTable.Probe), p.dummy = none → (nth m p n).dummy = none
  | 0, _, h => h
  | n + 1, p, h => nth_nodummy n (adv m p) (by unfold adv; split <;> exact h)
/-- the first probe of a hash -/
abbrev pr0 (m : Nat) (h : Int) : SetTable.Probe := runAt m (SetTable.bits h % (m + 1)) (SetTable.bits h)

/-- the search, from the c-th step of the way on -/
theorem find_from (R : SetN w s.heap a L es ep t) {x : Addr} {k : NestedKey} (hx : KIs s.heap k x) (hu : A.units + 8 < cLine) {K : Nat} (hKf : K < 10 * SetTable.turns t.mask)
    (hK : way t.mask (kh w k) K ∉ t.place.toList) (hKb : ∀ c, c < K → way t.mask (kh w k) c ∈ t.place.toList) {Q : SetFound → Shared → Prop}
    (hin : k ∈ L.map (·.2) → Q (.there none) s) (hout : k ∉ L.map (·.2) → Q (.free (way t.mask (kh w k) K) false) s) :
    ∀ (f c : Nat) (stand : Option SetTable.Probe), stand.getD (t.probeStart (kh w k)) = nth t.mask (pr0 t.mask (kh w k)) c → c ≤ K → K - c < f →
      (∀ (i : Nat) p, L[i]? = some p → p.2 = k → ∃ c', c ≤ c' ∧ c' < K ∧ t.place.toList[i]? = some (way t.mask (kh w k) c')) →
      wpAny (model P w) A (setSearchFrom a (.ref x) (kh w k) true f stand) Q E s
  | 0, _, _, _, _, hf, _ => absurd hf (Nat.not_lt_zero _)
  | f + 1, c, stand, hst, hc, hf, hre => by
    obtain ⟨o, ho, hex, hd⟩ := R.ob
    rw [setSearchFrom_succ]
    refine wpAny_bind (wpAny_setState_of ho hd R.fits ?_)
    dsimp only
    refine wp_if_neg R.gw ?_
    try refine wpAny_bind (wpAny_pure ?_)
    have sh : ∀ q, nth t.mask (nth t.mask (pr0 t.mask (kh w k)) c) q = nth t.mask (pr0 t.mask (kh w k)) (c + q) := fun q => (nth_add t.mask c _ q).symm
    have e1 : ∀ q, (nth t.mask (nth t.mask (pr0 t.mask (kh w k)) c) q).j = way t.mask (kh w k) (c + q) := fun q => congrArg SetTable.Probe.j (sh q)
    have hashAt : ∀ (i : Nat) p, L[i]? = some p → (fun i => (es[i]?.map (·.1)).getD 0) i = kh w p.2 := fun i p hp => by
      show (es[i]?.map (·.1)).getD 0 = _
      rw [R.ent hp]
      rfl
    rcases go_spec t R.tab.ris R.tab.dm (fun i => (es[i]?.map (·.1)).getD 0) (kh w k) (10 * SetTable.turns t.mask) (K - c) _ (nth_nodummy c (pr0 t.mask (kh w k)) rfl) (by omega)
      (fun q hq => by rw [e1]; exact hKb (c + q) (by omega)) (by rw [e1, show c + (K - c) = K by omega]; exact hK) with ⟨q, i, hq, hi, hh, hno, hpr⟩ | ⟨hno, hpr⟩
    · have hpr' : t.probe (fun i => (es[i]?.map (·.1)).getD 0) (kh w k) (stand.getD (t.probeStart (kh w k))) = some (.candidate (way t.mask (kh w k) (c + q)) i (nth t.mask (pr0 t.mask (kh w k)) (c + (q + 1)))) := by
        rw [hst, ← e1, ← sh]
        exact hpr
      rw [hpr']
      dsimp only
      rw [e1] at hi
      have hil : i < L.length := by
        have h1 := (List.getElem?_eq_some_iff.mp hi).1
        have h2 := R.tab.sz
        simp at h1 h2
        omega
      have hp : L[i]? = some L[i] := List.getElem?_eq_getElem hil
      generalize L[i] = p at hp
      have hmem : p ∈ L := List.mem_of_getElem? hp
      have hpt := R.key p hmem
      have rest : wpAny (model P w) A (searchRest a (.ref x) (kh w k) true f es t (way t.mask (kh w k) (c + q)) i (nth t.mask (pr0 t.mask (kh w k)) (c + (q + 1)))) Q E s := by
        unfold searchRest
        rw [R.ent hp]
        dsimp only
        refine wpAny_bind (wpAny_holding ((nestedKind P w).eqBool hu hpt hx ?_))
        refine wpAny_bind (wpAny_setState_of ho hd R.fits ?_)
        dsimp only
        by_cases hkk : p.2 = k
        · exact wp_if_pos (by simp [hkk]) (wpAny_pure (hin (List.mem_map.mpr ⟨p, hmem, hkk⟩)))
        · refine wp_if_neg (by simp [hkk]) ?_
          try refine wpAny_bind (wpAny_pure ?_)
          rw [sameMem]
          dsimp only
          have hsl : t.slot (way t.mask (kh w k) (c + q)) = .live i := slot_live R.tab.ris hi
          simp only [if_true, hsl, R.ent hp]
          refine wpAny_bind (wpAny_isSame_ref_self (wpAny_bind (wpAny_pure ?_)))
          simp only [if_true]
          refine wp_if_neg (by simp [hkk]) (find_from R hx hu hKf hK hKb hin hout f (c + (q + 1)) _ rfl (by omega) (by omega) fun i0 p0 h0 hk0 => ?_)
          obtain ⟨c', a1, a2, a3⟩ := hre i0 p0 h0 hk0
          refine ⟨c', ?_, a2, a3⟩
          rcases Nat.lt_trichotomy c' (c + q) with z | z | z
          · exact absurd ((hashAt i0 p0 h0).trans (congrArg (kh w) hk0)) (hno (c' - c) i0 (by omega) (by rw [e1, show c + (c' - c) = c' by omega]; exact a3))
          · rw [z] at a3
            have s0 := slot_live R.tab.ris a3
            rw [hsl] at s0
            injection s0 with s0
            rw [← s0, hp] at h0
            cases h0
            exact absurd hk0 hkk
          · omega
      by_cases hl : t.led = true
      · refine wp_if_neg (by simp [hl]) ?_
        try refine wpAny_bind (wpAny_pure ?_)
        exact rest
      · refine wp_if_pos (by simp [hl]) (wpAny_bind (unseen hx (fun y hy => ?_) ?_))
        · obtain ⟨e, he, ee⟩ := List.mem_map.mp hy
          have he1 : e ∈ es ∧ e.1 = kh w k := by simpa using he
          have he2 : e ∈ es.toList := by simpa using he1.1
          rw [R.rows] at he2
          obtain ⟨p2, hp2, e2⟩ := List.mem_map.mp he2
          exact ⟨p2.2, p2.1, by rw [← ee, ← e2], R.key p2 hp2⟩
        · refine wp_if_neg (by decide) ?_
          try refine wpAny_bind (wpAny_pure ?_)
          exact rest
    · have hpr' : t.probe (fun i => (es[i]?.map (·.1)).getD 0) (kh w k) (stand.getD (t.probeStart (kh w k))) = some (.empty (way t.mask (kh w k) K) none) := by
        have e2 := e1 (K - c)
        rw [show c + (K - c) = K by omega] at e2
        rw [hst, ← e2]
        exact hpr
      rw [hpr']
      dsimp only
      refine wpAny_pure (hout fun hm => ?_)
      obtain ⟨p0, h0, hk0⟩ := List.mem_map.mp hm
      obtain ⟨i0, hi0, e0⟩ := List.getElem_of_mem h0
      have h00 : L[i0]? = some p0 := by rw [List.getElem?_eq_getElem hi0, e0]
      obtain ⟨c', a1, a2, a3⟩ := hre i0 p0 h00 hk0
      exact hno (c' - c) i0 (by omega) (by rw [e1, show c + (c' - c) = c' by omega]; exact a3) ((hashAt i0 p0 h00).trans (congrArg (kh w) hk0))

theorem find_at (R : SetN w s.heap a L es ep t) {x : Addr} {k : NestedKey} (hx : KIs s.heap k x) (hu : A.units + 8 < cLine) {Q : SetFound → Shared → Prop}
    (hin : k ∈ L.map (·.2) → Q (.there none) s)
    (hout : ∀ K, k ∉ L.map (·.2) → way t.mask (kh w k) K ∉ t.place.toList → (∀ c, c < K → way t.mask (kh w k) c ∈ t.place.toList) → Q (.free (way t.mask (kh w k) K) false) s) :
    wpAny (model P w) A (setSearch a (.ref x) (kh w k) true) Q E s := by
  have hroom := R.room
  obtain ⟨K, hKf, hK, hKb⟩ := R.tab.fst (by simp; omega) (kh w k)
  have hbig : K < 100000 := by
    have := R.tab.mok.small
    unfold SetTable.turns at hKf
    omega
  unfold setSearch
  refine find_from R hx hu hKf hK hKb hin (fun hn => hout K hn hK hKb) 100000 0 none rfl (Nat.zero_le _) (by omega) fun i p hp hk => ?_
  have hi : (L.map fun p => kh w p.2)[i]? = some (kh w k) := by simp [hp, hk]
  have hil : i < t.place.toList.length := by
    have h1 := (List.getElem?_eq_some_iff.mp hp).1
    have h2 := R.tab.sz
    simp at h2 ⊢
    omega
  have hj := List.getElem?_eq_getElem hil
  obtain ⟨c, hc, e⟩ := R.tab.ahead hK hi hj
  exact ⟨c, Nat.zero_le _, hc, by rw [hj, e]⟩
end
end LT
/-! # St4 -/
namespace LT
open PySem PySem.Spec PyProof.Rows L2
section
variable {P : Program} {w : World} {A : Around} {E : Value → Shared → Prop} {s : Shared}
theorem rowsN_ins (L : List (Addr × NestedKey)) (p : Nat) (x : Addr) (k : NestedKey) : rowsN w (L.take p ++ (x, k) :: L.drop p) = (rowsN w L).take p ++ (kh w k, Value.ref x) :: (rowsN w L).drop p := by
  simp [rowsN, List.map_take, List.map_drop]
/-- the entries in another order -/
theorem reorder {L : List (Addr × NestedKey)} {es : Array (Int × Value)} (hr : es.toList = rowsN w L) (order : Array Nat) (hp : order.toList.Perm (List.range L.length)) :
    ∃ L2, (order.filterMap (es[·]?)).toList = rowsN w L2 ∧ L2.Perm L ∧ (L2.map fun p => kh w p.2) = order.toList.map fun i => (es.map (·.1)).getD i 0 := by
  have ent : ∀ i (h : i < L.length), es[i]? = some (kh w (L[i]).2, Value.ref (L[i]).1) := fun i h => by
    rw [← Array.getElem?_toList, hr]
    simp [rowsN, h]
  have sel : ∀ l : List Nat, (∀ i ∈ l, i < L.length) → l.filterMap (fun i => es[i]?) = rowsN w (l.filterMap fun i => L[i]?) ∧ ((l.filterMap fun i => L[i]?).map fun p => kh w p.2) = l.map fun i => (es.map (·.1)).getD i 0 := by
    intro l
    induction l with
    | nil => exact fun _ => ⟨rfl, rfl⟩
    | cons i l ih =>
      intro hl
      have hi := hl i List.mem_cons_self
      obtain ⟨e1, e2⟩ := ih fun j hj => hl j (List.mem_cons_of_mem _ hj)
      have e4 : (es.map (·.1)).getD i 0 = kh w (L[i]).2 := by
        have e5 : (es.map (·.1))[i]? = some (kh w (L[i]).2) := by rw [Array.getElem?_map, ent i hi]; rfl
        simp [Array.getD_eq_getD_getElem?, e5]
      rw [List.filterMap_cons_some (ent i hi), List.filterMap_cons_some (List.getElem?_eq_getElem hi), e1]
      exact ⟨rfl, by rw [List.map_cons, List.map_cons, e2, e4]⟩
  obtain ⟨e1, e2⟩ := sel order.toList fun i hi => List.mem_range.mp (hp.mem_iff.mp hi)
  refine ⟨_, by first | (rw [Array.toList_filterMap]; exact e1) | simpa using e1, ?_, e2⟩
  have h2 : ∀ n, n ≤ L.length → (List.range n).filterMap (fun i => L[i]?) = L.take n := fun n => by
    induction n with
    | zero => exact fun _ => rfl
    | succ n ih =>
      intro hn
      rw [List.range_succ, List.filterMap_append, ih (Nat.le_of_lt hn), List.take_succ, List.getElem?_eq_getElem hn]
      have hlt : n < L.length := hn
      rw [List.filterMap_cons_some (List.getElem?_eq_getElem hlt)]
      rfl
  have h3 := h2 L.length (Nat.le_refl _)
  rw [List.take_length] at h3
  exact (hp.filterMap fun i => L[i]?).trans (by rw [h3])
variable {a : Addr} {L : List (Addr × NestedKey)} {es : Array (Int × Value)} {ep : Nat} {t : SetTable}
/-- the table laid anew, larger -/
theorem relay_n {o : Obj} (ho : s.heap.get? a = some o) (hex : o.ExactSet) (hd : o.data = .set es ep t) (hrows : es.toList = rowsN w L) (T : TabP t (L.map fun p => kh w p.2)) (hfl : L.length ≤ t.mask)
    (nd : (L.map (·.2)).Nodup) (key : ∀ p ∈ L, KIs s.heap p.2 p.1) (ld : w.params.followText "set-order" = true ∨ t.led = true) (few : L.length < 4096) {wanted M : Nat}
    (hw : SetTable.sizeAbove wanted - 1 = M) (hM : MaskE M) (hw2 : SetTable.sizeAbove wanted ≤ 16384) (hn : L.length * 5 < M * 3) {Q : Unit → Shared → Prop}
    (hQ : ∀ h' L' es' ep' t', Heap.SameBut a s.heap h' → SetN w h' a L' es' ep' t' → L'.Perm L → Q () { s with heap := h' }) : wpAny (model P w) A (setRelay a wanted) Q E s := by
  have hsl := rows_size hrows
  obtain ⟨t', order, e, hp, T', em, el, -⟩ := relay_ok t (hs := es.map (·.1)) (wanted := wanted) hw hM.p (by rw [Array.size_map, hsl]; omega)
  rw [Array.size_map, hsl] at hp
  obtain ⟨L2, r1, r2, r3⟩ := reorder hrows order hp
  rw [← r3] at T'
  have hs2 : (order.filterMap (es[·]?)).size = es.size := by rw [rows_size r1, r2.length_eq, hsl]
  rw [setRelay_eq]
  refine wpAny_bind (wpAny_setState_of ho hd (fits_of T (by simp [hsl]) (by simpa using hfl)) ?_)
  dsimp only
  refine wp_if_neg (by rw [sizeLine_eq]; omega) ?_
  try refine wpAny_bind (wpAny_pure ?_)
  rw [e]
  dsimp only
  refine wpAny_bind (wp_if_neg (by rw [hs2]; simp) ?_)
  try refine wpAny_bind (wpAny_pure ?_)
  refine wpAny_pure ?_
  dsimp only
  refine wpAny_storeSet_of ho hd ?_ (by rw [hs2, hsl, sizeLine_eq]; omega)
  have sb : Heap.SameBut a s.heap (s.heap.update a (Obj.putSet (order.filterMap (es[·]?)) t')) := Heap.SameBut.update ..
  exact hQ _ L2 (order.filterMap (es[·]?)) (ep + 1) t' sb ⟨⟨_, store_at ho hd, ⟨hex.1, hex.2.1, hex.2.2⟩, rfl⟩, r1, T', by rw [em]; exact hM, (r2.map (·.2)).nodup_iff.mpr nd, fun p hpm => (key p (r2.mem_iff.mp hpm)).but ho hd sb, by rw [el]; exact ld, by rw [r2.length_eq, em]; exact hn, by rw [r2.length_eq]; exact few⟩ r2
/-- adding a key -/
theorem add_n (R : SetN w s.heap a L es ep t) {x : Addr} {k : NestedKey} (hx : KIs s.heap k x) (hu : A.units + 8 < cLine) (hfew : k ∉ L.map (·.2) → L.length + 1 < 4096) {Q : Bool → Shared → Prop}
    (hQ : ∀ b h' L' es' ep' t', Heap.SameBut a s.heap h' → SetN w h' a L' es' ep' t' → (k ∈ L.map (·.2) → L' = L) → (k ∉ L.map (·.2) → L'.Perm ((x, k) :: L)) → Q b { s with heap := h' }) :
    wpAny (model P w) A (setAddHashed a (.ref x) (kh w k)) Q E s := by
  obtain ⟨o, ho, hex, hd⟩ := R.ob
  have hsl := rows_size R.rows
  have hroom := R.room
  unfold setAddHashed
  refine wpAny_holding ?_
  rw [show (100000 : Nat) = 99999 + 1 from rfl, setAddHashedIn_succ]
  refine wpAny_bind (wpAny_setState_of ho hd R.fits ?_)
  dsimp only
  refine wp_if_neg (by simp [byScan, Value.scannable]) ?_
  try refine wpAny_bind (wpAny_pure ?_)
  refine wpAny_bind (find_at R hx hu (fun hm => wpAny_pure (hQ false s.heap L es ep t (Heap.SameBut.refl a s.heap) R (fun _ => rfl) fun z => absurd hm z)) fun K hm hK hb => ?_)
  have hfew := hfew hm
  dsimp only
  refine wpAny_bind (wpAny_setState_of ho hd R.fits ?_)
  dsimp only
  obtain ⟨q2, q3⟩ := R.tab.ins rfl hK hb
  have q9 := R.tab.fillNew (j := way t.mask (kh w k) K) rfl
  have q5 : (t.put (way t.mask (kh w k) K)).1.led = t.led := rfl
  have q4 : (t.put (way t.mask (kh w k) K)).1.mask = t.mask := rfl
  have q1 : (t.put (way t.mask (kh w k) K)).2 = SetTable.below t.place (way t.mask (kh w k) K) := rfl
  generalize t.put (way t.mask (kh w k) K) = pt at q1 q3 q4 q5 q9 ⊢
  obtain ⟨t0, p⟩ := pt
  dsimp only at q1 q3 q4 q5 q9 ⊢
  subst q1
  rw [List.length_map] at q9
  -- whatever is said of the hash, the table is t0 but for `plain`
  suffices key : ∀ t1 : SetTable, t1.mask = t0.mask → t1.led = t0.led → t1.fill = t0.fill → TabP t1 ((L.map fun p => kh w p.2).take (SetTable.below t.place (way t.mask (kh w k) K)) ++ kh w k :: (L.map fun p => kh w p.2).drop (SetTable.below t.place (way t.mask (kh w k) K))) →
      wpAny (model P w) A (do
        storeSet a (SetTable.insertAt es (SetTable.below t.place (way t.mask (kh w k) K)) (kh w k, Value.ref x)) t1
        if !false && t1.tooFull then setRelay a (SetTable.grown (es.size + 1))
        return true) Q E s by
    by_cases hpl : t0.plain = true
    · first
        | (refine wpAny_bind ?_; refine wp_if_pos hpl ?_; refine hb_val k _ 8 s hx.1 _ _ _ fun b => ?_)
        | refine wp_if_pos hpl (wpAny_bind (hb_val k _ 8 s hx.1 _ _ _ fun b => ?_))
      cases b
      · exact key { t0 with plain := false } rfl rfl rfl ⟨q3.ris, q3.dm, q3.sz, q3.mok, q3.bd, q3.back⟩
      · exact key t0 rfl rfl rfl q3
    · first
        | (refine wpAny_bind ?_; refine wp_if_neg hpl ?_; refine wpAny_pure ?_)
        | refine wp_if_neg hpl ?_
      exact key t0 rfl rfl rfl q3
  intro t1 m1 l1 f1 q3
  rw [m1.symm] at q4
  rw [l1.symm] at q5
  rw [f1.symm] at q9
  have hin : (SetTable.insertAt es (SetTable.below t.place (way t.mask (kh w k) K)) (kh w k, Value.ref x)).toList = rowsN w (L.take (SetTable.below t.place (way t.mask (kh w k) K)) ++ (x, k) :: L.drop (SetTable.below t.place (way t.mask (kh w k) K))) := by
    rw [SetTable.toList_insertAt, rowsN_ins, R.rows]
  generalize SetTable.below t.place (way t.mask (kh w k) K) = p at q3 hin ⊢
  have pm := put_perm L p (x, k)
  have hlen : (L.take p ++ (x, k) :: L.drop p).length = L.length + 1 := pm.length_eq
  have hhs : (L.take p ++ (x, k) :: L.drop p).map (fun p => kh w p.2) = (L.map fun p => kh w p.2).take p ++ kh w k :: (L.map fun p => kh w p.2).drop p := by
    simp [List.map_take, List.map_drop]
  rw [← hhs] at q3
  have nd1 : ((L.take p ++ (x, k) :: L.drop p).map (·.2)).Nodup := (pm.map (·.2)).nodup_iff.mpr (List.nodup_cons.mpr ⟨hm, R.nd⟩)
  have hes := rows_size hin
  rw [hlen] at hes
  generalize SetTable.insertAt es p (kh w k, Value.ref x) = es1 at hin hes ⊢
  generalize L.take p ++ (x, k) :: L.drop p = L1 at pm hlen q3 nd1 hin
  refine wpAny_bind (wpAny_storeSet_of ho hd ?_ (by rw [hes, sizeLine_eq]; omega))
  have sb : Heap.SameBut a s.heap (s.heap.update a (Obj.putSet es1 t1)) := Heap.SameBut.update ..
  have ho1 := store_at (es' := es1) (t' := t1) ho hd
  generalize s.heap.update a (Obj.putSet es1 t1) = h1 at sb ho1 ⊢
  have key1 : ∀ p ∈ L1, KIs h1 p.2 p.1 := fun p hp => by
    rcases List.mem_cons.mp (pm.mem_iff.mp hp) with e | hp
    · rw [e]; exact hx.but ho hd sb
    · exact (R.key p hp).but ho hd sb
  have ld1 : w.params.followText "set-order" = true ∨ t1.led = true := by rw [q5]; exact R.led
  by_cases hf : t1.tooFull = true
  · first
      | (refine wpAny_bind ?_; refine wp_if_pos (by simp [hf]) ?_)
      | (refine wp_if_pos (by simp [hf]) ?_; refine wpAny_bind ?_)
    have hfull : (L.length + 1) * 5 ≥ t1.mask * 3 := by
      have h := hf
      unfold SetTable.tooFull at h
      rw [decide_eq_true_eq, q9] at h
      exact h
    rw [hsl]
    have szw : ∃ M, SetTable.sizeAbove (SetTable.grown (L.length + 1)) = M + 1 ∧ MaskE M ∧ M ≤ 8191 ∧ (L.length + 1) * 5 < M * 3 := by
      rw [q4] at hfull
      rcases R.me with e | e | e | e | e | e <;> rw [e] at hfull hroom
      · rw [show L.length = 4 by omega]; exact ⟨31, by decide +kernel, .inr (.inl rfl), by decide, by decide⟩
      · rw [show L.length = 18 by omega]; exact ⟨127, by decide +kernel, .inr (.inr (.inl rfl)), by decide, by decide⟩
      · rw [show L.length = 76 by omega]; exact ⟨511, by decide +kernel, .inr (.inr (.inr (.inl rfl))), by decide, by decide⟩
      · rw [show L.length = 306 by omega]; exact ⟨2047, by decide +kernel, .inr (.inr (.inr (.inr (.inl rfl)))), by decide, by decide⟩
      · rw [show L.length = 1228 by omega]; exact ⟨8191, by decide +kernel, .inr (.inr (.inr (.inr (.inr rfl)))), by decide, by decide⟩
      · omega
    obtain ⟨M, z1, z2, z3, z4⟩ := szw
    refine relay_n (s := { s with heap := h1 }) ho1 ⟨hex.1, hex.2.1, hex.2.2⟩ rfl hin q3 (by rw [hlen, q4]; omega) nd1 key1 ld1 (by rw [hlen]; exact hfew) (M := M) (by rw [z1]; rfl) z2 (by omega) (by rw [hlen]; exact z4) ?_
    intro h2 L2 es2 ep2 t2 sb2 R2 pm2
    exact wpAny_pure (hQ true h2 L2 es2 ep2 t2 (sb.trans sb2) R2 (fun z => absurd z hm) fun _ => pm2.trans pm)
  · first
      | refine wp_if_neg (by simp [hf]) ?_
      | (refine wpAny_bind ?_; refine wp_if_neg (by simp [hf]) ?_; refine wpAny_pure ?_)
    refine wpAny_pure (hQ true h1 L1 es1 (ep + 1) t1 sb ⟨⟨_, ho1, ⟨hex.1, hex.2.1, hex.2.2⟩, rfl⟩, hin, q3, by rw [q4]; exact R.me, nd1, key1, ld1, ?_, by rw [hlen]; exact hfew⟩ (fun z => absurd z hm) fun _ => pm)
    have h := hf
    unfold SetTable.tooFull at h
    rw [decide_eq_true_eq, q9] at h
    rw [hlen]
    omega
end
end LT
/-! # St5 -/
namespace LT
open PySem PySem.Spec PyProof.Rows L2
/-- what the set has of the first i items -/
structure GotN (ks : List (Addr × NestedKey)) (i : Nat) (L : List (Addr × NestedKey)) : Prop where
  sub : ∀ p ∈ L, p ∈ ks.take i
  all : ∀ p ∈ ks.take i, p.2 ∈ L.map (·.2)
theorem GotN.zero (ks : List (Addr × NestedKey)) : GotN ks 0 [] := ⟨fun p h => (by cases h), fun p h => (by simp at h)⟩
theorem GotN.same {ks L : List (Addr × NestedKey)} {i : Nat} {x : Addr × NestedKey} (g : GotN ks i L) (h : ks[i]? = some x) (hm : x.2 ∈ L.map (·.2)) : GotN ks (i + 1) L := by
  have e : ks.take (i + 1) = ks.take i ++ [x] := by rw [List.take_succ, h]; rfl
  refine ⟨fun p hp => by rw [e]; exact List.mem_append_left _ (g.sub p hp), fun p hp => ?_⟩
  rw [e] at hp
  rcases List.mem_append.mp hp with z | z
  · exact g.all p z
  · rw [List.mem_singleton.mp z]; exact hm
theorem GotN.more {ks L L' : List (Addr × NestedKey)} {i : Nat} {x : Addr × NestedKey} (g : GotN ks i L) (h : ks[i]? = some x) (pm : L'.Perm (x :: L)) : GotN ks (i + 1) L' := by
  have e : ks.take (i + 1) = ks.take i ++ [x] := by rw [List.take_succ, h]; rfl
  refine ⟨fun p hp => ?_, fun p hp => ?_⟩
  · rw [e]
    rcases List.mem_cons.mp (pm.mem_iff.mp hp) with c | z
    · rw [c]; exact List.mem_append_right _ (List.mem_singleton.mpr rfl)
    · exact List.mem_append_left _ (g.sub p z)
  · rw [(pm.map (·.2)).mem_iff, List.map_cons]
    rw [e] at hp
    rcases List.mem_append.mp hp with z | z
    · exact List.mem_cons_of_mem _ (g.all p z)
    · rw [List.mem_singleton.mp z]; exact List.mem_cons_self
/-- no more than 4095 different keys -/
def FewK (ks : List (Addr × NestedKey)) : Prop := ∀ l : List NestedKey, l.Nodup → (∀ k ∈ l, k ∈ ks.map (·.2)) → l.length < 4096
section
variable {P : Program} {w : World} {A : Around} {E : Value → Shared → Prop} {s : Shared}
theorem SetN.keep {h h' : Heap} {a : Addr} {L : List (Addr × NestedKey)} {es : Array (Int × Value)} {ep : Nat} {t : SetTable} (R : SetN w h a L es ep t) (ha : ∀ o, h.get? a = some o → h'.get? a = some o) (ht : ∀ p ∈ L, KIs h' p.2 p.1) : SetN w h' a L es ep t := by
  obtain ⟨o, ho, r⟩ := R.ob
  exact ⟨⟨o, ha o ho, r⟩, R.rows, R.tab, R.me, R.nd, ht, R.led, R.room, R.few⟩
/-- a new set -/
theorem setN_new {h : Heap} {a : Addr} (ho : h.get? a = some { cls := .type "set", dict := none, data := .set #[] 0 (.fresh 0 0 (!w.params.followText "set-order")) }) : SetN w h a [] #[] 0 (.fresh 0 0 (!w.params.followText "set-order")) where
  ob := ⟨_, ho, ⟨rfl, rfl, rfl⟩, rfl⟩
  rows := rfl
  tab := ⟨List.Pairwise.nil, rfl, rfl, MaskE.p (.inl rfl), fun x hx => (by cases hx), fun i h j hi => (by simp at hi)⟩
  me := .inl rfl
  nd := List.nodup_nil
  key := fun p hp => (by cases hp)
  led := by
    show _ ∨ (!w.params.followText "set-order") = true
    cases w.params.followText "set-order"
    · exact .inr rfl
    · exact .inl rfl
  room := by
    show 0 * 5 < 7 * 3
    decide
  few := by
    show 0 < 4096
    decide
/-- the loop of set.update -/
theorem upd_keys {I : Addr} {fp wr : List Addr} {G : Array GenState → Array GenState → Prop} {n : Nat} {Pv : Nat → Value → Prop} {St : Nat → Shared → Prop} {R : Result → Shared → Prop}
    (W : WalksS P w A.in1 I fp wr G n Pv St) (S : Addr) (hSf : S ∉ fp) (ks : List (Addr × NestedKey)) (hn : n = ks.length) (hfew : FewK ks) (hval : ∀ i v, Pv i v → ∃ p, ks[i]? = some p ∧ v = .ref p.1)
    (h0 : Heap) (hk : ∀ p ∈ ks, KIs h0 p.2 p.1) (hS0 : h0.get? S = none) (hw0 : ∀ b ∈ wr, h0.get? b = none) (hu : A.in1.units + 8 < cLine) :
    ∀ (k i : Nat) (s : Shared), n - i = k → i ≤ n → St i s → (∀ b o, h0.get? b = some o → s.heap.get? b = some o) → (∃ L es ep t, SetN w s.heap S L es ep t ∧ GotN ks i L) →
      (∀ s' L es ep t, Moved (S :: wr) G s s' → SetN w s'.heap S L es ep t → GotN ks n L → (∀ b o, h0.get? b = some o → s'.heap.get? b = some o) → R (.ok (.ret .none)) s') →
      codeAny (model P w) A (.builtin "set.update.loop" ⟨[.ref S, .ref I], []⟩) R s := by
  have hSw : S ∉ wr := fun h => hSf (W.sub _ h)
  have hsub : ∀ b ∈ wr, b ∈ S :: wr := fun b hb => List.mem_cons_of_mem _ hb
  have keepM : ∀ {s s' : Shared}, Moved wr G s s' → (∀ b o, h0.get? b = some o → s.heap.get? b = some o) → ∀ b o, h0.get? b = some o → s'.heap.get? b = some o := fun hm hkp b o e =>
    hm.heap b o (fun hb => by rw [hw0 b hb] at e; cases e) (hkp b o e)
  intro k
  induction k with
  | zero =>
    intro i s hk' hi hst hkp ⟨L, es, ep, t, hS, g⟩ hR
    obtain rfl : i = n := by omega
    refine codeAny_builtin F.entry_set_update_loop ?_
    rw [Around.under_plainId F.plain_set_update_loop _]
    show wpAny _ A.in1 (pyNext (.ref I) >>= _) _ _ s
    refine wpAny_bind (W.done s _ _ hst fun s' hm => ?_)
    show wpAny _ A.in1 (ret Value.none) _ _ s'
    have hkp' := keepM hm hkp
    exact wpAny_pure (hR s' L es ep t (hm.mono hsub) (hS.keep (fun o e => hm.heap S o hSw e) fun p hp => (hk p (List.mem_of_mem_take (g.sub p hp))).keep hkp') g hkp')
  | succ k ih =>
    intro i s hk' hi hst hkp ⟨L, es, ep, t, hS, g⟩ hR
    have hlt : i < n := by omega
    refine codeAny_builtin F.entry_set_update_loop ?_
    rw [Around.under_plainId F.plain_set_update_loop _]
    show wpAny _ A.in1 (pyNext (.ref I) >>= _) _ _ s
    refine wpAny_bind (W.item i s _ _ hlt hst fun v s' hP hst' hm => ?_)
    obtain ⟨p, hp, rfl⟩ := hval i v hP
    have hkp' := keepM hm hkp
    have sub : ∀ p ∈ L, p ∈ ks := fun p hp => List.mem_of_mem_take (g.sub p hp)
    have hS' : SetN w s'.heap S L es ep t := hS.keep (fun o e => hm.heap S o hSw e) fun q hq => (hk q (sub q hq)).keep hkp'
    have hx : KIs s'.heap p.2 p.1 := (hk p (List.mem_of_getElem? hp)).keep hkp'
    show wpAny _ A.in1 (holding [Value.ref p.1] (setAdd S (.ref p.1)) >>= _) _ _ s'
    refine wpAny_bind (wpAny_holding ?_)
    unfold setAdd
    refine wpAny_holding (wpAny_bind ((nestedKind P w).pyHash hu hx ?_))
    refine add_n (s := { s' with toks := s'.toks + (nestedKind P w).draws p.2 }) hS' hx hu (fun hm => ?_) fun b h' L' es' ep' t' hsb hS2 c1 c2 => ?_
    · have q := hfew (p.2 :: L.map (·.2)) (List.nodup_cons.mpr ⟨hm, hS'.nd⟩) fun k hk2 => by
        rcases List.mem_cons.mp hk2 with c | c
        · rw [c]; exact List.mem_map.mpr ⟨p, List.mem_of_getElem? hp, rfl⟩
        · obtain ⟨q, hq, rfl⟩ := List.mem_map.mp c
          exact List.mem_map.mpr ⟨q, sub q hq, rfl⟩
      simpa using q
    have g' : GotN ks (i + 1) L' := by
      rcases Classical.em (p.2 ∈ L.map (·.2)) with c | c
      · rw [c1 c]; exact g.same hp c
      · exact g.more hp (c2 c)
    have hkp2 : ∀ b o, h0.get? b = some o → h'.get? b = some o := fun b o e => (hsb.2 b (fun z => by rw [z, hS0] at e; cases e)).trans (hkp' b o e)
    refine wpAny_pure ⟨plainId_quiet F.plain_set_update_loop _, ih (i + 1) _ (by omega) hlt (W.frame _ s' _ _ hst' (Nat.le_add_right _ _) fun b hb o e => ?_) hkp2 ⟨L', es', ep', t', hS2, g'⟩ fun s'' L2 es2 ep2 t2 hm'' hS'' g'' hkp'' => ?_⟩
    · rw [hsb.2 b (fun h : b = S => hSf (by rw [← h]; exact hb))]; exact e
    · refine hR s'' L2 es2 ep2 t2 (Moved.trans W.gtrans ((hm.mono hsub).then_heap (Nat.le_add_right _ _) fun b o hb e => ?_) hm'') hS'' g'' hkp''
      rw [hsb.2 b (fun h : b = S => hb (by rw [h]; exact List.mem_cons_self))]; exact e
set_option maxHeartbeats 3200000 in
/-- set(xs) of a list of keys -/
theorem call_set_keys {l : Addr} {items : Array Value} (ks : List (Addr × NestedKey)) {Q : Value → Shared → Prop} (hh : A.handled = none) (hl : s.heap.IsList l items) (hit : items.toList = ks.map fun p => Value.ref p.1)
    (hk : ∀ p ∈ ks, KIs s.heap p.2 p.1) (hfew : FewK ks) (hu : A.units + 11 < cLine)
    (h : ∀ (h' : Heap) (tk : Nat) L es ep t, SetN w h' s.heap.objs.size L es ep t → GotN ks ks.length L → (∀ b o, s.heap.get? b = some o → h'.get? b = some o) → Q (.ref s.heap.objs.size) { s with heap := h', toks := tk }) :
    wpAny (model P w) A (call (.type "set") [.ref l]) Q E s := by
  have hisz : items.size = ks.length := by
    rw [← Array.length_toList, hit, List.length_map]
  obtain ⟨c, tl, hmro⟩ := F.called_set.mro
  have hmade := F.called_set.made
  have hsub := F.called_set.sub
  refine wpAny_call (codeAny_of_tree ?_)
  show wpAny _ _ (callAny (.type "set") _) _ _ _
  refine wpAny_pure ⟨Code.quiet_builtin _ (by decide +kernel), codeAny_builtin F.entry_type_call ?_⟩
  rw [Around.under_plain (weight_type_call_type "set" [.ref l] []) rfl]
  have h1 := F.called_set.notType
  have h2 := F.called_set.canCreate
  have hct := F.typeCall_set_1 (.ref l)
  repeat (any_goals (first | assumption | wp_step))
  refine codeAny_mono (code_set_led1 (.ref l) (E := E) (Q₁ := fun obj s₁ => obj = .ref s.heap.objs.size ∧ s₁ = { s with heap := s.heap.push { cls := .type "set", dict := none, data := .set #[] 0 (.fresh 0 0 (!w.params.followText "set-order")) } }) ⟨rfl, rfl⟩) fun r s₁ hr => ?_
  cases r with
  | error e => exact hr
  | ok fl =>
    cases fl with
    | ret obj =>
      obtain ⟨rfl, rfl⟩ := hr
      have hS : (s.heap.push { cls := .type "set", dict := none, data := .set #[] 0 (.fresh 0 0 (!w.params.followText "set-order")) }).get? s.heap.objs.size = some { cls := .type "set", dict := none, data := .set #[] 0 (.fresh 0 0 (!w.params.followText "set-order")) } := Heap.get?_push_size _ rfl
      have hT : Shared.TypeIs { s with heap := s.heap.push { cls := .type "set", dict := none, data := .set #[] 0 (.fresh 0 0 (!w.params.followText "set-order")) } } (.ref s.heap.objs.size) "set" := ⟨_, hS, rfl⟩
      have hli := F.called_set.init.lookup
      have hbi := F.called_set.init.bind (.ref s.heap.objs.size)
      repeat (any_goals (first | assumption | wp_step))
      refine codeAny_mono (codeAny_call_builtin (R := wants (fun r s₂ => r = .none ∧ ∃ h' tk L es ep t, s₂ = { s with heap := h', toks := tk } ∧ SetN w h' s.heap.objs.size L es ep t ∧ GotN ks ks.length L ∧
          (∀ b o, s.heap.get? b = some o → h'.get? b = some o)) E) F.called_set.init.plain F.entry_set_init (check_set_init_1 hT ?_)) fun r₂ s₂ hr₂ => ?_
      · obtain ⟨ol, hol, hcl, nl, hdl⟩ := hl
        obtain ⟨ocls, odict, odata, oslots⟩ := ol
        simp only at hcl hdl
        subst hcl; subst hdl
        have hol' : (s.heap.push { cls := .type "set", dict := none, data := .set #[] 0 (.fresh 0 0 (!w.params.followText "set-order")) }).get? l = some { cls := .type "list", dict := odict, data := .seq items nl, slots := oslots } := Heap.get?_push_of_some _ hol
        have hsls := F.sub_list_set
        have hslf := F.sub_list_frozenset
        have hne : (Value.type "list" == Value.type "dict") = false := by decide
        have hl1 : (s.heap.push { cls := .type "set", dict := none, data := .set #[] 0 (.fresh 0 0 (!w.params.followText "set-order")) }).IsList l items := ⟨_, hol', rfl, nl, rfl⟩
        unfold Builtin.«set.__init__» noKeywords Builtin.Frozenset.updateFrom
        generalize hPI : pyIter = PI
        wp_walk
        subst hPI
        refine wpAny_pyIter_list hl1 ?_
        refine wpAny_bind (wpAny_runValue ?_)
        have hlS : l < s.heap.objs.size := Heap.lt_size hol
        have hh3 : A.in1.in1.in1.handled = none := by simp [hh]
        have hneI : l ≠ (s.heap.push { cls := .type "set", dict := none, data := .set #[] 0 (.fresh 0 0 (!w.params.followText "set-order")) }).objs.size := by
          rw [Heap.size_push]; exact Nat.ne_of_lt (Nat.lt_succ_of_lt hlS)
        have hSf : s.heap.objs.size ∉ [(s.heap.push { cls := .type "set", dict := none, data := .set #[] 0 (.fresh 0 0 (!w.params.followText "set-order")) }).objs.size, l] := by
          rw [Heap.size_push]; simp only [List.mem_cons, List.mem_singleton, List.not_mem_nil, or_false, not_or]
          exact ⟨Nat.ne_of_lt (Nat.lt_succ_self _), Nat.ne_of_gt hlS⟩
        have hval : ∀ (i : Nat) (v : Value), items[i]? = some v → ∃ p, ks[i]? = some p ∧ v = .ref p.1 := fun i v hv => by
          have q : items.toList[i]? = some v := by rw [Array.getElem?_toList]; exact hv
          rw [hit, List.getElem?_map] at q
          obtain ⟨p, e1, e2⟩ := Option.map_eq_some_iff.mp q
          exact ⟨p, e1, e2.symm⟩
        have none_of : ∀ b, s.heap.objs.size ≤ b → s.heap.get? b = none := fun b hb => by
          cases q : s.heap.get? b with
          | none => rfl
          | some o => exact absurd (Nat.lt_of_lt_of_le (Heap.lt_size q) hb) (Nat.lt_irrefl _)
        refine upd_keys ((Walks.list hh3 _ l hneI items).toS) s.heap.objs.size
          hSf ks hisz hfew hval s.heap hk (none_of _ (Nat.le_refl _)) (fun b hb => none_of b (by
            rw [List.mem_singleton.mp hb, Heap.size_push]
            exact Nat.le_succ _)) (by simp only [Around.in1_units] at hu ⊢; omega) (items.size - 0) 0 _ (by omega) (Nat.zero_le _)
          ⟨⟨_, Heap.get?_push_size _ rfl, rfl, rfl⟩, (hl1.push _)⟩ (fun b o e => Heap.get?_push_of_some _ (Heap.get?_push_of_some _ e)) ?hS0 ?hR
        case hS0 =>
          have hget : ((s.heap.push { cls := .type "set", dict := none, data := .set #[] 0 (.fresh 0 0 (!w.params.followText "set-order")) }).push { cls := .type "list_iterator", data := .fields #[.ref l, .int 0 0] }).get? s.heap.objs.size
              = some { cls := .type "set", dict := none, data := .set #[] 0 (.fresh 0 0 (!w.params.followText "set-order")) } := Heap.get?_push_of_some _ hS
          exact ⟨[], #[], 0, _, setN_new hget, GotN.zero ks⟩
        case hR =>
          intro s' L es ep t hm hS' g' hkp
          obtain ⟨h', g2, d', tk', os'⟩ := s'
          have eg : g2 = s.gens := hm.gens
          have ed : d' = s.drawn := hm.drawn
          have eo : os' = s.os := hm.os
          subst eg; subst ed; subst eo
          show wpAny _ _ _ _ _ _
          refine wpAny_pure ?_
          show wpAny _ _ (ret Value.none) _ _ _
          rw [hisz] at g'
          exact wpAny_pure ⟨rfl, h', tk', L, es, ep, t, rfl, hS', g', hkp⟩
      · cases r₂ with
        | error e => exact hr₂
        | ok fl₂ =>
          cases fl₂ with
          | ret r =>
            obtain ⟨rfl, h', tk, L, es, ep, t, rfl, hS', g', hk'⟩ := hr₂
            repeat (any_goals (first | assumption | wp_step))
            exact h _ _ _ _ _ _ hS' g' hk'
          | _ => exact hr₂.elim
    | _ => exact hr.elim
end
end LT
/-! # St6 -/
namespace LT
open PySem PySem.Spec PyProof.Rows L2
open PySem.SeqAt (RcLt firstLt firstLt_yes firstLt_no EqAt)
/-! ## nested keys in a row -/
mutual
def toksK : NestedKey → List (Int ⊕ List Nat)
  | .none => [.inl 0]
  | .num i => [.inl 1, .inl i]
  | .text x => [.inl 2, .inr x.cps.toList]
  | .tup ks => .inl 3 :: toksKs ks
def toksKs : List NestedKey → List (Int ⊕ List Nat)
  | [] => [.inl 0]
  | k :: ks => .inl 1 :: (toksK k ++ toksKs ks)
end
mutual
theorem toksK_inj : ∀ (x y : NestedKey) (l m : List (Int ⊕ List Nat)), toksK x ++ l = toksK y ++ m → x = y ∧ l = m
  | .none, .none, l, m, h => by simpa [toksK] using h
  | .none, .num _, l, m, h => by simp [toksK] at h
  | .none, .text _, l, m, h => by simp [toksK] at h
  | .none, .tup _, l, m, h => by simp [toksK] at h
  | .num _, .none, l, m, h => by simp [toksK] at h
  | .num i, .num j, l, m, h => by simpa [toksK] using h
  | .num _, .text _, l, m, h => by simp [toksK] at h
  | .num _, .tup _, l, m, h => by simp [toksK] at h
  | .text _, .none, l, m, h => by simp [toksK] at h
  | .text _, .num _, l, m, h => by simp [toksK] at h
  | .text x, .text y, l, m, h => by
    simp [toksK] at h
    exact ⟨by rw [PySem.W.str_of_cps (congrArg Array.toList h.1)], h.2⟩
  | .text _, .tup _, l, m, h => by simp [toksK] at h
  | .tup _, .none, l, m, h => by simp [toksK] at h
  | .tup _, .num _, l, m, h => by simp [toksK] at h
  | .tup _, .text _, l, m, h => by simp [toksK] at h
  | .tup xs, .tup ys, l, m, h => by
    simp only [toksK, List.cons_append, List.cons.injEq, true_and] at h
    obtain ⟨a, b⟩ := toksKs_inj xs ys l m h
    exact ⟨by rw [a], b⟩
theorem toksKs_inj : ∀ (xs ys : List NestedKey) (l m : List (Int ⊕ List Nat)), toksKs xs ++ l = toksKs ys ++ m → xs = ys ∧ l = m
  | [], [], l, m, h => by simpa [toksKs] using h
  | [], _ :: _, l, m, h => by simp [toksKs] at h
  | _ :: _, [], l, m, h => by simp [toksKs] at h
  | x :: xs, y :: ys, l, m, h => by
    simp only [toksKs, List.cons_append, List.cons.injEq, true_and, List.append_assoc] at h
    obtain ⟨a, b⟩ := toksK_inj x y _ _ h
    obtain ⟨c, d⟩ := toksKs_inj xs ys l m b
    exact ⟨by rw [a, c], d⟩
end
/-- the order of keys -/
def ltK (x y : NestedKey) : Bool := lexLt itemOrd (toksK x) (toksK y)
theorem ltK_irrefl (x : NestedKey) : ltK x x = false := lex_irrefl _
theorem ltK_total {x y : NestedKey} (h1 : ltK x y = false) (h2 : ltK y x = false) : x = y := by
  have e := lex_total (O := itemOrd) _ _ h1 h2
  exact (toksK_inj x y [] [] (by rw [e])).1
theorem ltK_trans {x y z : NestedKey} (h1 : ltK x y = true) (h2 : ltK y z = true) : ltK x z = true := lex_trans (O := itemOrd) _ _ _ h1 h2
theorem ltK_neg {x y z : NestedKey} (h : ltK x z = true) : ltK x y = true ∨ ltK y z = true := lex_negTrans (O := itemOrd) _ _ _ h
theorem ltK_asym {x y : NestedKey} (h : ltK x y = true) : ltK y x = false := by
  cases c : ltK y x with
  | false => rfl
  | true =>
    have := ltK_trans h c
    rw [ltK_irrefl] at this
    cases this
/-! rows of tokens: the first difference -/
theorem lex_diff' {p q : Int ⊕ List Nat} (hne : p ≠ q) (l m l' m' : List (Int ⊕ List Nat)) : lexLt itemOrd (p :: l) (q :: m) = lexLt itemOrd (p :: l') (q :: m') := (lex_diff (O := itemOrd) hne).trans (lex_diff (O := itemOrd) hne).symm
mutual
theorem toksK_ne : ∀ (x y : NestedKey), x ≠ y → ∀ l m l' m', lexLt itemOrd (toksK x ++ l) (toksK y ++ m) = lexLt itemOrd (toksK x ++ l') (toksK y ++ m')
  | .none, .none, h, _, _, _, _ => absurd rfl h
  | .none, .num _, _, _, _, _, _ => by simp only [toksK, List.cons_append]; exact lex_diff' (by simp) _ _ _ _
  | .none, .text _, _, _, _, _, _ => by simp only [toksK, List.cons_append]; exact lex_diff' (by simp) _ _ _ _
  | .none, .tup _, _, _, _, _, _ => by simp only [toksK, List.cons_append]; exact lex_diff' (by simp) _ _ _ _
  | .num _, .none, _, _, _, _, _ => by simp only [toksK, List.cons_append]; exact lex_diff' (by simp) _ _ _ _
  | .num i, .num j, h, l, m, l', m' => by
    have e : i ≠ j := fun e => h (by rw [e])
    have hh : (.inl i : Int ⊕ List Nat) ≠ .inl j := by simpa using e
    simp only [toksK, List.cons_append, List.nil_append]
    rw [lex_self (O := itemOrd), lex_self (O := itemOrd)]
    exact lex_diff' hh l m l' m'
  | .num _, .text _, _, _, _, _, _ => by simp only [toksK, List.cons_append]; exact lex_diff' (by simp) _ _ _ _
  | .num _, .tup _, _, _, _, _, _ => by simp only [toksK, List.cons_append]; exact lex_diff' (by simp) _ _ _ _
  | .text _, .none, _, _, _, _, _ => by simp only [toksK, List.cons_append]; exact lex_diff' (by simp) _ _ _ _
  | .text _, .num _, _, _, _, _, _ => by simp only [toksK, List.cons_append]; exact lex_diff' (by simp) _ _ _ _
  | .text x, .text y, h, l, m, l', m' => by
    have hh : (.inr x.cps.toList : Int ⊕ List Nat) ≠ .inr y.cps.toList := fun e => h (by rw [PySem.W.str_of_cps (Sum.inr.inj e)])
    simp only [toksK, List.cons_append, List.nil_append]
    rw [lex_self (O := itemOrd), lex_self (O := itemOrd)]
    exact lex_diff' hh l m l' m'
  | .text _, .tup _, _, _, _, _, _ => by simp only [toksK, List.cons_append]; exact lex_diff' (by simp) _ _ _ _
  | .tup _, .none, _, _, _, _, _ => by simp only [toksK, List.cons_append]; exact lex_diff' (by simp) _ _ _ _
  | .tup _, .num _, _, _, _, _, _ => by simp only [toksK, List.cons_append]; exact lex_diff' (by simp) _ _ _ _
  | .tup _, .text _, _, _, _, _, _ => by simp only [toksK, List.cons_append]; exact lex_diff' (by simp) _ _ _ _
  | .tup xs, .tup ys, h, l, m, l', m' => by
    simp only [toksK, List.cons_append]
    rw [lex_self (O := itemOrd), lex_self (O := itemOrd)]
    exact toksKs_ne xs ys (fun e => h (by rw [e])) l m l' m'
theorem toksKs_ne : ∀ (xs ys : List NestedKey), xs ≠ ys → ∀ l m l' m', lexLt itemOrd (toksKs xs ++ l) (toksKs ys ++ m) = lexLt itemOrd (toksKs xs ++ l') (toksKs ys ++ m')
  | [], [], h, _, _, _, _ => absurd rfl h
  | [], _ :: _, _, _, _, _, _ => by simp only [toksKs, List.cons_append]; exact lex_diff' (by simp) _ _ _ _
  | _ :: _, [], _, _, _, _, _ => by simp only [toksKs, List.cons_append]; exact lex_diff' (by simp) _ _ _ _
  | x :: xs, y :: ys, h, l, m, l', m' => by
    simp only [toksKs, List.cons_append, List.append_assoc]
    rw [lex_self (O := itemOrd), lex_self (O := itemOrd)]
    by_cases e : x = y
    · subst e
      rw [PySem.W.lex_pre, PySem.W.lex_pre]
      exact toksKs_ne xs ys (fun e => h (by rw [e])) l m l' m'
    · exact toksK_ne x y e _ _ _ _
end
/-- of rows of keys -/
def ltKs (xs ys : List NestedKey) : Bool := lexLt itemOrd (toksKs xs) (toksKs ys)
theorem ltK_tup (xs ys : List NestedKey) : ltK (.tup xs) (.tup ys) = ltKs xs ys := by
  unfold ltK ltKs
  simp only [toksK]
  exact lex_self (O := itemOrd) _ _ _
theorem ltKs_yes (x : NestedKey) (xs ys : List NestedKey) : ltKs (x :: xs) (x :: ys) = ltKs xs ys := by
  unfold ltKs
  simp only [toksKs]
  rw [lex_self (O := itemOrd), PySem.W.lex_pre]
theorem ltKs_no {x y : NestedKey} (h : x ≠ y) (xs ys : List NestedKey) : ltKs (x :: xs) (y :: ys) = ltK x y := by
  unfold ltKs ltK
  simp only [toksKs]
  rw [lex_self (O := itemOrd)]
  have := toksK_ne x y h (toksKs xs) (toksKs ys) [] []
  simpa using this
theorem ltKs_nil (y : NestedKey) (ys : List NestedKey) : ltKs [] (y :: ys) = true := by
  unfold ltKs
  simp only [toksKs]
  rw [lex_diff (O := itemOrd) (by simp)]
  decide
theorem ltKs_nil' (x : NestedKey) (xs : List NestedKey) : ltKs (x :: xs) [] = false := by
  unfold ltKs
  simp only [toksKs]
  rw [lex_diff (O := itemOrd) (by simp)]
  decide
theorem ltKs_self (xs : List NestedKey) : ltKs xs xs = false := lex_irrefl _
theorem ltK_num (i j : Int) : ltK (.num i) (.num j) = decide (i < j) := by
  unfold ltK
  simp only [toksK]
  rw [lex_self (O := itemOrd)]
  by_cases e : i = j
  · subst e
    rw [lex_irrefl]
    simp
  · rw [lex_diff (O := itemOrd) (by simpa using e)]
    rfl
theorem ltK_text (x y : Str) : ltK (.text x) (.text y) = decide (x.cps.toList < y.cps.toList) := by
  unfold ltK
  simp only [toksK]
  rw [lex_self (O := itemOrd)]
  by_cases e : x = y
  · subst e
    rw [lex_irrefl]
    exact (decide_eq_false (List.lt_irrefl _)).symm
  · rw [lex_diff (O := itemOrd) (fun z => e (PySem.W.str_of_cps (Sum.inr.inj z)))]
    rfl
/-! ## what can be compared -/
mutual
/-- two keys that Python's < can compare: up to the first difference -/
def cmpK : NestedKey → NestedKey → Bool
  | .none, .none => true
  | .num _, .num _ => true
  | .text _, .text _ => true
  | .tup xs, .tup ys => cmpKs xs ys
  | _, _ => false
def cmpKs : List NestedKey → List NestedKey → Bool
  | x :: xs, y :: ys => if x = y then cmpKs xs ys else cmpK x y
  | _, _ => true
end
mutual
/-- the value v in the heap h is the key k, no truth values in it -/
inductive KI (h : Heap) : NestedKey → Value → Prop
  | none : KI h .none .none
  | int (i t) : KI h (.num i) (.int i t)
  | text (x t) : KI h (.text x) (.str x t)
  | tup {a o vs n ks} : h.get? a = some o → o.cls = .type "tuple" → o.data = .seq vs n → KIA h ks vs.toList → KI h (.tup ks) (.ref a)
inductive KIA (h : Heap) : List NestedKey → List Value → Prop
  | nil : KIA h [] []
  | cons {k v ks vs} : KI h k v → KIA h ks vs → KIA h (k :: ks) (v :: vs)
end
mutual
theorem KI.ns {h : Heap} : ∀ {k : NestedKey} {v : Value}, KI h k v → NestedIs h k v
  | _, _, .none => .none
  | _, _, .int i t => .int i t
  | _, _, .text x t => .text x t
  | _, _, .tup a b c d => .tup a b c (KIA.ns d)
theorem KIA.ns {h : Heap} : ∀ {k : List NestedKey} {v : List Value}, KIA h k v → NestedAll h k v
  | _, _, .nil => .nil
  | _, _, .cons a b => .cons (KI.ns a) (KIA.ns b)
end
mutual
theorem KI.keep {h h' : Heap} (hk : ∀ c o, h.get? c = some o → o.cls = .type "tuple" → h'.get? c = some o) : ∀ {k : NestedKey} {v : Value}, KI h k v → KI h' k v
  | _, _, .none => .none
  | _, _, .int i t => .int i t
  | _, _, .text x t => .text x t
  | _, _, .tup a b c d => .tup (hk _ _ a b) b c (KIA.keep hk d)
theorem KIA.keep {h h' : Heap} (hk : ∀ c o, h.get? c = some o → o.cls = .type "tuple" → h'.get? c = some o) : ∀ {k : List NestedKey} {v : List Value}, KIA h k v → KIA h' k v
  | _, _, .nil => .nil
  | _, _, .cons a b => .cons (KI.keep hk a) (KIA.keep hk b)
end
theorem KIA.length {h : Heap} : ∀ {ks : List NestedKey} {vs : List Value}, KIA h ks vs → vs.length = ks.length
  | _, _, .nil => rfl
  | _, _, .cons _ r => congrArg (· + 1) r.length
theorem KI.inj {h : Heap} {k k' : NestedKey} {v : Value} (x : KI h k v) (y : KI h k' v) : k = k' := NestedIs.inj _ _ _ x.ns y.ns
open PySem.SeqAt PySem.AutoSeq1 PySem.MeetsSeq PySem.MeetsSeq2 PySem.MeetsSeq3 PySem.SeqRoads2 in
/-- tuple.__lt__, asked only at the first place that differs -/
theorem tup_lt1 (l b : Addr) (items items2 : Array Value) (n n2 : Nat) (dd dd2 : Option Addr) (sl sl2 : Array (Option Value)) (e r : Nat → Bool) :
    Meets (Builtin.«tuple.__lt__» ⟨[.ref l, .ref b], []⟩)
      (fun A R s => s.heap.get? l = some { cls := .type "tuple", dict := dd, data := .seq items n, slots := sl } ∧ s.heap.get? b = some { cls := .type "tuple", dict := dd2, data := .seq items2 n2, slots := sl2 } ∧
        (∀ j (h1 : j < items.size) (h2 : j < items2.size), EqAt A.in1 s items[j] items2[j] (e j)) ∧ (∀ j (h1 : j < items.size) (h2 : j < items2.size), e j = false → (∀ i, i < j → e i = true) → RcLt A.in1 s items[j] items2[j] (r j)) ∧
        R (.ok (.ret (.bool (firstLt e r (decide (items.size < items2.size)) (List.range (min items.size items2.size)))))) s) :=
  .of_wp fun prog w A R s h => by
    obtain ⟨hp, g, d, tk, os⟩ := s; obtain ⟨hl, hb, he, hr, h⟩ := h
    have f2 := AutoSeq1.sub_tuple_tuple
    have hZ : (items.toList.zip items2.toList).length = min items.size items2.size := by simp
    wp_walk using wpAny_loadPart' hl, wpAny_loadPart' hb, wpAny_forIn_list _ (fun rest b s' => b.1 = none ∧ s' = ⟨hp, g, d, tk, os⟩ ∧ ∃ i, rest = (items.toList.zip items2.toList).drop i ∧ (∀ j, j < i → e j = true) ∧
      R (.ok (.ret (.bool (firstLt e r (decide (items.size < items2.size)) ((List.range (min items.size items2.size)).drop i))))) ⟨hp, g, d, tk, os⟩) _
    case turn =>
      rintro ⟨y, x⟩ rest b s' ⟨hb', rfl, i, hz, hpre, hR⟩
      have hlt : i < (items.toList.zip items2.toList).length := by
        rcases Nat.lt_or_ge i (items.toList.zip items2.toList).length with h' | h'
        · exact h'
        · rw [List.drop_of_length_le h'] at hz; cases hz
      have hm : i < min items.size items2.size := hZ ▸ hlt
      have h1 : i < items.size := Nat.lt_of_lt_of_le hm (Nat.min_le_left _ _)
      have h2 : i < items2.size := Nat.lt_of_lt_of_le hm (Nat.min_le_right _ _)
      rw [List.drop_eq_getElem_cons hlt] at hz
      injection hz with hyx hrest
      have hy : y = items[i] := by have := congrArg Prod.fst hyx; simpa using this
      have hx : x = items2[i] := by have := congrArg Prod.snd hyx; simpa using this
      subst hy hx
      have hd : (List.range (min items.size items2.size)).drop i = i :: (List.range (min items.size items2.size)).drop (i + 1) := by simp [List.drop_eq_getElem_cons, hm]
      rw [hd] at hR
      refine wpAny_bind (he i h1 h2 prog w _ _ ?_)
      cases hy : e i with
      | true =>
        rw [firstLt_yes hy] at hR
        wp_walk
        refine ⟨rfl, rfl, i + 1, hrest, fun j hj => ?_, hR⟩
        rcases Nat.lt_or_ge j i with c | c
        · exact hpre j c
        · rw [show j = i by omega]; exact hy
      | false =>
        rw [firstLt_no hy] at hR
        generalize hRC : @PySem.richCompare = RC
        wp_walk
        subst hRC
        refine hr i h1 h2 hy hpre prog w _ _ ?_
        wp_walk
        exact ⟨_, rfl, hR⟩
    case fin =>
      rintro ⟨b1, b2⟩ s' ⟨hb', rfl, i, hz, hpre, hR⟩
      simp only at hb'
      subst hb'
      have hge : min items.size items2.size ≤ i := by
        rcases Nat.lt_or_ge i (items.toList.zip items2.toList).length with h' | h'
        · rw [List.drop_eq_getElem_cons h'] at hz; cases hz
        · exact hZ ▸ h'
      rw [List.drop_of_length_le (by simpa using hge)] at hR
      wp_walk
      exact ⟨_, rfl, by simpa [Builtin.Tuple.tupleCompareSizes, firstLt] using hR⟩
    case h =>
      exact ⟨rfl, rfl, 0, rfl, fun j hj => absurd hj (Nat.not_lt_zero _), by simpa using h⟩
end LT
/-! # St7 -/
namespace LT
open PySem PySem.Spec PyProof.Rows L2
open PySem.SeqAt (RcLt firstLt firstLt_yes firstLt_no EqAt room_here room_in room_head room_tail)
open PySem.W
/-! ## < of keys -/
theorem firstLt_ks : ∀ xs ys : List NestedKey, firstLt (keyEqAt xs ys) (fun j => ltK (xs.getD j .none) (ys.getD j .none)) (decide (xs.length < ys.length)) (List.range (min xs.length ys.length)) = ltKs xs ys
  | [], [] => by simp [firstLt, ltKs_self]
  | [], y :: ys => by rw [ltKs_nil]; simp [firstLt]
  | x :: xs, [] => by rw [ltKs_nil']; simp [firstLt]
  | x :: xs, y :: ys => by
    have ih := firstLt_ks xs ys
    have em : min (x :: xs).length (y :: ys).length = min xs.length ys.length + 1 := by simp only [List.length_cons]; omega
    have ed : decide ((x :: xs).length < (y :: ys).length) = decide (xs.length < ys.length) := by simp
    rw [em, ed, List.range_succ_eq_map]
    by_cases e : x = y
    · subst e
      rw [firstLt_yes (show keyEqAt (x :: xs) (x :: ys) 0 = true from NestedKey.beq_self x), PySem.W.firstLt_map, ltKs_yes, ← ih]
      rfl
    · rw [firstLt_no (show keyEqAt (x :: xs) (y :: ys) 0 = false from by rw [show keyEqAt (x :: xs) (y :: ys) 0 = decide (x = y) from (NestedKey.decide_eq x y).symm]; exact decide_eq_false e), ltKs_no e]
      rfl
theorem cmpKs_cons {x y : NestedKey} {xs ys : List NestedKey} (h : cmpKs (x :: xs) (y :: ys) = true) : (x = y → cmpKs xs ys = true) ∧ (x ≠ y → cmpK x y = true) := by
  simp only [cmpKs] at h
  by_cases e : x = y
  · rw [if_pos e] at h
    exact ⟨fun _ => h, fun n => absurd e n⟩
  · rw [if_neg e] at h
    exact ⟨fun n => absurd n e, fun _ => h⟩
mutual
theorem rcLt_key : ∀ (x y : NestedKey) (A : Around) (s : Shared) (a b : Value), KI s.heap x a → KI s.heap y b → cmpK x y = true → x ≠ y → A.units + min x.depth y.depth < cLine → RcLt A s a b (ltK x y)
  | .none, y, _, _, _, _, _, _, h, n, _ => by cases y <;> simp [cmpK] at h n
  | .num i, y, A, s, a, b, ra, rb, h, _, _ => by
    cases y with
    | num j =>
      cases ra
      cases rb
      intro prog w E Q hq
      rw [ltK_num] at hq
      exact PySem.P.lt_int hq
    | _ => simp [cmpK] at h
  | .text x, y, A, s, a, b, ra, rb, h, _, _ => by
    cases y with
    | text y =>
      cases ra
      cases rb
      intro prog w E Q hq
      rw [ltK_text] at hq
      exact PySem.P.lt_str hq
    | _ => simp [cmpK] at h
  | .tup xs, y, A, s, a, b, ra, rb, h, _, hu => by
    cases y with
    | tup ys =>
      simp only [cmpK] at h
      cases ra with
      | @tup l o vs n _ h1 h2 h3 h4 =>
        cases rb with
        | @tup l' o' vs' n' _ k1 k2 k3 k4 =>
          have n1 : vs.size = xs.length := by simpa using h4.length
          have n2 : vs'.size = ys.length := by simpa using k4.length
          intro prog w E Q hq
          obtain ⟨cls, dd, data, sl⟩ := o
          obtain ⟨cls2, dd2, data2, sl2⟩ := o'
          simp only at h2 h3 k2 k3
          subst h2 h3 k2 k3
          rw [ltK_tup, ← firstLt_ks, ← n1, ← n2] at hq
          refine richCompare_meets_room (op := .Lt) ⟨_, h1, rfl⟩ ⟨_, k1, rfl⟩ F.slot_tuple_lt F.entry_tuple_lt (F.args_tuple_lt_2 _ _) (tup_lt1 l l' vs vs' n n' dd dd2 sl sl2 (keyEqAt xs ys) (fun j => ltK (xs.getD j .none) (ys.getD j .none)))
            ⟨h1, k1, fun j j1 j2 => ?_, fun j j1 j2 hj hp => ?_, show Value.bool _ ≠ Value.notImplemented ∧ Q _ s from ⟨(fun x => nomatch x), hq⟩⟩ (room_here hu)
          · have := eqAt_keys xs ys A.in1 s vs.toList vs'.toList h4.ns k4.ns (room_in hu) j (by simpa using j1) (by simpa using j2)
            simpa using this
          · have := rcLt_keys xs ys A.in1 s vs.toList vs'.toList h4 k4 h (room_in hu) j (by simpa using j1) (by simpa using j2) hj hp
            simpa using this
    | _ => simp [cmpK] at h
theorem rcLt_keys : ∀ (xs ys : List NestedKey) (A : Around) (s : Shared) (vs ws : List Value), KIA s.heap xs vs → KIA s.heap ys ws → cmpKs xs ys = true →
    A.units + min (NestedKey.depthAll xs) (NestedKey.depthAll ys) < cLine → ∀ j (h1 : j < vs.length) (h2 : j < ws.length), keyEqAt xs ys j = false → (∀ i, i < j → keyEqAt xs ys i = true) → RcLt A s vs[j] ws[j] (ltK (xs.getD j .none) (ys.getD j .none))
  | [], _, _, _, _, _, ra, _, _, _, j, h1, _, _, _ => by cases ra; exact absurd h1 (Nat.not_lt_zero _)
  | _ :: _, [], _, _, _, _, _, rb, _, _, j, _, h2, _, _ => by cases rb; exact absurd h2 (Nat.not_lt_zero _)
  | x :: xs, y :: ys, A, s, _, _, ra, rb, h, hu, j, h1, h2, hj, hp => by
    obtain ⟨c1, c2⟩ := cmpKs_cons h
    cases ra with
    | cons r rs =>
      cases rb with
      | cons r' rs' =>
        cases j with
        | zero =>
          have ne : x ≠ y := fun e => by
            subst e
            have : NestedKey.beq x x = false := hj
            rw [NestedKey.beq_self] at this
            cases this
          exact rcLt_key x y A s _ _ r r' (c2 ne) ne (room_head hu)
        | succ j =>
          have e0 : x = y := NestedKey.eq_of_beq x y (hp 0 (Nat.succ_pos j))
          exact rcLt_keys xs ys A s _ _ rs rs' (c1 e0) (room_tail hu) j (Nat.lt_of_succ_lt_succ h1) (Nat.lt_of_succ_lt_succ h2) hj fun i hi => hp (i + 1) (Nat.succ_lt_succ hi)
end
section
variable {prog : Program} {w : World} {A : Around} {E : Value → Shared → Prop} {s : Shared}
theorem oneLt_key {f : Bool} {x y : NestedKey} {a b : Value} {Q : Bool → Shared → Prop} (hf : f = true → ∀ xs, x ≠ .tup xs) (ra : KI s.heap x a) (rb : KI s.heap y b) (h : cmpK x y = true) (hn : x ≠ y ∨ ∃ i, x = .num i)
    (hu : A.units + min x.depth y.depth < cLine) (hq : Q (ltK x y) s) : wpAny (model prog w) A (oneLt' f a b) Q E s := by
  cases f with
  | false =>
    rw [oneLt'_eq]
    simp only [Bool.false_eq_true, if_false]
    rcases hn with hn | ⟨i, rfl⟩
    · exact wpAny_bind (rcLt_key x y A s a b ra rb h hn hu prog w E _ (wpAny_truthy_bool hq))
    · cases y with
      | num j =>
        cases ra
        cases rb
        rw [ltK_num] at hq
        exact wpAny_bind (PySem.P.lt_int (wpAny_truthy_bool hq))
      | _ => simp [cmpK] at h
  | true =>
    cases x with
    | none =>
      rcases hn with hn | ⟨i, z⟩
      · cases y <;> simp [cmpK] at h hn
      · cases z
    | num i =>
      cases y with
      | num j =>
        cases ra
        cases rb
        rw [ltK_num] at hq
        exact oneLt_int hq
      | _ => simp [cmpK] at h
    | text x =>
      cases y with
      | text y =>
        cases ra
        cases rb
        rw [ltK_text] at hq
        exact oneLt_str hq
      | _ => simp [cmpK] at h
    | tup xs => exact absurd rfl (hf rfl xs)
open PySem.W in
theorem katLex_key {b fin : Bool} {Q : Bool → Shared → Prop} : ∀ (xs ys : List NestedKey) (i : Nat) (vs ws : List Value), KIA s.heap xs vs → KIA s.heap ys ws → cmpKs xs ys = true →
    A.units + min (NestedKey.depthAll xs) (NestedKey.depthAll ys) < cLine → (b = true → i = 0 → ∀ x r t, xs = x :: r → x ≠ .tup t) → fin = decide (xs.length < ys.length) → Q (ltKs xs ys) s → KatLex prog w A b fin Q (vs.zip ws) i s
  | [], [], i, _, _, ra, rb, _, _, _, hf, hq => by
    cases ra
    cases rb
    rw [ltKs_self] at hq
    exact kat_nil (by rw [hf]; exact hq)
  | [], y :: ys, i, _, _, ra, rb, _, _, _, hf, hq => by
    cases ra
    rw [ltKs_nil] at hq
    rw [List.zip_nil_left]
    exact kat_nil (by rw [hf]; simpa using hq)
  | x :: xs, [], i, _, _, ra, rb, _, _, _, hf, hq => by
    cases rb
    rw [ltKs_nil'] at hq
    rw [List.zip_nil_right]
    exact kat_nil (by rw [hf]; simpa using hq)
  | x :: xs, y :: ys, i, _, _, ra, rb, h, hu, hb, hf, hq => by
    obtain ⟨h1, h2⟩ := cmpKs_cons h
    have hf' : fin = decide (xs.length < ys.length) := by
      rw [hf]
      simp only [List.length_cons, Nat.add_lt_add_iff_right]
    cases ra with
    | cons r rs =>
      cases rb with
      | cons r' rs' =>
        rw [List.zip_cons_cons]
        refine kat_cons (eqAt_key x y A s _ _ r.ns r'.ns (room_head hu) prog w _ _ ?_)
        rw [← NestedKey.decide_eq]
        by_cases e : x = y
        · rw [decide_eq_true e]
          subst e
          rw [ltKs_yes] at hq
          exact kat_yes (katLex_key xs ys (i + 1) _ _ rs rs' (h1 rfl) (room_tail hu) (fun _ hi => absurd hi (Nat.succ_ne_zero i)) hf' hq)
        · rw [decide_eq_false e]
          rw [ltKs_no e] at hq
          refine kat_no (oneLt_key (fun hbi t => ?_) r r' (h2 e) (.inl e) (room_head hu) hq)
          rw [Bool.and_eq_true] at hbi
          exact hb hbi.1 (by simpa using hbi.2) x xs t rfl
end
/-! ## what can be sorted -/
def isNumK : NestedKey → Bool
  | .num _ => true
  | _ => false
def isTupK : NestedKey → Bool
  | .tup (_ :: _) => true
  | _ => false
def sortOk (ks : List NestedKey) : Bool := (ks.all fun x => decide (x.depth ≤ 60) && ks.all fun y => cmpK x y) && (ks.all isNumK || ks.all isTupK)
theorem sortOk_iff {ks : List NestedKey} : sortOk ks = true ↔ (∀ x ∈ ks, x.depth ≤ 60 ∧ ∀ y ∈ ks, cmpK x y = true) ∧ ((∀ x ∈ ks, isNumK x = true) ∨ ∀ x ∈ ks, isTupK x = true) := by
  simp [sortOk]
open Classical in
/-- the key that a value is -/
noncomputable def keyAt (h : Heap) (v : Value) : NestedKey := if q : ∃ k, KI h k v then q.choose else .none
theorem keyAt_of {h : Heap} {k : NestedKey} {v : Value} (x : KI h k v) : keyAt h v = k := by
  have q : ∃ k, KI h k v := ⟨k, x⟩
  have e : keyAt h v = q.choose := by unfold keyAt; rw [dif_pos q]
  rw [e]
  exact q.choose_spec.inj x
noncomputable def ltV (h : Heap) (u v : Value) : Bool := ltK (keyAt h u) (keyAt h v)
theorem ltV_swo (h : Heap) : SrtO.Swo (ltV h) := by
  refine ⟨fun x y q => ltK_asym q, fun x y z h1 h2 => ?_⟩
  cases c : ltV h z x with
  | false => rfl
  | true =>
    rcases ltK_neg (y := keyAt h y) c with d | d
    · rw [show ltK (keyAt h z) (keyAt h y) = false from h2] at d; cases d
    · rw [show ltK (keyAt h y) (keyAt h x) = false from h1] at d; cases d
def keyType : NestedKey → Value
  | .none => .type "NoneType"
  | .num _ => .type "int"
  | .text _ => .type "str"
  | .tup _ => .type "tuple"
theorem looks_key {M : Model} {h : Heap} {v : Value} {k : NestedKey} (r : KI h k v) : Looks M h (typeOf v) (keyType k) := by
  cases r with
  | none => exact Looks.of_pure rfl
  | int _ _ => exact Looks.of_pure rfl
  | text _ _ => exact Looks.of_pure rfl
  | tup h1 h2 h3 h4 =>
    show Looks M h (typeOf (Value.ref _)) (Value.type "tuple")
    exact h2 ▸ (Looks.ld h1).andThen .now
theorem keyType_cmp {x y : NestedKey} (h : cmpK x y = true) : keyType x = keyType y := by
  cases x <;> cases y <;> first | rfl | simp [cmpK] at h
theorem KIA.each {h : Heap} : ∀ {ks : List NestedKey} {vs : List Value}, KIA h ks vs → ∀ v ∈ vs, ∃ k ∈ ks, KI h k v
  | _, _, .nil, v, hv => absurd hv (by simp)
  | _, _, .cons (k := k) a b, v, hv => by
    rcases List.mem_cons.mp hv with e | hv
    · exact ⟨k, List.mem_cons_self, by rw [e]; exact a⟩
    · obtain ⟨k', h1, h2⟩ := b.each v hv
      exact ⟨k', List.mem_cons_of_mem _ h1, h2⟩
open PySem.W in
theorem KIA.tups {h : Heap} : ∀ {ks : List NestedKey} {vs : List Value}, KIA h ks vs → (∀ k ∈ ks, isTupK k = true) → ∃ fs, KatTups h vs fs ∧ fs.length = vs.length ∧ ∀ f ∈ fs, ∃ x r, .tup (x :: r) ∈ ks ∧ KI h x f
  | _, _, .nil, _ => ⟨[], KatTups.nil, rfl, fun f hf => absurd hf (by simp)⟩
  | _, _, .cons (k := k) a b, ht => by
    obtain ⟨fs, h1, h2, h3⟩ := b.tups fun d hd => ht d (List.mem_cons_of_mem _ hd)
    have hk := ht k List.mem_cons_self
    cases a with
    | @tup a o xs n kk ho hc hd hr =>
      cases kk with
      | nil => simp [isTupK] at hk
      | cons x rest =>
        cases q : xs.toList with
        | nil => rw [q] at hr; cases hr
        | cons f fr =>
          rw [q] at hr
          cases hr with
          | cons r1 r2 =>
            have hf : xs[0]? = some f := by rw [← Array.getElem?_toList, q]; rfl
            refine ⟨f :: fs, KatTups.cons ho hc hd hf h1, by simp [h2], fun g hg => ?_⟩
            rcases List.mem_cons.mp hg with rfl | hg
            · exact ⟨x, rest, List.mem_cons_self, r1⟩
            · obtain ⟨x', r', m1, m2⟩ := h3 g hg
              exact ⟨x', r', List.mem_cons_of_mem _ m1, m2⟩
    | _ => simp [isTupK] at hk
section
variable {prog : Program} {w : World} {A : Around} {E : Value → Shared → Prop} {s : Shared}
open PySem.W in
theorem keys_sortable {a : Addr} {vs : List Value} {ks : List NestedKey} {h0 : Heap} (hk : KIA h0 ks vs) (k0 : ∀ b o, h0.get? b = some o → b ≠ a ∧ s.heap.get? b = some o) (hok : sortOk ks = true) (h2 : 2 ≤ vs.length) (hu : A.units + 61 < cLine) :
    SrtO.SortableO prog w A s a vs (ltV h0) := by
  obtain ⟨hc, hs⟩ := sortOk_iff.mp hok
  intro h' hk'
  have kp : ∀ c o, h0.get? c = some o → o.cls = .type "tuple" → h'.get? c = some o := fun c o e _ => hk' c o (k0 c o e).1 (k0 c o e).2
  have K : KIA h' ks vs := hk.keep kp
  have dl : ∀ {x y : NestedKey}, x ∈ ks → A.units + min x.depth y.depth < cLine := fun {x y} hx => by
    have := (hc x hx).1
    have := Nat.min_le_left x.depth y.depth
    omega
  rcases hs with hn | ht
  · refine ⟨oneType', fun Q E hq => ?_, fun p q hp hq => ?_⟩
    · have hT : ∀ v ∈ vs, Looks (model prog w) h' (typeOf v) (.type "int") := fun v hv => by
        obtain ⟨k, h1, h3⟩ := K.each v hv
        have := hn k h1
        cases k with
        | num i => exact looks_key h3
        | _ => simp [isNumK] at this
      exact kas_kind (T := .type "int") h2 hT (by decide) (by decide) hq
    · obtain ⟨x, x1, x2⟩ := K.each _ hp
      obtain ⟨y, y1, y2⟩ := K.each _ hq
      obtain ⟨x', x3, x4⟩ := hk.each _ hp
      obtain ⟨y', y3, y4⟩ := hk.each _ hq
      have e1 : x' = x := (x4.keep kp).inj x2
      have e2 : y' = y := (y4.keep kp).inj y2
      subst e1 e2
      rw [keyLt'_oneType]
      have nx := hn x' x1
      refine oneLt_key (s := { s with heap := h' }) (fun _ xs e => by rw [e] at nx; simp [isNumK] at nx) x2 y2 ((hc _ x1).2 _ y1) (.inr ?_) (dl x1) ⟨rfl, ?_⟩
      · cases x' with
        | num i => exact ⟨i, rfl⟩
        | _ => simp [isNumK] at nx
      · show _ = ltV h0 p.1 q.1
        unfold ltV
        rw [keyAt_of x4, keyAt_of y4]
  · obtain ⟨fs, t1, t2, t3⟩ := K.tups ht
    obtain ⟨f0, hf0⟩ : ∃ f, f ∈ fs := by
      cases fs with
      | nil => simp at t2; omega
      | cons f _ => exact ⟨f, List.mem_cons_self⟩
    obtain ⟨x0, r0, m0, k00⟩ := t3 f0 hf0
    have same : ∀ x r, NestedKey.tup (x :: r) ∈ ks → keyType x = keyType x0 := fun x r hm => by
      have q := (hc _ hm).2 _ m0
      simp only [cmpK] at q
      obtain ⟨q1, q2⟩ := cmpKs_cons q
      by_cases e : x = x0
      · rw [e]
      · exact keyType_cmp (q2 e)
    refine ⟨tuples' (keyType x0 != Value.type "tuple"), fun Q E hq => ?_, fun p q hp hq => ?_⟩
    · refine kat_kind (T := keyType x0) t1 (by omega) (fun f hf => ?_) (beq_self_eq_true _) hq
      obtain ⟨x, r, m1, m2⟩ := t3 f hf
      rw [← same x r m1]
      exact looks_key m2
    · obtain ⟨x, x1, x2⟩ := K.each _ hp
      obtain ⟨y, y1, y2⟩ := K.each _ hq
      obtain ⟨x', x3, x4⟩ := hk.each _ hp
      obtain ⟨y', y3, y4⟩ := hk.each _ hq
      have e1 : x' = x := (x4.keep kp).inj x2
      have e2 : y' = y := (y4.keep kp).inj y2
      subst e1 e2
      have tx := ht x' x1
      have ty := ht y' y1
      have goal : ltV h0 p.1 q.1 = ltK x' y' := by unfold ltV; rw [keyAt_of x4, keyAt_of y4]
      have cm := (hc _ x1).2 _ y1
      have room := dl (y := y') x1
      cases x' with
      | tup xs =>
        cases y' with
        | tup ys =>
          generalize e1 : p.1 = u1 at x2 y2 ⊢
          generalize e2 : q.1 = u2 at x2 y2 ⊢
          cases x2 with
          | @tup l o vs1 n _ h1 h2 h3 h4 =>
            cases y2 with
            | @tup l' o' vs2 n' _ k1 k2 k3 k4 =>
              have n1 : vs1.size = xs.length := by simpa using h4.length
              have n2 : vs2.size = ys.length := by simpa using k4.length
              simp only [cmpK] at cm
              refine kat_lt (s := { s with heap := h' }) h1 h3 k1 k3 (katLex_key xs ys 0 _ _ h4 k4 cm (by have := room_in room; omega) (fun hb _ x r t ex => ?_) (by rw [n1, n2]) ⟨rfl, ?_⟩)
              · subst ex
                have q := same _ _ x1
                intro ex2
                subst ex2
                rw [← q] at hb
                exact absurd hb (show ¬ (Value.type "tuple" != Value.type "tuple") = true from by decide)
              · show ltKs xs ys = ltV h0 p.1 q.1
                rw [goal, ltK_tup]
        | _ => simp [isTupK] at ty
      | _ => simp [isTupK] at tx
end
end LT
/-! # St8 -/
namespace LT
open PySem PySem.Spec PyProof.Rows L2
open PySem.W (EachIs)
/-! ## data as keys -/
mutual
def kD : D → Option NestedKey
  | .none => some .none
  | .int i => some (.num i)
  | .str x => some (.text x)
  | .tuple ds => (kDs ds).map .tup
  | _ => none
def kDs : List D → Option (List NestedKey)
  | [] => some []
  | d :: ds => (kD d).bind fun k => (kDs ds).map (k :: ·)
end
mutual
theorem kD_data : ∀ (d : D) (k : NestedKey), kD d = some k → k.data = d
  | .none, k, h => by simp only [kD, Option.some.injEq] at h; subst h; rfl
  | .int i, k, h => by simp only [kD, Option.some.injEq] at h; subst h; rfl
  | .str x, k, h => by simp only [kD, Option.some.injEq] at h; subst h; rfl
  | .tuple ds, k, h => by
    simp only [kD] at h
    obtain ⟨ks, h1, rfl⟩ := Option.map_eq_some_iff.mp h
    show PyData.tuple (NestedKey.datas ks) = _
    rw [kDs_datas ds ks h1]
  | .bool _, k, h => by simp [kD] at h
  | .list _, k, h => by simp [kD] at h
  | .dict _, k, h => by simp [kD] at h
theorem kDs_datas : ∀ (ds : List D) (ks : List NestedKey), kDs ds = some ks → NestedKey.datas ks = ds
  | [], ks, h => by simp only [kDs, Option.some.injEq] at h; subst h; rfl
  | d :: ds, ks, h => by
    simp only [kDs] at h
    obtain ⟨k, h1, h2⟩ := Option.bind_eq_some_iff.mp h
    obtain ⟨ks', h3, rfl⟩ := Option.map_eq_some_iff.mp h2
    show NestedKey.data k :: NestedKey.datas ks' = _
    rw [kD_data d k h1, kDs_datas ds ks' h3]
end
def sortK (ks : List NestedKey) : List NestedKey := ks.mergeSort fun x y => !ltK y x
def dedK : List NestedKey → List NestedKey
  | [] => []
  | k :: ks => if k ∈ dedK ks then dedK ks else k :: dedK ks
theorem mem_dedK {k : NestedKey} : ∀ {ks : List NestedKey}, k ∈ dedK ks ↔ k ∈ ks
  | [] => Iff.rfl
  | x :: ks => by
    simp only [dedK]
    by_cases c : x ∈ dedK ks
    · rw [if_pos c, mem_dedK, List.mem_cons]
      exact ⟨.inr, fun h => h.elim (fun e => by rw [e]; exact mem_dedK.mp c) id⟩
    · rw [if_neg c, List.mem_cons, List.mem_cons, mem_dedK]
theorem dedK_nodup : ∀ ks : List NestedKey, (dedK ks).Nodup
  | [] => List.nodup_nil
  | x :: ks => by
    simp only [dedK]
    by_cases c : x ∈ dedK ks
    · rw [if_pos c]; exact dedK_nodup ks
    · rw [if_neg c]; exact List.nodup_cons.mpr ⟨c, dedK_nodup ks⟩
abbrev SrtK (l : List NestedKey) : Prop := l.Pairwise fun x y => ltK y x = false
theorem srtK_uniq : ∀ {l m : List NestedKey}, SrtK l → SrtK m → l.Perm m → l = m
  | [], m, _, _, p => by rw [List.nil_perm.mp p]
  | x :: l, [], _, _, p => absurd p.length_eq (by simp)
  | x :: l, y :: m, h1, h2, p => by
    obtain ⟨a1, a2⟩ := List.pairwise_cons.mp h1
    obtain ⟨b1, b2⟩ := List.pairwise_cons.mp h2
    have e : x = y := by
      have hx := p.mem_iff.mp (List.mem_cons_self (a := x) (l := l))
      have hy := p.mem_iff.mpr (List.mem_cons_self (a := y) (l := m))
      rcases List.mem_cons.mp hx with e | hx
      · exact e
      · rcases List.mem_cons.mp hy with e | hy
        · exact e.symm
        · exact ltK_total (b1 x hx) (a1 y hy)
    subst e
    rw [srtK_uniq a2 b2 (List.perm_cons x |>.mp p)]
theorem sortK_perm (ks : List NestedKey) : (sortK ks).Perm ks := List.mergeSort_perm _ _
theorem sortK_srt (ks : List NestedKey) : SrtK (sortK ks) := by
  have h := List.pairwise_mergeSort (le := fun x y => !ltK y x) (fun a b c h1 h2 => by
    rw [Bool.not_eq_true'] at h1 h2 ⊢
    cases q : ltK c a with
    | false => rfl
    | true =>
      rcases ltK_neg (y := b) q with d | d
      · rw [h2] at d; cases d
      · rw [h1] at d; cases d) (fun a b => by
    cases q : ltK b a with
    | false => simp
    | true => rw [ltK_asym q]; simp) ks
  exact h.imp fun q => by simpa using q
theorem sortK_eq {l ks : List NestedKey} (h : SrtK l) (p : l.Perm ks) : l = sortK ks := srtK_uniq h (sortK_srt ks) (p.trans (sortK_perm ks).symm)
def sortH (d : D) : Option D := match d with
  | .list ds | .tuple ds => (kDs ds).bind fun ks => if sortOk ks then some (.list (NestedKey.datas (sortK ks))) else none
  | _ => none
def setOk (ks : List NestedKey) : Bool := sortOk ks && ks.all (fun k => isTupK k && decide (k.depth ≤ 8)) && decide ((dedK ks).length < 4096)
def sortSetH (d : D) : Option D := match d with
  | .list ds => (kDs ds).bind fun ks => if setOk ks then some (.list (NestedKey.datas (sortK (dedK ks)))) else none
  | _ => none
/-! ## lists that go together -/
section
variable {α β : Type} {R : α → β → Prop}
theorem each_perm {as as' : List α} (p : as'.Perm as) : ∀ {bs : List β}, EachIs R as bs → ∃ bs', bs'.Perm bs ∧ EachIs R as' bs' := by
  induction p with
  | nil => exact fun {bs} h => ⟨bs, List.Perm.refl _, h⟩
  | cons x _ ih =>
    intro bs h
    cases h with
    | cons a b =>
      obtain ⟨bs', q, r⟩ := ih b
      exact ⟨_ :: bs', q.cons _, .cons a r⟩
  | swap x y l =>
    intro bs h
    cases h with
    | cons a b =>
      cases b with
      | cons c d => exact ⟨_, List.Perm.swap _ _ _, .cons c (.cons a d)⟩
  | trans _ _ ih1 ih2 =>
    intro bs h
    obtain ⟨b1, q1, r1⟩ := ih2 h
    obtain ⟨b2, q2, r2⟩ := ih1 r1
    exact ⟨b2, q2.trans q1, r2⟩
end
theorem KIA.of_each {h : Heap} : ∀ {vs : List Value} {ks : List NestedKey}, EachIs (fun v k => KI h k v) vs ks → KIA h ks vs
  | _, _, .nil => .nil
  | _, _, .cons a b => .cons a (KIA.of_each b)
theorem srtV_keys {h : Heap} : ∀ {vs : List Value} {ks : List NestedKey}, EachIs (fun v k => KI h k v) vs ks → vs.Pairwise (fun x y => ltV h y x = false) → SrtK ks
  | _, _, .nil, _ => List.Pairwise.nil
  | _, _, .cons (b := k) a r, p => by
    obtain ⟨p1, p2⟩ := List.pairwise_cons.mp p
    refine List.pairwise_cons.mpr ⟨fun y hy => ?_, srtV_keys r p2⟩
    have key : ∀ {us : List Value} {ms : List NestedKey}, EachIs (fun v k => KI h k v) us ms → y ∈ ms → ∃ u ∈ us, KI h y u := by
      intro us ms e
      induction e with
      | nil => intro h; cases h
      | cons c d ih =>
        intro hm
        rcases List.mem_cons.mp hm with e | hm
        · exact ⟨_, List.mem_cons_self, by rw [e]; exact c⟩
        · obtain ⟨u, hu, q⟩ := ih hm
          exact ⟨u, List.mem_cons_of_mem _ hu, q⟩
    obtain ⟨u, hu, q⟩ := key r hy
    have := p1 u hu
    unfold ltV at this
    rw [keyAt_of q, keyAt_of a] at this
    exact this
/-! ## sorted, whatever is sorted -/
section
variable {prog : Program} {w : World} {A : Around} {E : Value → Shared → Prop} {s : Shared}
theorem collect_tup {l : Addr} {vs : List Value} {Q : List Value → Shared → Prop} (hl : IsTup s.heap l vs.toArray)
    (h : Q vs { s with heap := (s.heap.push (seqObj "list" #[] 0)).update s.heap.objs.size (Obj.mapSeq (· ++ vs.toArray)) }) (hsz : vs.length ≤ sizeLine) :
    wpAny (model prog w) A (collect (.ref l)) Q E s := by
  obtain ⟨o, ho, hc, n, hd⟩ := id hl
  unfold collect
  refine wpAny_bind (wpAny_runValue (codeAny_builtin entry_proto_collect' ?_))
  show wpAny _ _ (do again (.builtin "list.__iadd__" ⟨[← newList [], .ref l], []⟩)) _ _ s
  refine wpAny_bind (wpAny_newList (wpAny_pure ⟨Code.quiet_builtin _ (by decide +kernel), codeAny_builtin entry_list_iadd' ?_⟩))
  show wpAny _ _ (Builtin.List.listExtendWith (.ref s.heap.objs.size) (.ref l) (.ref s.heap.objs.size)) _ _ { s with heap := s.heap.push (seqObj "list" #[] 0) }
  unfold Builtin.List.listExtendWith
  have ho' : (s.heap.push (seqObj "list" #[] 0)).get? l = some o := Heap.get?_push_of_some _ ho
  refine wpAny_bind (wpAny_typeOf (T := "tuple") ⟨o, ho', hc⟩ ?_)
  have ht : (Value.type "tuple" == Value.type "tuple") = true := by decide
  rw [if_pos (by rw [ht]; simp)]
  refine wpAny_bind (listItems_at ho' hd ?_)
  refine wpAny_bind (listItems_at (xs := #[]) (n := 0) (Heap.get?_push_size _ rfl) rfl ?_)
  rw [if_neg (by simp)]
  refine wpAny_bind (listUpdate_at (xs := #[]) (n := 0) (Heap.get?_push_size _ rfl) rfl ?_ (Nat.zero_le _) (by show (#[] ++ vs.toArray).size ≤ sizeLine + 1; simp only [Array.size_append, List.size_toArray, List.length_nil]; omega))
  refine wpAny_pure ?_
  show wpAny (model prog w) A (do
      let o ← load s.heap.objs.size
      match o.data with
      | .seq xs _ => pure xs.toList
      | _ => unsupported "internal:collect") Q E { s with heap := (s.heap.push (seqObj "list" #[] 0)).update s.heap.objs.size (Obj.mapSeq (· ++ vs.toArray)) }
  refine wpAny_bind (wpAny_load (get?_update_seq (Heap.get?_push_size _ rfl) _) ?_)
  show wpAny _ _ (pure ((#[] : Array Value) ++ vs.toArray).toList) Q E _
  rw [show ((#[] : Array Value) ++ vs.toArray).toList = vs by simp]
  exact wpAny_pure h
/-- sorted(x), where what x's items are is told by C -/
theorem sorted_by {x : Value} {Q : Value → Shared → Prop} (C : List Value → Prop)
    (hcol : ∀ (E' : Value → Shared → Prop) (Q' : List Value → Shared → Prop), (∀ s' out, (∀ b o, s.heap.get? b = some o → s'.heap.get? b = some o) → s.heap.objs.size ≤ s'.heap.objs.size → s'.gens = s.gens → s'.os = s.os → C out → Q' out s') → wpAny (model prog w) A.in1 (collect x) Q' E' s)
    (hC : ∀ out, C out → out.length ≤ sizeLine ∧ ∃ ks, KIA s.heap ks out ∧ sortOk ks = true) (hu : A.units + 63 < cLine)
    (hQ : ∀ s' p out' out c, (∀ b o, s.heap.get? b = some o → s'.heap.get? b = some o) → s'.gens = s.gens → s'.os = s.os → s.heap.objs.size ≤ p → s'.heap.get? p = some (seqObj "list" (List.toArray out') c) → C out → out'.Perm out → out'.Pairwise (fun u v => ltV s.heap v u = false) → Q (.ref p) s') :
    wpAny (model prog w) A (call (.builtin "sorted") [x]) Q E s := by
  refine Calls.call_function_entry kind_sorted plain_sorted entry_sorted (args_sorted1 _) ?_
  unfold Builtin.«sorted»
  refine wpAny_bind (m := checkCount "sorted" 1 1 _) (wpAny_pure ?_)
  refine wpAny_bind (hcol _ _ fun s1 vs k1 hz g1 o1 hc => ?_)
  obtain ⟨hlen, ks, hk, hok⟩ := hC vs hc
  refine wpAny_bind (wpAny_newList ?_ hlen)
  have hoL : (s1.heap.push (seqObj "list" vs.toArray 0)).get? s1.heap.objs.size = some (seqObj "list" vs.toArray 0) := Heap.get?_push_size _ rfl
  have kp : ∀ b o, s.heap.get? b = some o → b ≠ s1.heap.objs.size ∧ (s1.heap.push (seqObj "list" vs.toArray 0)).get? b = some o := fun b o e =>
    ⟨Nat.ne_of_lt (Heap.lt_size (k1 b o e)), Heap.get?_push_of_some _ (k1 b o e)⟩
  refine wpAny_bind (wpAny_holding (wpAny_call_entry slot_list_sort ⟨_, hoL, rfl⟩ entry_list_sort (SrtO.list_sort_ord (s := { s1 with heap := s1.heap.push (seqObj "list" vs.toArray 0) }) (ltV_swo s.heap) hoL hlen (fun h2 => keys_sortable hk kp hok h2 (by simp only [Around.in1_units]; omega)) fun out hs hb => ⟨_, rfl, ?_⟩) (args_list_sort _)))
  obtain ⟨c, hc2⟩ := sortedHeap_at (vs := vs) (out := out.toArray) hoL
  refine wpAny_pure ⟨_, rfl, hQ _ s1.heap.objs.size out vs c (fun b u e => ?_) g1 o1 hz hc2 hc hb.perm hs⟩
  have q := k1 b u e
  have hlt := Heap.lt_size q
  show (sortedHeap (s1.heap.push (seqObj "list" vs.toArray 0)) s1.heap.objs.size vs out.toArray).get? b = some u
  rw [sortedHeap_old (Nat.ne_of_lt hlt) (by rw [size_push']; exact Nat.lt_succ_of_lt hlt)]
  exact Heap.get?_push_of_some _ q
end
/-! ## in the walk -/
section
variable {X : Cx} {pins : List (Addr × Obj)} {σ : L2.St} {H : Hp} {s : Shared}
mutual
theorem Rp.key (I : Inv X pins σ H s) : ∀ {d : D} {v : V} {k : NestedKey} {u : Value}, Rp X.K H v d → kD d = some k → RelV v u → KI s.heap k u
  | _, _, k, u, .non, h, r => by
    simp only [kD, Option.some.injEq] at h
    subst h
    obtain rfl : u = Value.none := r
    exact .none
  | _, _, k, u, .bl b, h, r => by simp [kD] at h
  | _, _, k, u, .int i, h, r => by
    simp only [kD, Option.some.injEq] at h
    subst h
    obtain ⟨t, rfl⟩ := r
    exact .int i t
  | _, _, k, u, .str x _, h, r => by
    simp only [kD, Option.some.injEq] at h
    subst h
    obtain ⟨t, rfl⟩ := r
    exact .text x t
  | _, _, k, u, .lst _ _ _, h, r => by simp [kD] at h
  | _, _, k, u, .tup hq z rv, h, r => by
    simp only [kD] at h
    obtain ⟨ks, h1, rfl⟩ := Option.map_eq_some_iff.mp h
    obtain rfl : u = Value.ref _ := r
    obtain ⟨its, r2, ⟨o, ho, hc, n, hd⟩, _⟩ := I.tuple hq
    exact .tup ho hc hd (by simpa using RpL.keys I rv h1 r2)
theorem RpL.keys (I : Inv X pins σ H s) : ∀ {ds : List D} {vs : List V} {ks : List NestedKey} {us : List Value}, RpL X.K H vs ds → kDs ds = some ks → Vals vs us → KIA s.heap ks us
  | _, _, ks, us, .nil, h, r => by
    simp only [kDs, Option.some.injEq] at h
    subst h
    cases r
    exact .nil
  | _, _, ks, us, .cons a b, h, r => by
    simp only [kDs] at h
    obtain ⟨k, h1, h2⟩ := Option.bind_eq_some_iff.mp h
    obtain ⟨ks', h3, rfl⟩ := Option.map_eq_some_iff.mp h2
    cases r with
    | cons r1 r2 => exact .cons (Rp.key I a h1 r1) (RpL.keys I b h3 r2)
end
/-- the value u is the key k, and it stands for k's datum -/
def Both (X : Cx) (G : Hp) (h : Heap) (u : Value) (k : NestedKey) : Prop := KI h k u ∧ ∃ v, RelV v u ∧ Rp X.K G v k.data
theorem both_of {G : Hp} (I : Inv X pins σ H s) (sg : Same G H) : ∀ {ds : List D} {vs : List V} {ks : List NestedKey} {us : List Value}, RpL X.K G vs ds → kDs ds = some ks → Vals vs us → EachIs (Both X G s.heap) us ks
  | _, _, ks, us, .nil, h, r => by
    simp only [kDs, Option.some.injEq] at h
    subst h
    cases r
    exact .nil
  | _, _, ks, us, .cons (v := v) (d := d) a b, h, r => by
    simp only [kDs] at h
    obtain ⟨k, h1, h2⟩ := Option.bind_eq_some_iff.mp h
    obtain ⟨ks', h3, rfl⟩ := Option.map_eq_some_iff.mp h2
    cases r with
    | cons r1 r2 => exact .cons ⟨Rp.key I (a.same sg) h1 r1, v, r1, by rw [kD_data d k h1]; exact a⟩ (both_of I sg b h3 r2)
theorem both_back {G : Hp} {h : Heap} : ∀ {us : List Value} {ks : List NestedKey}, EachIs (Both X G h) us ks → ∃ vs, Vals vs us ∧ RpL X.K G vs (NestedKey.datas ks) ∧ vs.length = us.length
  | _, _, .nil => ⟨[], .nil, .nil, rfl⟩
  | _, _, .cons ⟨_, v, a, b⟩ r => by
    obtain ⟨vs, p, q, z⟩ := both_back r
    exact ⟨v :: vs, .cons a p, .cons b q, by simp [z]⟩
/-- the end of a sorted(..) -/
theorem sorted_done {G : Hp} {h0 : Heap} {us out : List Value} {ks : List NestedKey} {s' : Shared} {p : Addr} {c : Nat} {Q : VK} (I : Inv X pins σ H s) (sg : Same G H) (k : ∀ b o, s.heap.get? b = some o → s'.heap.get? b = some o)
    (g : s'.gens = s.gens) (o : s'.os = s.os) (hp : s.heap.objs.size ≤ p) (hg : s'.heap.get? p = some (seqObj "list" (List.toArray out) c)) (hz : us.length ≤ sizeLine) (hb : EachIs (Both X G h0) us ks)
    (pm : out.Perm us) (ps : out.Pairwise fun u v => ltV h0 v u = false) (q : ∀ v G' H', Ext G H G' H' → Rp X.K G' v (.list (NestedKey.datas (sortK ks))) → Q v H') :
    EP X pins σ Q (.ref p) s' := by
  obtain ⟨ks', p1, e1⟩ := each_perm pm hb
  have es : ks' = sortK ks := sortK_eq (srtV_keys (e1.mono fun _ _ z => z.1) ps) p1
  subst es
  obtain ⟨vs, w1, w2, w3⟩ := both_back e1
  have hn : H p = none := I.hok.fresh hp
  have hlen : vs.length ≤ sizeLine := by rw [w3, pm.length_eq]; exact hz
  have J : Inv X pins σ (upd H p (.lst vs)) { s with heap := s'.heap, gens := s'.gens, drawn := s'.drawn, toks := s'.toks } :=
    I.call (ch := []) (Un.laid k hp hn) (I.hok.laid k hp ⟨hlen, out, c, w1, hg⟩) (by rw [g]; exact I.bare) (fun _ z => nomatch z)
  have e : s' = { s with heap := s'.heap, gens := s'.gens, drawn := s'.drawn, toks := s'.toks } := by
    cases s'
    cases s
    cases o
    rfl
  rw [e]
  have x2 := Ext.new sg hn (.lst vs)
  exact ⟨.ref p, _, J, rfl, q _ _ _ x2 (.lst upd_same hlen (w2.same x2.gg))⟩
end
end LT
/-! # Pf7 -/
namespace LT
open PySem PySem.Spec PyProof.Rows L2
open PySem.W (EachIs)
theorem room65 {k : Nat} {A : Around} (r : Room k A) : A.units + 65 < cLine := by have := r.un; omega
/-- `x = a + b` of two lists: a list of one's own -/
def sCat (i : Nat) (f g : FE) : FS := fun ρ => if ρ.any Sl.isOw = true then none else (f ρ).bind fun x => (g ρ).bind fun y => match x, y with
  | .list xs, .list ys => if xs.length + ys.length ≤ sizeLine then some (.nx (ρ.set i (.ow (xs ++ ys)))) else none
  | _, _ => none
section
variable {X : Cx} {a b c e : Expr} {es rest : List Expr} {f g : FE} {p q : FB} {pos pos3 p1 p2 : Pos} {x : Str} {k : Nat}
theorem nodup_len {α : Type} [DecidableEq α] : ∀ {l m : List α}, l.Nodup → (∀ x ∈ l, x ∈ m) → l.length ≤ m.length
  | [], _, _, _ => Nat.zero_le _
  | x :: l, m, hn, h => by
    obtain ⟨h1, h2⟩ := List.nodup_cons.mp hn
    have hx := h x List.mem_cons_self
    have := nodup_len (m := m.erase x) h2 fun y hy => (List.mem_erase_of_ne (fun e => h1 (by rw [← e]; exact hy))).mpr (h y (List.mem_cons_of_mem _ hy))
    rw [List.length_erase_of_mem hx] at this
    have := List.length_pos_of_mem hx
    simp only [List.length_cons]
    omega
theorem vals_len : ∀ {vs : List V} {us : List Value}, Vals vs us → us.length = vs.length
  | _, _, .nil => rfl
  | _, _, .cons _ t => congrArg (· + 1) (vals_len t)
theorem keep_col {s : Shared} {vs : List Value} : (∀ b o, s.heap.get? b = some o → ((s.heap.push (seqObj "list" #[] 0)).update s.heap.objs.size (Obj.mapSeq (· ++ vs.toArray))).get? b = some o) ∧ s.heap.objs.size ≤ ((s.heap.push (seqObj "list" #[] 0)).update s.heap.objs.size (Obj.mapSeq (· ++ vs.toArray))).objs.size :=
  ⟨fun b o e => by
    rw [Heap.get?_update_ne _ _ _ _ (Nat.ne_of_lt (Heap.lt_size e))]
    exact Heap.get?_push_of_some _ e, by rw [Heap.size_update, size_push']; exact Nat.le_succ _⟩
theorem cr_sort (hr : Room k X.A) : CallR X (.builtin "sorted") (rB X.K sortH) := by
  intro pins s σ H xs us Q I r h
  obtain ⟨G, v, d, rr, rfl, sg, rd, h, q⟩ := h
  have hu := room65 hr
  cases rd with
  | @lst pa va ds hq z rv =>
    obtain ⟨ks, h1, h2⟩ := Option.bind_eq_some_iff.mp h
    obtain ⟨ok, rfl⟩ := ite_some h2
    rw [Vals.ref1 r]
    obtain ⟨its, r2, pl, hz⟩ := I.list (sg.seq (SqL.of hq))
    have e2 : va = va := rfl
    have hl := vals_len r2
    have eb := both_of I sg rv h1 r2
    refine sorted_by (s := s) (fun out => out = its) (fun E' Q' hq' => collect_list pl.isList (hq' _ _ keep_col.1 keep_col.2 rfl rfl rfl) (by omega)) (fun out ho => by subst ho; exact ⟨by omega, ks, KIA.of_each (eb.mono fun _ _ z => z.1), ok⟩) (by omega) fun s' p out' out c k1 g1 o1 hp hg hc pm ps => ?_
    subst hc
    exact sorted_done I sg k1 g1 o1 hp hg (by omega) eb pm ps q
  | @tup pa va ds hq z rv =>
    obtain ⟨ks, h1, h2⟩ := Option.bind_eq_some_iff.mp h
    obtain ⟨ok, rfl⟩ := ite_some h2
    rw [Vals.ref1 r]
    obtain ⟨its, r2, pl, hz⟩ := I.tuple (sqT_same sg hq)
    have hl := vals_len r2
    have eb := both_of I sg rv h1 r2
    refine sorted_by (s := s) (fun out => out = its) (fun E' Q' hq' => collect_tup pl (hq' _ _ keep_col.1 keep_col.2 rfl rfl rfl) (by omega)) (fun out ho => by subst ho; exact ⟨by omega, ks, KIA.of_each (eb.mono fun _ _ z => z.1), ok⟩) (by omega) fun s' p out' out c k1 g1 o1 hp hg hc pm ps => ?_
    subst hc
    exact sorted_done I sg k1 g1 o1 hp hg (by omega) eb pm ps q
  | _ => cases h
theorem each_refs {G : Hp} {h : Heap} : ∀ {us : List Value} {ks : List NestedKey}, EachIs (Both X G h) us ks → (∀ k ∈ ks, isTupK k = true ∧ k.depth ≤ 8) →
    ∃ ps : List (Addr × NestedKey), us = ps.map (fun p => Value.ref p.1) ∧ ks = ps.map (·.2) ∧ ∀ p ∈ ps, KIs h p.2 p.1 ∧ Both X G h (.ref p.1) p.2
  | _, _, .nil, _ => ⟨[], rfl, rfl, fun p hp => by cases hp⟩
  | _, _, .cons (b := k) w r, ht => by
    obtain ⟨ps, e1, e2, hp⟩ := each_refs r fun k hk => ht k (List.mem_cons_of_mem _ hk)
    obtain ⟨t1, t2⟩ := ht k List.mem_cons_self
    have w' := w
    obtain ⟨a1, a2⟩ := w
    cases a1 with
    | @tup a o vs n kk h1 h2 h3 h4 =>
      refine ⟨(a, .tup kk) :: ps, by rw [e1]; rfl, by rw [e2]; rfl, fun p hm => ?_⟩
      rcases List.mem_cons.mp hm with e | hm
      · rw [e]; exact ⟨⟨(KI.tup h1 h2 h3 h4).ns, t2⟩, w'⟩
      · exact hp p hm
    | _ => simp [isTupK] at t1
theorem each_of_pairs {R : Value → NestedKey → Prop} : ∀ {L : List (Addr × NestedKey)}, (∀ p ∈ L, R (.ref p.1) p.2) → EachIs R (L.map fun p => Value.ref p.1) (L.map (·.2))
  | [], _ => .nil
  | p :: L, h => .cons (h p List.mem_cons_self) (each_of_pairs fun q hq => h q (List.mem_cons_of_mem _ hq))
theorem pf_sortset (hr : Room k X.A) (hc : X.calm = true) (hg : Gl X "sorted") (hm : X.mg "sorted" = none) (hg2 : Gl X "set") (hm2 : X.mg "set" = none) (ha : PF X e f)
    (na : starEach [e] X.env = (false, eval e X.env) :: starEach [] X.env := by rfl) :
    PF X (.Call (.Name "sorted" p1) [.Call (.Name "set" p2) [e] [] pos3] [] pos) (cB sortSetH f) := by
  refine ⟨fun pins s σ H Q I h => ?_⟩
  obtain ⟨ρ, G, d, sg, ev, hf, q⟩ := h
  obtain ⟨y, hf1, hf2⟩ := Option.bind_eq_some_iff.mp hf
  have hu := room65 hr
  refine Call_ (ld_blt I hg hm PyProof.Rows.boot_sorted ?_)
  refine PyProof.Rows.callWith_builtin1 (PyProof.Rows.args_cons ?_ rfl) rfl rfl
  refine Call_ (ld_blt I hg2 hm2 PyProof.Rows.boot_set ?_)
  refine PyProof.Rows.callWith_type1 (PyProof.Rows.args_cons (thn (ha.run pins s σ H (fun v H1 => ∃ G1, Ext G H G1 H1 ∧ Rp X.K G1 v y) I ⟨ρ, G, y, sg, ev, hf1, fun v G1 H1 x1 r1 => ⟨G1, x1, r1⟩⟩) fun v s1 ⟨x, H1, I1, r1, q1⟩ => PyProof.Rows.args_nil ?_) na) na rfl
  obtain ⟨G1, x1, rd⟩ := q1
  cases rd with
  | @lst pa va ds hq z rv =>
    obtain ⟨ks, h1, h2⟩ := Option.bind_eq_some_iff.mp hf2
    obtain ⟨ok, rfl⟩ := ite_some h2
    obtain rfl : v = Value.ref pa := r1
    obtain ⟨its, r2, pl, hz⟩ := I1.list (x1.gh.seq (SqL.of hq))
    have hl := vals_len r2
    have eb := both_of I1 x1.gh rv h1 r2
    simp only [setOk, Bool.and_eq_true, List.all_eq_true, decide_eq_true_eq] at ok
    obtain ⟨⟨ok1, ok2⟩, ok3⟩ := ok
    obtain ⟨ps, e1, e2, hps⟩ := each_refs eb ok2
    have few : FewK ps := fun l hn hl2 => by
      have : l.length ≤ (dedK ks).length := nodup_len hn fun k hk => mem_dedK.mpr (by rw [e2]; exact hl2 k hk)
      omega
    refine call_set_keys (P := X.prog) (w := X.w) ps (I1.ok.hd hc) pl.isList (by simpa using e1) (fun p hp => (hps p hp).1) few (by omega) fun h' tk L es ep t R g k => ?_
    refine PyProof.Rows.args_nil ?_
    obtain ⟨o, ho, hex, hd⟩ := R.ob
    have hsz := rows_size R.rows
    have sub : ∀ p ∈ L, p ∈ ps := fun p hp => List.mem_of_mem_take (g.sub p hp)
    have all : ∀ p ∈ ps, p.2 ∈ L.map (·.2) := fun p hp => g.all p (by rw [List.take_length]; exact hp)
    have I2 : Inv X pins σ H1 { s1 with heap := h', toks := tk } := I1.kept k
    have bt : ∀ p ∈ L, Both X G1 h' (.ref p.1) p.2 := fun p hp => ⟨(hps p (sub p hp)).2.1.keep fun b u e _ => k b u e, (hps p (sub p hp)).2.2⟩
    have ebL := each_of_pairs bt
    have pmk : (L.map (·.2)).Perm (dedK ks) := (List.perm_ext_iff_of_nodup R.nd (dedK_nodup ks)).mpr fun k => by
      rw [mem_dedK, e2]
      refine ⟨fun h => ?_, fun h => ?_⟩
      · obtain ⟨p, hp, rfl⟩ := List.mem_map.mp h
        exact List.mem_map.mpr ⟨p, sub p hp, rfl⟩
      · obtain ⟨p, hp, rfl⟩ := List.mem_map.mp h
        exact all p hp
    have okL : sortOk (L.map (·.2)) = true := by
      rw [sortOk_iff] at ok1 ⊢
      have m : ∀ x ∈ L.map (·.2), x ∈ ks := fun x hx => mem_dedK.mp (pmk.mem_iff.mp hx)
      exact ⟨fun x hx => ⟨(ok1.1 x (m x hx)).1, fun y hy => (ok1.1 x (m x hx)).2 y (m y hy)⟩, ok1.2.imp (fun h x hx => h x (m x hx)) fun h x hx => h x (m x hx)⟩
    have hes : es.toList.map (·.2) = L.map fun q => Value.ref q.1 := by
      rw [R.rows]
      simp [rowsN]
    refine sorted_by (s := { s1 with heap := h', toks := tk }) (fun out => out.Perm (L.map fun q => Value.ref q.1)) (fun E' Q' hq' => collect_set (P := X.prog) (w := X.w) (by simp [I1.ok.hd hc]) ⟨o, ho, hex.1, hd⟩ (SetN.fits (s := { s1 with heap := h', toks := tk }) R) (by rw [hsz]; exact R.few) R.tab.ris R.led fun s' out k1 hz1 g1 o1 pm => hq' s' out k1 hz1 g1 o1 (by rw [← hes]; exact pm)) (fun out ho => ?_) (by omega) fun s' p out' out c k1 g1 o1 hp hgt hcc pm ps' => ?_
    · obtain ⟨ks', p1, p2⟩ := each_perm ho ebL
      refine ⟨by rw [ho.length_eq, List.length_map, sizeLine_eq]; have := R.few; omega, ks', KIA.of_each (p2.mono fun _ _ z => z.1), ?_⟩
      rw [sortOk_iff] at okL ⊢
      exact ⟨fun x hx => ⟨(okL.1 x (p1.mem_iff.mp hx)).1, fun y hy => (okL.1 x (p1.mem_iff.mp hx)).2 y (p1.mem_iff.mp hy)⟩, okL.2.imp (fun h x hx => h x (p1.mem_iff.mp hx)) fun h x hx => h x (p1.mem_iff.mp hx)⟩
    · refine sorted_done (ks := L.map (·.2)) I2 x1.gh k1 g1 o1 hp hgt (by rw [List.length_map, sizeLine_eq]; have := R.few; omega) ebL (pm.trans hcc) ps' fun v G' H' x2 r => ?_
      have e : sortK (L.map (·.2)) = sortK (dedK ks) := sortK_eq (sortK_srt _) ((sortK_perm _).trans pmk)
      rw [e] at r
      exact q v G' H' (x1.trans x2) r
  | _ => cases hf2
end
section
variable {X : Cx} {e : Expr} {st : Stmt} {f g : FE} {pos : Pos}
theorem sf_cat {i : Nat} {x : Str} {a b : Expr} {pos' pos2 : Pos} (hN : X.N.Nodup) (hi : X.N[i]? = some x) (hx : Loc X.env.scope x) (ha : PF X a f) (hb : PF X b g)
    (hs : swapsWith (.BinOp a .Add b pos2) (some (.Name x pos')) pos.line X.env = pure false := by rfl)
    (hf : X.fn x = true ∨ X.env.scope.names.lookup x = some .local := by first | exact .inl rfl | exact .inr rfl | assumption) :
    SF X (.Assign [.Name x pos'] (.BinOp a .Add b pos2) pos) (sCat i f g) :=
  ⟨fun pins s σ H Dn I w0 => by
    refine (ps_set hN hi hx (pe_op op_cat ha hb) hs hf).run pins s σ H Dn I ?_
    obtain ⟨ρ, G, B, o, ii, hf, w⟩ := w0
    unfold sCat at hf
    split at hf
    · cases hf
    · rename_i no
      obtain ⟨d1, e1, hf⟩ := Option.bind_eq_some_iff.mp hf
      obtain ⟨d2, e2, hf⟩ := Option.bind_eq_some_iff.mp hf
      split at hf
      · obtain ⟨hz, rfl⟩ := ite_some hf
        refine seq2 (R := fun v u H2 => rCat v u H2 _) ii.sg ii.eb.ev e1 e2 fun v u G1 H1 x1 r1 r2 => ?_
        cases r1 with
        | @lst pa va _ h1 z1 q1 =>
          cases r2 with
          | @lst pb vb _ h2 z2 q2 =>
            have l := (q1.app q2).length
            have z' := hz
            rw [← List.length_append, ← l, List.length_append] at z'
            have ii1 := ii.ext x1
            refine ⟨_, _, va, vb, rfl, rfl, x1.gh _ _ h1, x1.gh _ _ h2, z', fun a ha => ?_⟩
            have hiσ : i < σ.length := by rw [I.len]; exact (List.getElem?_eq_some_iff.mp hi).1
            have ga := none_of_same ii1.sg ha
            have hB : ¬ B a := fun q => ii1.bn a q ha
            have xb := x1.toB ii.bn
            have xb2 : ExtB B G1 H1 G1 (upd H1 a (.lst (va ++ vb))) := ⟨fun b u hb q => by rw [upd_ne (ne_of_none q ha)]; exact q, Same.refl G1, fun b u q => by rw [upd_ne (ne_of_none q ga)]; exact ii1.sg b u q, fun _ _ q => q⟩
            refine w _ G1 _ (xb.trans xb2) ?_
            have i2 : SIn X.K B G1 H1 (σ.set i (some (.ref a))) (ρ.set i .no) := by
              refine ⟨ii1.sg, ⟨⟨by simp [ii1.eb.ev.len], fun j d h => ?_, fun j es h => ?_, fun j k es fs h1 h2 => ?_, fun j c h => ?_⟩, fun j es b h1 h2 => ?_⟩, ii1.bn⟩
              · rcases set_get h with ⟨_, q⟩ | ⟨ne, q⟩
                · cases q
                · obtain ⟨v, q1, q2⟩ := ii1.eb.ev.im j d q
                  exact ⟨v, by rw [List.getElem?_set_ne (Ne.symm ne)]; exact q1, q2⟩
              · rcases set_get h with ⟨_, q⟩ | ⟨ne, q⟩
                · cases q
                · exact absurd q (not_ow no)
              · rcases set_get h1 with ⟨_, q⟩ | ⟨_, q⟩
                · cases q
                · exact absurd q (not_ow no)
              · rcases set_get h with ⟨_, q⟩ | ⟨ne, q⟩
                · cases q
                · rw [List.getElem?_set_ne (Ne.symm ne)]; exact ii1.eb.ev.lk j c q
              · rcases set_get h1 with ⟨_, q⟩ | ⟨_, q⟩
                · cases q
                · exact absurd q (not_ow no)
            have i3 := i2.own (i := i) (x := .no) (xs := va ++ vb) (a := a) (fun j es h => by
              rcases set_get h with ⟨_, q⟩ | ⟨_, q⟩
              · cases q
              · exact absurd q (not_ow no)) ga hB (List.getElem?_set_self hiσ) (by rw [List.length_append]; exact z') (q1.app q2)
            rw [List.set_set] at i3
            exact i3
      · cases hf⟩
end
end LT
/-! # Pf8 -/
namespace LT
open PySem PySem.Spec PyProof.Rows L2
/-! ## {'a': x, 'b': y, 'c': z}.get(k, d) -/
def cDG (s1 : Str) (f1 : FE) (s2 : Str) (f2 : FE) (s3 : Str) (f3 fk fd : FE) : FE := fun ρ => (f1 ρ).bind fun x1 => (f2 ρ).bind fun x2 => (f3 ρ).bind fun x3 => (fk ρ).bind fun k => (fd ρ).bind fun d => match k with
  | .str z => some (if s1 = z then x1 else if s2 = z then x2 else if s3 = z then x3 else d)
  | _ => none
section
variable {X : Cx} {s1 s2 s3 : Str} {v1 v2 v3 ek ed : Expr} {f1 f2 f3 fk fd : FE} {pd p1 p2 p3 apos cpos : Pos} {j1 j2 j3 : Nat}
theorem merge3 {x1 x2 x3 : V} (h12 : s1 ≠ s2) (h13 : s1 ≠ s3) (h23 : s2 ≠ s3) : mergeK [] [((Sum.inr s1 : Key), x1), (Sum.inr s2, x2), (Sum.inr s3, x3)] = [(Sum.inr s1, x1), (Sum.inr s2, x2), (Sum.inr s3, x3)] := by
  unfold mergeK
  simp [putK, h12, h13, h23]
theorem pf_dget3 (hu : X.A.units + 1 < cLine) (h1 : PF X v1 f1) (h2 : PF X v2 f2) (h3 : PF X v3 f3) (hk : PF X ek fk) (hd : PF X ed fd)
    (m : M2 X (.Dict [some (.Constant (.str s1) j1 p1), some (.Constant (.str s2) j2 p2), some (.Constant (.str s3) j3 p3)] [v1, v2, v3] pd) "get" apos ek ed cpos) (h12 : s1 ≠ s2 := by decide +kernel) (h13 : s1 ≠ s3 := by decide +kernel) (h23 : s2 ≠ s3 := by decide +kernel) :
    PF X (.Call (.Attribute (.Dict [some (.Constant (.str s1) j1 p1), some (.Constant (.str s2) j2 p2), some (.Constant (.str s3) j3 p3)] [v1, v2, v3] pd) "get" apos) [ek, ed] [] cpos) (cDG s1 f1 s2 f2 s3 f3 fk fd) := by
  refine pe_weak (pe_dget2 hu (pe_disp (pps_cons pe_str h1 (pps_cons pe_str h2 (pps_cons pe_str h3 pps_nil))) rfl rfl (by simp) (by show 3 ≤ 15; decide)) hk hd m) fun σ H Q ⟨ρ, G, d, sg, ev, hf, q⟩ => ?_
  obtain ⟨x1, e1, hf⟩ := Option.bind_eq_some_iff.mp hf
  obtain ⟨x2, e2, hf⟩ := Option.bind_eq_some_iff.mp hf
  obtain ⟨x3, e3, hf⟩ := Option.bind_eq_some_iff.mp hf
  obtain ⟨xk, ek', hf⟩ := Option.bind_eq_some_iff.mp hf
  obtain ⟨xd, ed', hf⟩ := Option.bind_eq_some_iff.mp hf
  refine fun p hp => ?_
  have x0 : Ext G H G (upd H p (.dK [])) := Ext.only sg (same_upd hp _)
  have gp := none_of_same sg hp
  refine ⟨ρ, G, x1, x0.gh, ev.ext x0, e1, fun w1 G1 H1 y1 r1 => ⟨ρ, G1, x2, y1.gh, (ev.ext x0).ext y1, e2, fun w2 G2 H2 y2 r2 => ⟨ρ, G2, x3, y2.gh, ((ev.ext x0).ext y1).ext y2, e3, fun w3 G3 H3 y3 r3 => ?_⟩⟩⟩
  have hp1 := y1.hh p _ upd_same
  have hp3 : H3 p = some (.dK []) := y3.hh p _ (y2.hh p _ hp1)
  have gp1 := y1.keep gp upd_same
  have gp2 := y2.keep gp1 hp1
  have gp3 := y3.keep gp2 (y2.hh p _ hp1)
  refine ⟨hp3, [(.inr s1, w1), (.inr s2, w2), (.inr s3, w3)], rfl, (by show 3 ≤ 15; decide), ?_⟩
  rw [merge3 h12 h13 h23]
  have x3' := (x0.trans y1).trans (y2.trans y3)
  have x4 : Ext G H G3 (upd H3 p (.dK [(.inr s1, w1), (.inr s2, w2), (.inr s3, w3)])) := ⟨fun b u hb => by
    rw [upd_ne (ne_of_none hb hp)]; exact x3'.hh b u hb, x3'.gg, fun b u hb => by
    rw [upd_ne (ne_of_none hb gp3)]; exact x3'.gh b u hb, x3'.nw⟩
  refine ⟨p, rfl, .inl ⟨_, .inl upd_same⟩, ρ, G3, xk, x4.gh, ev.ext x4, ek', fun wk G4 H4 y4 r4 => ⟨ρ, G4, xd, y4.gh, (ev.ext x4).ext y4, ed', fun wd G5 H5 y5 r5 => ?_⟩⟩
  have hp5 : H5 p = some (.dK [(.inr s1, w1), (.inr s2, w2), (.inr s3, w3)]) := y5.hh p _ (y4.hh p _ upd_same)
  have x5 := (x4.trans y4).trans y5
  cases r4 with
  | str z hz =>
    cases hf
    refine ⟨_, DGet.k (k := Sum.inr z) hp5, ?_⟩
    have g45 := y4.gg.trans y5.gg
    by_cases z1 : s1 = z
    · rw [valV_pos (congrArg Sum.inr z1)]
      refine q _ G5 H5 x5 ?_
      rw [if_pos z1]
      exact r1.same ((y2.gg.trans y3.gg).trans g45)
    · rw [valV_neg (fun e => z1 (Sum.inr.inj e))]
      by_cases z2 : s2 = z
      · rw [valV_pos (congrArg Sum.inr z2)]
        refine q _ G5 H5 x5 ?_
        rw [if_neg z1, if_pos z2]
        exact r2.same (y3.gg.trans g45)
      · rw [valV_neg (fun e => z2 (Sum.inr.inj e))]
        by_cases z3 : s3 = z
        · rw [valV_pos (congrArg Sum.inr z3)]
          refine q _ G5 H5 x5 ?_
          rw [if_neg z1, if_neg z2, if_pos z3]
          exact r3.same g45
        · rw [valV_neg (fun e => z3 (Sum.inr.inj e)), valV_nil]
          refine q _ G5 H5 x5 ?_
          rw [if_neg z1, if_neg z2, if_neg z3]
          exact r5
  | _ => cases hf
end
end LT
/-! # Tx -/
/-! ### the text by its places -/
namespace LT
open PySem PySem.Spec PyProof.Rows L2
def top (i : Nat) : Stmt := PySem.Challenge.pw_lastthings_k17_whole_races_and_limits.main.body.getD i (.Pass ⟨0, 0, 0, 0⟩)
abbrev sisinteger : Stmt := top 1
abbrev sisin : Stmt := top 2
abbrev sislist : Stmt := top 3
abbrev sisplan : Stmt := top 15
abbrev spartsof : Stmt := top 16
abbrev sleavesin : Stmt := top 17
abbrev sneedplan : Stmt := top 18
abbrev sbegun : Stmt := top 23
abbrev sjoined : Stmt := top 24
abbrev sgathered : Stmt := top 25
abbrev sraced : Stmt := top 26
abbrev stimed : Stmt := top 27
abbrev slasted : Stmt := top 28
abbrev skept : Stmt := top 29
abbrev scalledoff : Stmt := top 30
abbrev srebuilt : Stmt := top 31
abbrev sstepsin : Stmt := top 32
abbrev sticked : Stmt := top 33
abbrev smovesin : Stmt := top 34
abbrev sneedrow : Stmt := top 35
abbrev sstandingsin : Stmt := top 36
abbrev sstandings : Stmt := top 37
abbrev sisrun : Stmt := top 38
abbrev siswhole : Stmt := top 39
abbrev sfirstwrong : Stmt := top 40
abbrev slabelsof : Stmt := top 41
abbrev snextlabels : Stmt := top 42
abbrev sLtaken : Stmt := top 44
abbrev sLpick : Stmt := top 45
abbrev sLleaf : Stmt := top 46
abbrev sLplan : Stmt := top 47
abbrev sLparts : Stmt := top 48
abbrev sLleaves : Stmt := top 49
abbrev sLall : Stmt := top 50
abbrev sLkeep : Stmt := top 51
abbrev sLjoin : Stmt := top 52
abbrev sLrace : Stmt := top 53
abbrev sLhold : Stmt := top 54
abbrev sLbegin : Stmt := top 55
abbrev sLoff : Stmt := top 56
abbrev sLaround : Stmt := top 57
abbrev sLsteps : Stmt := top 58
abbrev sLtick : Stmt := top 59
abbrev sLnext : Stmt := top 60
abbrev sLlabels : Stmt := top 61
abbrev sLdrawn : Stmt := top 62
abbrev sLmarked : Stmt := top 63
abbrev sLrenamed : Stmt := top 64
abbrev sLspoken : Stmt := top 65
abbrev slaw : Stmt := top 66
abbrev FnP (K : PySem.W.Frag) (x : Str) (st : Stmt) (f : Addr) (fd : FuncData) : Prop := FunD K x x (defArgs st) (defBody st) (defScope st) [] [] f fd
end LT
/-! # Df -/
namespace LT
open PySem PySem.Spec PyProof.Rows L2
/-! ## the defs that are functions of data -/
inductive Fn where
  | fisinteger
  | fisin
  | fislist
  | fisplan
  | fpartsof
  | fleavesin
  | fneedplan
  | fbegun
  | fjoined
  | fgathered
  | fraced
  | ftimed
  | flasted
  | fkept
  | fcalledoff
  | frebuilt
  | fstepsin
  | fticked
  | fmovesin
  | fneedrow
  | fstandingsin
  | fstandings
  | fisrun
  | fiswhole
  | ffirstwrong
  | flabelsof
  | fnextlabels
  | fLparts
  | fLleaves
  | fLall
  | fLkeep
  | fLjoin
  | fLrace
  | fLhold
  | fLbegin
  | fLoff
  | fLaround
  | fLsteps
  | fLtick
  | fLnext
  | fLlabels
  | fLspoken
abbrev Fns := Fn → List D → Option D
def Fn.nm : Fn → Str
  | .fisinteger => "is_integer"
  | .fisin => "is_in"
  | .fislist => "is_list"
  | .fisplan => "is_plan"
  | .fpartsof => "parts_of"
  | .fleavesin => "leaves_in"
  | .fneedplan => "need_plan"
  | .fbegun => "begun"
  | .fjoined => "joined"
  | .fgathered => "gathered"
  | .fraced => "raced"
  | .ftimed => "timed"
  | .flasted => "lasted"
  | .fkept => "kept"
  | .fcalledoff => "called_off"
  | .frebuilt => "rebuilt"
  | .fstepsin => "steps_in"
  | .fticked => "ticked"
  | .fmovesin => "moves_in"
  | .fneedrow => "need_row"
  | .fstandingsin => "standings_in"
  | .fstandings => "standings"
  | .fisrun => "is_run"
  | .fiswhole => "is_whole"
  | .ffirstwrong => "first_wrong"
  | .flabelsof => "labels_of"
  | .fnextlabels => "next_labels"
  | .fLparts => "_law_parts"
  | .fLleaves => "_law_leaves"
  | .fLall => "_law_all"
  | .fLkeep => "_law_keep"
  | .fLjoin => "_law_join"
  | .fLrace => "_law_race"
  | .fLhold => "_law_hold"
  | .fLbegin => "_law_begin"
  | .fLoff => "_law_off"
  | .fLaround => "_law_around"
  | .fLsteps => "_law_steps"
  | .fLtick => "_law_tick"
  | .fLnext => "_law_next"
  | .fLlabels => "_law_labels"
  | .fLspoken => "_law_spoken"
def Fn.ps : Fn → List Str
  | .fisinteger => ["value"]
  | .fisin => ["value", "least", "most"]
  | .fislist => ["value", "least", "most"]
  | .fisplan => ["plan", "deep", "holes"]
  | .fpartsof => ["plan"]
  | .fleavesin => ["plan"]
  | .fneedplan => ["plan"]
  | .fbegun => ["plan"]
  | .fjoined => ["term", "plans"]
  | .fgathered => ["terms"]
  | .fraced => ["terms"]
  | .ftimed => ["ticks", "term"]
  | .flasted => ["term", "plan"]
  | .fkept => ["term"]
  | .fcalledoff => ["term"]
  | .frebuilt => ["term", "part"]
  | .fstepsin => ["term", "came"]
  | .fticked => ["term"]
  | .fmovesin => ["standing", "label"]
  | .fneedrow => ["row"]
  | .fstandingsin => ["plan", "row"]
  | .fstandings => ["plan", "row"]
  | .fisrun => ["plan", "row"]
  | .fiswhole => ["plan", "row"]
  | .ffirstwrong => ["plan", "row"]
  | .flabelsof => ["standing", "events"]
  | .fnextlabels => ["plan", "row"]
  | .fLparts => ["_law_plan_here"]
  | .fLleaves => ["_law_plan_here"]
  | .fLall => ["_law_terms"]
  | .fLkeep => ["_law_term"]
  | .fLjoin => ["_law_term", "_law_plans"]
  | .fLrace => ["_law_terms"]
  | .fLhold => ["_law_head", "_law_term"]
  | .fLbegin => ["_law_plan_here"]
  | .fLoff => ["_law_term"]
  | .fLaround => ["_law_term", "_law_piece"]
  | .fLsteps => ["_law_term", "_law_came"]
  | .fLtick => ["_law_term"]
  | .fLnext => ["_law_here", "_law_label"]
  | .fLlabels => ["_law_here", "_law_coming"]
  | .fLspoken => ["_law_plan_here"]
def dt_SEVERAL : List D := [.str "then", .str "both", .str "first"]
def vt_SEVERAL : List V := [.str "then", .str "both", .str "first"]
theorem rt_SEVERAL {K : KF} {G : Hp} : RpL K G vt_SEVERAL dt_SEVERAL := (.cons (.str _ (by decide +kernel)) (.cons (.str _ (by decide +kernel)) (.cons (.str _ (by decide +kernel)) .nil)))
def dt_REST : List D := [.str "rest"]
def vt_REST : List V := [.str "rest"]
theorem rt_REST {K : KF} {G : Hp} : RpL K G vt_REST dt_REST := (.cons (.str _ (by decide +kernel)) .nil)
def dt_KINDS : List D := [.str "come", .str "off", .str "say", .str "take", .str "tick"]
def vt_KINDS : List V := [.str "come", .str "off", .str "say", .str "take", .str "tick"]
theorem rt_KINDS {K : KF} {G : Hp} : RpL K G vt_KINDS dt_KINDS := (.cons (.str _ (by decide +kernel)) (.cons (.str _ (by decide +kernel)) (.cons (.str _ (by decide +kernel)) (.cons (.str _ (by decide +kernel)) (.cons (.str _ (by decide +kernel)) .nil)))))
/-- the constants and the built-in names of the text -/
structure Txt (K : KF) (mg : Str → Option Value) : Prop where
  i_MOST_WORDS : ∃ t, mg "MOST_WORDS" = some (.int 8 t)
  i_MOST_EVENTS : ∃ t, mg "MOST_EVENTS" = some (.int 4 t)
  i_MOST_TICKS : ∃ t, mg "MOST_TICKS" = some (.int 3 t)
  i_MOST_DEEP : ∃ t, mg "MOST_DEEP" = some (.int 8 t)
  i_MOST_LEAVES : ∃ t, mg "MOST_LEAVES" = some (.int 12 t)
  i_MOST_ROW : ∃ t, mg "MOST_ROW" = some (.int 40 t)
  t_SEVERAL : ∃ a, mg "SEVERAL" = some (.ref a) ∧ ∀ H, SqT K H a vt_SEVERAL
  t_REST : ∃ a, mg "REST" = some (.ref a) ∧ ∀ H, SqT K H a vt_REST
  t_KINDS : ∃ a, mg "KINDS" = some (.ref a) ∧ ∀ H, SqT K H a vt_KINDS
  z_isinstance : mg "isinstance" = none
  z_int : mg "int" = none
  z_bool : mg "bool" = none
  z_tuple : mg "tuple" = none
  z_str : mg "str" = none
  z_len : mg "len" = none
  z_all : mg "all" = none
  z_any : mg "any" = none
  z_sorted : mg "sorted" = none
  z_set : mg "set" = none
  z_list : mg "list" = none
  z_enumerate : mg "enumerate" = none
  z_range : mg "range" = none
/-- value, -/
def g_fisinteger (c : Fns) : FS := (sRet (vAnd (cB (isH .int) (cV 0)) (vNot (cB (isH .bool) (cV 0)))))
/-- value, least, most -/
def g_fisin (c : Fns) : FS := (sRet (vAnd (cCall 1 (c .fisinteger) (cCons (cV 0) cNil)) (chn2 (intH fun i j => decide (i ≤ j)) (intH fun i j => decide (i ≤ j)) (cV 1) (cV 0) (cV 2))))
/-- value, least, most -/
def g_fislist (c : Fns) : FS := (sRet (vAnd (cB (isH .tuple) (cV 0)) (chn2 (intH fun i j => decide (i ≤ j)) (intH fun i j => decide (i ≤ j)) (cV 1) (cB lenH (cV 0)) (cV 2))))
/-- plan, deep, holes, kind, rest, part -/
def g_fisplan (c : Fns) : FS := (sSeq (sIf (bOr (cmpB eqH (cV 1) (cK (.int 0))) (bOr (bNot (bV (cCall 3 (c .fislist) (cCons (cV 0) (cCons (cK (.int 1)) (cCons (bin2 addH (cK (.int 12)) (cK (.int 1))) cNil)))))) (bNot (bV (cB (isH .str) (bin2 atH (cV 0) (cK (.int 0)))))))) (sRet (cK (.bool false))) sNil)
    (sSeq (sPar 3 4 (cCons (bin2 atH (cV 0) (cK (.int 0))) (cCons (cSl (cV 0) (cPt (cK (.int 1))) cNo) cNil)))
    (sSeq (sIf (bOr (cmpB eqH (cV 3) (cK (.str "rest"))) (bAnd (cmpB eqH (cV 3) (cK (.str "hole"))) (bV (cV 2)))) (sRet (cmp2 eqH (cV 4) (cTup cNil))) sNil)
    (sSeq (sIf (cmpB eqH (cV 3) (cK (.str "say"))) (sRet (vAnd (cmp2 eqH (cB lenH (cV 4)) (cK (.int 1))) (cCall 3 (c .fisin) (cCons (bin2 atH (cV 4) (cK (.int 0))) (cCons (cK (.int 0)) (cCons (bin2 subH (cK (.int 8)) (cK (.int 1))) cNil)))))) sNil)
    (sSeq (sIf (cmpB eqH (cV 3) (cK (.str "wait"))) (sRet (vAnd (cmp2 eqH (cB lenH (cV 4)) (cK (.int 1))) (cCall 3 (c .fisin) (cCons (bin2 atH (cV 4) (cK (.int 0))) (cCons (cK (.int 0)) (cCons (bin2 subH (cK (.int 4)) (cK (.int 1))) cNil)))))) sNil)
    (sSeq (sIf (cmpB inH (cV 3) (cK (.tuple dt_SEVERAL))) (sRet (vAnd (cmp2 (intH fun i j => decide (j < i)) (cB lenH (cV 4)) (cK (.int 1))) (cB allH (cLc (itT (cV 4)) (bdN 5) bYes (cCall 3 (c .fisplan) (cCons (cV 5) (cCons (bin2 subH (cV 1) (cK (.int 1))) (cCons (cV 2) cNil)))) [5])))) sNil)
    (sSeq (sIf (cmpB eqH (cV 3) (cK (.str "within"))) (sRet (vAnd (cmp2 eqH (cB lenH (cV 4)) (cK (.int 2))) (vAnd (cCall 3 (c .fisin) (cCons (bin2 atH (cV 4) (cK (.int 0))) (cCons (cK (.int 1)) (cCons (cK (.int 3)) cNil)))) (cCall 3 (c .fisplan) (cCons (bin2 atH (cV 4) (cK (.int 1))) (cCons (bin2 subH (cV 1) (cK (.int 1))) (cCons (cV 2) cNil))))))) sNil)
    (sSeq (sIf (cmpB eqH (cV 3) (cK (.str "last"))) (sRet (vAnd (cmp2 eqH (cB lenH (cV 4)) (cK (.int 2))) (vAnd (cCall 3 (c .fisplan) (cCons (bin2 atH (cV 4) (cK (.int 0))) (cCons (bin2 subH (cV 1) (cK (.int 1))) (cCons (cV 2) cNil)))) (cCall 3 (c .fisplan) (cCons (bin2 atH (cV 4) (cK (.int 1))) (cCons (bin2 subH (cV 1) (cK (.int 1))) (cCons (cV 2) cNil))))))) sNil)
    (sRet (vAnd (cmp2 eqH (cV 3) (cK (.str "shield"))) (vAnd (cmp2 eqH (cB lenH (cV 4)) (cK (.int 1))) (cCall 3 (c .fisplan) (cCons (bin2 atH (cV 4) (cK (.int 0))) (cCons (bin2 subH (cV 1) (cK (.int 1))) (cCons (cV 2) cNil)))))))))))))))
/-- plan, -/
def g_fpartsof (c : Fns) : FS := (sSeq (sIf (cmpB inH (bin2 atH (cV 0) (cK (.int 0))) (cTup (cCons (cK (.str "rest")) (cCons (cK (.str "hole")) (cCons (cK (.str "say")) (cCons (cK (.str "wait")) cNil)))))) (sRet (cTup cNil)) sNil)
    (sRet (cIf (cmpB eqH (bin2 atH (cV 0) (cK (.int 0))) (cK (.str "within"))) (cSl (cV 0) (cPt (cK (.int 2))) cNo) (cSl (cV 0) (cPt (cK (.int 1))) cNo))))
/-- plan, found, part -/
def g_fleavesin (c : Fns) : FS := (sSeq (sIf (cmpB eqH (cCall 1 (c .fpartsof) (cCons (cV 0) cNil)) (cTup cNil)) (sRet (cLst (cCons (cV 0) cNil))) sNil)
    (sSeq (sNew 1)
    (sSeq (sFor (itT (cCall 1 (c .fpartsof) (cCons (cV 0) cNil))) (bdN 2) (sExt 1 (cCall 1 (c .fleavesin) (cCons (cV 2) cNil))))
    (sFrz 1 (sRet (cV 1))))))
/-- plan, -/
def g_fneedplan (c : Fns) : FS := (sIf (bOr (bNot (bV (cCall 3 (c .fisplan) (cCons (cV 0) (cCons (cK (.int 8)) (cCons (cK (.bool false)) cNil)))))) (cmpB (intH fun i j => decide (j < i)) (cB lenH (cCall 1 (c .fleavesin) (cCons (cV 0) cNil))) (cK (.int 12)))) sNever sNil)
/-- plan, kind, part -/
def g_fbegun (c : Fns) : FS := (sSeq (sSet 1 (bin2 atH (cV 0) (cK (.int 0))))
    (sSeq (sIf (cmpB inH (cV 1) (cTup (cCons (cK (.str "rest")) (cCons (cK (.str "say")) (cCons (cK (.str "wait")) cNil))))) (sRet (cV 0)) sNil)
    (sSeq (sIf (cmpB eqH (cV 1) (cK (.str "then"))) (sRet (cCall 2 (c .fjoined) (cCons (cCall 1 (c .fbegun) (cCons (bin2 atH (cV 0) (cK (.int 1))) cNil)) (cCons (cSl (cV 0) (cPt (cK (.int 2))) cNo) cNil)))) sNil)
    (sSeq (sIf (cmpB eqH (cV 1) (cK (.str "both"))) (sRet (cCall 1 (c .fgathered) (cCons (cLc (itT (cSl (cV 0) (cPt (cK (.int 1))) cNo)) (bdN 2) bYes (cCall 1 (c .fbegun) (cCons (cV 2) cNil)) [2]) cNil))) sNil)
    (sSeq (sIf (cmpB eqH (cV 1) (cK (.str "first"))) (sRet (cCall 1 (c .fraced) (cCons (cLc (itT (cSl (cV 0) (cPt (cK (.int 1))) cNo)) (bdN 2) bYes (cCall 1 (c .fbegun) (cCons (cV 2) cNil)) [2]) cNil))) sNil)
    (sSeq (sIf (cmpB eqH (cV 1) (cK (.str "within"))) (sRet (cCall 2 (c .ftimed) (cCons (bin2 atH (cV 0) (cK (.int 1))) (cCons (cCall 1 (c .fbegun) (cCons (bin2 atH (cV 0) (cK (.int 2))) cNil)) cNil)))) sNil)
    (sRet (cIf (cmpB eqH (cV 1) (cK (.str "last"))) (cCall 2 (c .flasted) (cCons (cCall 1 (c .fbegun) (cCons (bin2 atH (cV 0) (cK (.int 1))) cNil)) (cCons (bin2 atH (cV 0) (cK (.int 2))) cNil))) (cCall 1 (c .fkept) (cCons (cCall 1 (c .fbegun) (cCons (bin2 atH (cV 0) (cK (.int 1))) cNil)) cNil))))))))))
/-- term, plans -/
def g_fjoined (c : Fns) : FS := (sSeq (sIf (cmpB eqH (cV 1) (cTup cNil)) (sRet (cV 0)) sNil)
    (sRet (cIf (cmpB eqH (cV 0) (cK (.tuple dt_REST))) (cCall 2 (c .fjoined) (cCons (cCall 1 (c .fbegun) (cCons (bin2 atH (cV 1) (cK (.int 0))) cNil)) (cCons (cSl (cV 1) (cPt (cK (.int 1))) cNo) cNil))) (cTup (cCons (cK (.str "then")) (cCons (cV 0) (cStar (cV 1) cNil)))))))
/-- terms, some, term -/
def g_fgathered (c : Fns) : FS := (sSeq (sSet 1 (cLc (itL (cV 0)) (bdN 2) (cmpB neH (cV 2) (cK (.tuple dt_REST))) (cV 2) [2]))
    (sSeq (sIf (cmpB (intH fun i j => decide (i < j)) (cB lenH (cV 1)) (cK (.int 2))) (sRet (cIf (cmpB neH (cV 1) (cLst cNil)) (bin2 atH (cV 1) (cK (.int 0))) (cK (.tuple dt_REST)))) sNil)
    (sRet (cTup (cCons (cK (.str "both")) (cStar (cV 1) cNil))))))
/-- terms, term -/
def g_fraced (c : Fns) : FS := (sSeq (sIf (cmpB inH (cK (.tuple dt_REST)) (cV 0)) (sRet (cCall 1 (c .fgathered) (cCons (cLc (itL (cV 0)) (bdN 1) bYes (cCall 1 (c .fcalledoff) (cCons (cV 1) cNil)) [1]) cNil))) sNil)
    (sRet (cTup (cCons (cK (.str "first")) (cStar (cV 0) cNil)))))
/-- ticks, term -/
def g_ftimed (c : Fns) : FS := (sRet (cIf (cmpB neH (cV 1) (cK (.tuple dt_REST))) (cTup (cCons (cK (.str "within")) (cCons (cV 0) (cCons (cV 1) cNil)))) (cK (.tuple dt_REST))))
/-- term, plan -/
def g_flasted (c : Fns) : FS := (sRet (cIf (cmpB neH (cV 0) (cK (.tuple dt_REST))) (cTup (cCons (cK (.str "last")) (cCons (cV 0) (cCons (cV 1) cNil)))) (cCall 1 (c .fkept) (cCons (cCall 1 (c .fbegun) (cCons (cV 1) cNil)) cNil))))
/-- term, -/
def g_fkept (c : Fns) : FS := (sRet (cIf (bOr (cmpB eqH (cV 0) (cK (.tuple dt_REST))) (cmpB eqH (bin2 atH (cV 0) (cK (.int 0))) (cK (.str "keep")))) (cV 0) (cTup (cCons (cK (.str "keep")) (cCons (cV 0) cNil)))))
/-- term, kind, part -/
def g_fcalledoff (c : Fns) : FS := (sSeq (sSet 1 (bin2 atH (cV 0) (cK (.int 0))))
    (sSeq (sIf (cmpB inH (cV 1) (cTup (cCons (cK (.str "rest")) (cCons (cK (.str "say")) (cCons (cK (.str "wait")) cNil))))) (sRet (cK (.tuple dt_REST))) sNil)
    (sSeq (sIf (cmpB eqH (cV 1) (cK (.str "then"))) (sRet (cCall 1 (c .fcalledoff) (cCons (bin2 atH (cV 0) (cK (.int 1))) cNil))) sNil)
    (sSeq (sIf (cmpB inH (cV 1) (cTup (cCons (cK (.str "both")) (cCons (cK (.str "first")) cNil)))) (sRet (cCall 1 (c .fgathered) (cCons (cLc (itT (cSl (cV 0) (cPt (cK (.int 1))) cNo)) (bdN 2) bYes (cCall 1 (c .fcalledoff) (cCons (cV 2) cNil)) [2]) cNil))) sNil)
    (sSeq (sIf (cmpB eqH (cV 1) (cK (.str "within"))) (sRet (cCall 1 (c .fcalledoff) (cCons (bin2 atH (cV 0) (cK (.int 2))) cNil))) sNil)
    (sRet (cIf (cmpB eqH (cV 1) (cK (.str "last"))) (cCall 2 (c .flasted) (cCons (cCall 1 (c .fcalledoff) (cCons (bin2 atH (cV 0) (cK (.int 1))) cNil)) (cCons (bin2 atH (cV 0) (cK (.int 2))) cNil))) (cV 0))))))))
/-- term, part, kind -/
def g_frebuilt (c : Fns) : FS := (sSeq (sSet 2 (bin2 atH (cV 0) (cK (.int 0))))
    (sSeq (sIf (cmpB eqH (cV 2) (cK (.str "then"))) (sRet (cCall 2 (c .fjoined) (cCons (cV 1) (cCons (cSl (cV 0) (cPt (cK (.int 2))) cNo) cNil)))) sNil)
    (sSeq (sIf (cmpB eqH (cV 2) (cK (.str "within"))) (sRet (cCall 2 (c .ftimed) (cCons (bin2 atH (cV 0) (cK (.int 1))) (cCons (cV 1) cNil)))) sNil)
    (sRet (cIf (cmpB eqH (cV 2) (cK (.str "last"))) (cCall 2 (c .flasted) (cCons (cV 1) (cCons (bin2 atH (cV 0) (cK (.int 2))) cNil))) (cCall 1 (c .fkept) (cCons (cV 1) cNil)))))))
/-- term, came, kind, found, at, part, label, later, some -/
def g_fstepsin (c : Fns) : FS := (sSeq (sSet 2 (bin2 atH (cV 0) (cK (.int 0))))
    (sSeq (sIf (cmpB eqH (cV 2) (cK (.str "say"))) (sRet (cLst (cCons (cTup (cCons (cV 0) (cCons (cK (.tuple dt_REST)) cNil))) cNil))) sNil)
    (sSeq (sIf (bOr (cmpB eqH (cV 2) (cK (.str "rest"))) (bAnd (cmpB eqH (cV 2) (cK (.str "wait"))) (cmpB niH (bin2 atH (cV 0) (cK (.int 1))) (cV 1)))) (sRet (cLst cNil)) sNil)
    (sSeq (sIf (cmpB eqH (cV 2) (cK (.str "wait"))) (sRet (cLst (cCons (cTup (cCons (cTup (cCons (cK (.str "take")) (cCons (bin2 atH (cV 0) (cK (.int 1))) cNil))) (cCons (cK (.tuple dt_REST)) cNil))) cNil))) sNil)
    (sSeq (sIf (cmpB inH (cV 2) (cTup (cCons (cK (.str "both")) (cCons (cK (.str "first")) cNil)))) (sSeq (sNew 3)
    (sSeq (sFor (itEnum (cSl (cV 0) (cPt (cK (.int 1))) cNo)) (bdT [4, 5]) (sFor (itL (cCall 2 (c .fstepsin) (cCons (cV 5) (cCons (cV 1) cNil)))) (bdT [6, 7]) (sSeq (sSet 8 (cLst (cStar (cSl (cV 0) (cPt (cK (.int 1))) (cPt (bin2 addH (cV 4) (cK (.int 1))))) (cCons (cV 7) (cStar (cSl (cV 0) (cPt (bin2 addH (cV 4) (cK (.int 2)))) cNo) cNil)))))
    (sApp 3 (cTup (cCons (cV 6) (cCons (cIf (cmpB eqH (cV 2) (cK (.str "both"))) (cCall 1 (c .fgathered) (cCons (cV 8) cNil)) (cCall 1 (c .fraced) (cCons (cV 8) cNil))) cNil)))))))
    (sFrz 3 (sRet (cV 3))))) sNil)
    (sSeq (sSet 5 (cIf (cmpB eqH (cV 2) (cK (.str "within"))) (bin2 atH (cV 0) (cK (.int 2))) (bin2 atH (cV 0) (cK (.int 1)))))
    (sRet (cLc (itL (cCall 2 (c .fstepsin) (cCons (cV 5) (cCons (cV 1) cNil)))) (bdT [6, 7]) bYes (cTup (cCons (cV 6) (cCons (cCall 2 (c .frebuilt) (cCons (cV 0) (cCons (cV 7) cNil))) cNil))) [6, 7]))))))))
/-- term, kind, part, later -/
def g_fticked (c : Fns) : FS := (sSeq (sSet 1 (bin2 atH (cV 0) (cK (.int 0))))
    (sSeq (sIf (cmpB inH (cV 1) (cTup (cCons (cK (.str "rest")) (cCons (cK (.str "say")) (cCons (cK (.str "wait")) cNil))))) (sRet (cV 0)) sNil)
    (sSeq (sIf (cmpB eqH (cV 1) (cK (.str "both"))) (sRet (cCall 1 (c .fgathered) (cCons (cLc (itT (cSl (cV 0) (cPt (cK (.int 1))) cNo)) (bdN 2) bYes (cCall 1 (c .fticked) (cCons (cV 2) cNil)) [2]) cNil))) sNil)
    (sSeq (sIf (cmpB eqH (cV 1) (cK (.str "first"))) (sRet (cCall 1 (c .fraced) (cCons (cLc (itT (cSl (cV 0) (cPt (cK (.int 1))) cNo)) (bdN 2) bYes (cCall 1 (c .fticked) (cCons (cV 2) cNil)) [2]) cNil))) sNil)
    (sSeq (sIf (cmpB eqH (cV 1) (cK (.str "within"))) (sSeq (sSet 3 (cCall 1 (c .fticked) (cCons (bin2 atH (cV 0) (cK (.int 2))) cNil)))
    (sRet (cIf (cmpB (intH fun i j => decide (j < i)) (bin2 atH (cV 0) (cK (.int 1))) (cK (.int 1))) (cCall 2 (c .ftimed) (cCons (bin2 subH (bin2 atH (cV 0) (cK (.int 1))) (cK (.int 1))) (cCons (cV 3) cNil))) (cCall 1 (c .fcalledoff) (cCons (cV 3) cNil))))) sNil)
    (sRet (cCall 2 (c .frebuilt) (cCons (cV 0) (cCons (cCall 1 (c .fticked) (cCons (bin2 atH (cV 0) (cK (.int 1))) cNil)) cNil)))))))))
/-- standing, label, term, came, gone, other, later -/
def g_fmovesin (c : Fns) : FS := (sSeq (sBd (bdT [2, 3, 4]) (cV 0))
    (sSeq (sIf (cmpB eqH (cV 2) (cK (.tuple dt_REST))) (sRet (cLst cNil)) sNil)
    (sSeq (sIf (cmpB eqH (bin2 atH (cV 1) (cK (.int 0))) (cK (.str "come"))) (sRet (cIf (cmpB niH (bin2 atH (cV 1) (cK (.int 1))) (cV 3)) (cLst (cCons (cTup (cCons (cV 2) (cCons (cB tupleH (cB sortH (cLst (cStar (cV 3) (cCons (bin2 atH (cV 1) (cK (.int 1))) cNil))))) (cCons (cV 4) cNil)))) cNil)) (cLst cNil))) sNil)
    (sSeq (sIf (cmpB eqH (bin2 atH (cV 1) (cK (.int 0))) (cK (.str "tick"))) (sRet (cLst (cCons (cTup (cCons (cCall 1 (c .fticked) (cCons (cV 2) cNil)) (cCons (cV 3) (cCons (cV 4) cNil)))) cNil))) sNil)
    (sSeq (sIf (cmpB eqH (bin2 atH (cV 1) (cK (.int 0))) (cK (.str "off"))) (sRet (cIf (cmpB eqH (cV 4) (cK (.int 0))) (cLst (cCons (cTup (cCons (cCall 1 (c .fcalledoff) (cCons (cV 2) cNil)) (cCons (cV 3) (cCons (cK (.int 1)) cNil)))) cNil)) (cLst cNil))) sNil)
    (sRet (cB sortSetH (cLc (itL (cCall 2 (c .fstepsin) (cCons (cV 2) (cCons (cV 3) cNil)))) (bdT [5, 6]) (cmpB eqH (cV 5) (cV 1)) (cTup (cCons (cV 6) (cCons (cV 3) (cCons (cV 4) cNil)))) [5, 6]))))))))
/-- row, index, label, most -/
def g_fneedrow (c : Fns) : FS := (sSeq (sIf (bNot (bV (cCall 3 (c .fislist) (cCons (cV 0) (cCons (cK (.int 0)) (cCons (cK (.int 40)) cNil)))))) sNever sNil)
    (sFor (itEnum (cV 0)) (bdT [1, 2]) (sSeq (sIf (bOr (bNot (bV (cCall 3 (c .fislist) (cCons (cV 2) (cCons (cK (.int 2)) (cCons (cK (.int 2)) cNil)))))) (bOr (bNot (bV (cB (isH .str) (bin2 atH (cV 2) (cK (.int 0)))))) (cmpB niH (bin2 atH (cV 2) (cK (.int 0))) (cK (.tuple dt_KINDS))))) sNever sNil)
    (sSeq (sSet 3 (cDG "say" (cK (.int 8)) "take" (cK (.int 4)) "come" (cK (.int 4)) (bin2 atH (cV 2) (cK (.int 0))) (cK (.int 1))))
    (sIf (bNot (bV (cCall 3 (c .fisin) (cCons (bin2 atH (cV 2) (cK (.int 1))) (cCons (cK (.int 0)) (cCons (bin2 subH (cV 3) (cK (.int 1))) cNil)))))) sNever sNil)))))
/-- plan, row, found, label, later, standing -/
def g_fstandingsin (c : Fns) : FS := (sSeq (sSet 2 (cLst (cCons (cTup (cCons (cCall 1 (c .fbegun) (cCons (cV 0) cNil)) (cCons (cTup cNil) (cCons (cK (.int 0)) cNil)))) cNil)))
    (sSeq (sFor (itT (cV 1)) (bdN 3) (sSeq (sNew 4)
    (sSeq (sFor (itL (cV 2)) (bdN 5) (sExt 4 (cCall 2 (c .fmovesin) (cCons (cV 5) (cCons (cV 3) cNil)))))
    (sFrz 4 (sSet 2 (cB sortSetH (cV 4)))))))
    (sRet (cV 2))))
/-- plan, row -/
def g_fstandings (c : Fns) : FS := (sSeq (sDrop (cCall 1 (c .fneedplan) (cCons (cV 0) cNil)))
    (sSeq (sDrop (cCall 1 (c .fneedrow) (cCons (cV 1) cNil)))
    (sRet (cCall 2 (c .fstandingsin) (cCons (cV 0) (cCons (cV 1) cNil))))))
/-- plan, row -/
def g_fisrun (c : Fns) : FS := (sRet (cmp2 neH (cCall 2 (c .fstandings) (cCons (cV 0) (cCons (cV 1) cNil))) (cLst cNil)))
/-- plan, row, term, came, gone -/
def g_fiswhole (c : Fns) : FS := (sRet (cB anyH (cLc (itL (cCall 2 (c .fstandings) (cCons (cV 0) (cCons (cV 1) cNil)))) (bdT [2, 3, 4]) bYes (cmp2 eqH (cV 2) (cK (.tuple dt_REST))) [2, 3, 4])))
/-- plan, row, at -/
def g_ffirstwrong (c : Fns) : FS := (sSeq (sDrop (cCall 1 (c .fneedplan) (cCons (cV 0) cNil)))
    (sSeq (sDrop (cCall 1 (c .fneedrow) (cCons (cV 1) cNil)))
    (sSeq (sFor (itR1 (cB lenH (cV 1))) (bdN 2) (sIf (cmpB eqH (cCall 2 (c .fstandingsin) (cCons (cV 0) (cCons (cSl (cV 1) cNo (cPt (bin2 addH (cV 2) (cK (.int 1))))) cNil))) (cLst cNil)) (sRet (cV 2)) sNil))
    (sRet (cK .none)))))
/-- standing, events, term, came, gone, found, event, label, later -/
def g_flabelsof (c : Fns) : FS := (sSeq (sBd (bdT [2, 3, 4]) (cV 0))
    (sSeq (sIf (cmpB eqH (cV 2) (cK (.tuple dt_REST))) (sRet (cLst cNil)) sNil)
    (sSeq (sCat 5 (cLc (itL (cV 1)) (bdN 6) (cmpB niH (cV 6) (cV 3)) (cTup (cCons (cK (.str "come")) (cCons (cV 6) cNil))) [6]) (cLst (cCons (cTup (cCons (cK (.str "tick")) (cCons (cK (.int 0)) cNil))) cNil)))
    (sSeq (sIf (cmpB eqH (cV 4) (cK (.int 0))) (sApp 5 (cTup (cCons (cK (.str "off")) (cCons (cK (.int 0)) cNil)))) sNil)
    (sFrz 5 (sRet (cB sortSetH (bin2 addH (cV 5) (cLc (itL (cCall 2 (c .fstepsin) (cCons (cV 2) (cCons (cV 3) cNil)))) (bdT [7, 8]) bYes (cV 7) [7, 8])))))))))
/-- _law_plan_here, -/
def g_fLparts (c : Fns) : FS := (sSeq (sIf (cmpB inH (bin2 atH (cV 0) (cK (.int 0))) (cLst (cCons (cK (.str "rest")) (cCons (cK (.str "say")) (cCons (cK (.str "wait")) (cCons (cK (.str "hole")) cNil)))))) (sRet (cTup cNil)) sNil)
    (sRet (cIf (cmpB eqH (bin2 atH (cV 0) (cK (.int 0))) (cK (.str "within"))) (cSl (cV 0) (cPt (cK (.int 2))) cNo) (cSl (cV 0) (cPt (cK (.int 1))) cNo))))
/-- _law_plan_here, _law_found, _law_piece -/
def g_fLleaves (c : Fns) : FS := (sSeq (sSet 1 (cIf (cmpB eqH (cCall 1 (c .fLparts) (cCons (cV 0) cNil)) (cTup cNil)) (cLst (cCons (cV 0) cNil)) (cLst cNil)))
    (sSeq (sFor (itT (cCall 1 (c .fLparts) (cCons (cV 0) cNil))) (bdN 2) (sSet 1 (bin2 addH (cV 1) (cCall 1 (c .fLleaves) (cCons (cV 2) cNil)))))
    (sRet (cV 1))))
/-- _law_terms, _law_some, _law_term -/
def g_fLall (c : Fns) : FS := (sSeq (sSet 1 (cLc (itL (cV 0)) (bdN 2) (cmpB neH (cV 2) (cTup (cCons (cK (.str "rest")) cNil))) (cV 2) [2]))
    (sRet (cIf (cmpB (intH fun i j => decide (j < i)) (cB lenH (cV 1)) (cK (.int 1))) (bin2 addH (cTup (cCons (cK (.str "both")) cNil)) (cB tupleH (cV 1))) (cIf (cmpB neH (cV 1) (cLst cNil)) (bin2 atH (cV 1) (cK (.int 0))) (cTup (cCons (cK (.str "rest")) cNil))))))
/-- _law_term, -/
def g_fLkeep (c : Fns) : FS := (sRet (cIf (cmpB inH (bin2 atH (cV 0) (cK (.int 0))) (cLst (cCons (cK (.str "rest")) (cCons (cK (.str "keep")) cNil)))) (cV 0) (cTup (cCons (cK (.str "keep")) (cCons (cV 0) cNil)))))
/-- _law_term, _law_plans -/
def g_fLjoin (c : Fns) : FS := (sSeq (sIf (cmpB eqH (cV 1) (cTup cNil)) (sRet (cV 0)) sNil)
    (sRet (cIf (cmpB eqH (cV 0) (cTup (cCons (cK (.str "rest")) cNil))) (cCall 2 (c .fLjoin) (cCons (cCall 1 (c .fLbegin) (cCons (bin2 atH (cV 1) (cK (.int 0))) cNil)) (cCons (cSl (cV 1) (cPt (cK (.int 1))) cNo) cNil))) (bin2 addH (cTup (cCons (cK (.str "then")) (cCons (cV 0) cNil))) (cV 1)))))
/-- _law_terms, _law_term -/
def g_fLrace (c : Fns) : FS := (sSeq (sIf (cmpB inH (cTup (cCons (cK (.str "rest")) cNil)) (cV 0)) (sRet (cCall 1 (c .fLall) (cCons (cLc (itL (cV 0)) (bdN 1) bYes (cCall 1 (c .fLoff) (cCons (cV 1) cNil)) [1]) cNil))) sNil)
    (sRet (bin2 addH (cTup (cCons (cK (.str "first")) cNil)) (cB tupleH (cV 0)))))
/-- _law_head, _law_term -/
def g_fLhold (c : Fns) : FS := (sSeq (sIf (cmpB eqH (bin2 atH (cV 0) (cK (.int 0))) (cK (.str "within"))) (sRet (cIf (cmpB neH (cV 1) (cTup (cCons (cK (.str "rest")) cNil))) (cTup (cCons (cK (.str "within")) (cCons (bin2 atH (cV 0) (cK (.int 1))) (cCons (cV 1) cNil)))) (cV 1))) sNil)
    (sSeq (sIf (cmpB eqH (bin2 atH (cV 0) (cK (.int 0))) (cK (.str "last"))) (sRet (cIf (cmpB neH (cV 1) (cTup (cCons (cK (.str "rest")) cNil))) (cTup (cCons (cK (.str "last")) (cCons (cV 1) (cCons (bin2 atH (cV 0) (cK (.int 1))) cNil)))) (cCall 1 (c .fLkeep) (cCons (cCall 1 (c .fLbegin) (cCons (bin2 atH (cV 0) (cK (.int 1))) cNil)) cNil)))) sNil)
    (sRet (cCall 1 (c .fLkeep) (cCons (cV 1) cNil)))))
/-- _law_plan_here, _law_some, _law_piece -/
def g_fLbegin (c : Fns) : FS := (sSeq (sIf (cmpB inH (bin2 atH (cV 0) (cK (.int 0))) (cLst (cCons (cK (.str "rest")) (cCons (cK (.str "say")) (cCons (cK (.str "wait")) cNil))))) (sRet (cV 0)) sNil)
    (sSeq (sIf (cmpB eqH (bin2 atH (cV 0) (cK (.int 0))) (cK (.str "then"))) (sRet (cCall 2 (c .fLjoin) (cCons (cCall 1 (c .fLbegin) (cCons (bin2 atH (cV 0) (cK (.int 1))) cNil)) (cCons (cSl (cV 0) (cPt (cK (.int 2))) cNo) cNil)))) sNil)
    (sSeq (sIf (cmpB inH (bin2 atH (cV 0) (cK (.int 0))) (cLst (cCons (cK (.str "both")) (cCons (cK (.str "first")) cNil)))) (sSeq (sSet 1 (cLc (itT (cSl (cV 0) (cPt (cK (.int 1))) cNo)) (bdN 2) bYes (cCall 1 (c .fLbegin) (cCons (cV 2) cNil)) [2]))
    (sRet (cIf (cmpB eqH (bin2 atH (cV 0) (cK (.int 0))) (cK (.str "both"))) (cCall 1 (c .fLall) (cCons (cV 1) cNil)) (cCall 1 (c .fLrace) (cCons (cV 1) cNil))))) sNil)
    (sSeq (sIf (cmpB eqH (bin2 atH (cV 0) (cK (.int 0))) (cK (.str "within"))) (sRet (cCall 2 (c .fLhold) (cCons (cTup (cCons (cK (.str "within")) (cCons (bin2 atH (cV 0) (cK (.int 1))) cNil))) (cCons (cCall 1 (c .fLbegin) (cCons (bin2 atH (cV 0) (cK (.int 2))) cNil)) cNil)))) sNil)
    (sRet (cCall 2 (c .fLhold) (cCons (cIf (cmpB eqH (bin2 atH (cV 0) (cK (.int 0))) (cK (.str "last"))) (cTup (cCons (cK (.str "last")) (cCons (bin2 atH (cV 0) (cK (.int 2))) cNil))) (cTup (cCons (cK (.str "shield")) cNil))) (cCons (cCall 1 (c .fLbegin) (cCons (bin2 atH (cV 0) (cK (.int 1))) cNil)) cNil))))))))
/-- _law_term, _law_piece -/
def g_fLoff (c : Fns) : FS := (sSeq (sIf (cmpB inH (bin2 atH (cV 0) (cK (.int 0))) (cLst (cCons (cK (.str "rest")) (cCons (cK (.str "say")) (cCons (cK (.str "wait")) cNil))))) (sRet (cTup (cCons (cK (.str "rest")) cNil))) sNil)
    (sSeq (sIf (cmpB inH (bin2 atH (cV 0) (cK (.int 0))) (cLst (cCons (cK (.str "both")) (cCons (cK (.str "first")) cNil)))) (sRet (cCall 1 (c .fLall) (cCons (cLc (itT (cSl (cV 0) (cPt (cK (.int 1))) cNo)) (bdN 1) bYes (cCall 1 (c .fLoff) (cCons (cV 1) cNil)) [1]) cNil))) sNil)
    (sSeq (sIf (cmpB eqH (bin2 atH (cV 0) (cK (.int 0))) (cK (.str "last"))) (sRet (cCall 2 (c .fLhold) (cCons (cTup (cCons (cK (.str "last")) (cCons (bin2 atH (cV 0) (cK (.int 2))) cNil))) (cCons (cCall 1 (c .fLoff) (cCons (bin2 atH (cV 0) (cK (.int 1))) cNil)) cNil)))) sNil)
    (sRet (cIf (cmpB eqH (bin2 atH (cV 0) (cK (.int 0))) (cK (.str "keep"))) (cV 0) (cCall 1 (c .fLoff) (cCons (cIf (cmpB eqH (bin2 atH (cV 0) (cK (.int 0))) (cK (.str "within"))) (bin2 atH (cV 0) (cK (.int 2))) (bin2 atH (cV 0) (cK (.int 1)))) cNil)))))))
/-- _law_term, _law_piece -/
def g_fLaround (c : Fns) : FS := (sSeq (sIf (cmpB eqH (bin2 atH (cV 0) (cK (.int 0))) (cK (.str "then"))) (sRet (cCall 2 (c .fLjoin) (cCons (cV 1) (cCons (cSl (cV 0) (cPt (cK (.int 2))) cNo) cNil)))) sNil)
    (sSeq (sIf (cmpB eqH (bin2 atH (cV 0) (cK (.int 0))) (cK (.str "within"))) (sRet (cCall 2 (c .fLhold) (cCons (cTup (cCons (cK (.str "within")) (cCons (bin2 atH (cV 0) (cK (.int 1))) cNil))) (cCons (cV 1) cNil)))) sNil)
    (sRet (cCall 2 (c .fLhold) (cCons (cIf (cmpB eqH (bin2 atH (cV 0) (cK (.int 0))) (cK (.str "last"))) (cTup (cCons (cK (.str "last")) (cCons (bin2 atH (cV 0) (cK (.int 2))) cNil))) (cTup (cCons (cK (.str "shield")) cNil))) (cCons (cV 1) cNil))))))
/-- _law_term, _law_came, _law_found, _law_at, _law_label, _law_later, _law_some -/
def g_fLsteps (c : Fns) : FS := (sSeq (sIf (cmpB eqH (bin2 atH (cV 0) (cK (.int 0))) (cK (.str "say"))) (sRet (cLst (cCons (cTup (cCons (cV 0) (cCons (cTup (cCons (cK (.str "rest")) cNil)) cNil))) cNil))) sNil)
    (sSeq (sIf (cmpB inH (bin2 atH (cV 0) (cK (.int 0))) (cLst (cCons (cK (.str "rest")) (cCons (cK (.str "wait")) cNil)))) (sRet (cIf (bAnd (cmpB eqH (bin2 atH (cV 0) (cK (.int 0))) (cK (.str "wait"))) (cmpB inH (bin2 atH (cV 0) (cK (.int 1))) (cV 1))) (cLst (cCons (cTup (cCons (cTup (cCons (cK (.str "take")) (cCons (bin2 atH (cV 0) (cK (.int 1))) cNil))) (cCons (cTup (cCons (cK (.str "rest")) cNil)) cNil))) cNil)) (cLst cNil))) sNil)
    (sSeq (sNew 2)
    (sSeq (sIf (cmpB inH (bin2 atH (cV 0) (cK (.int 0))) (cLst (cCons (cK (.str "both")) (cCons (cK (.str "first")) cNil)))) (sSeq (sFor (itR2 (cK (.int 1)) (cB lenH (cV 0))) (bdN 3) (sFor (itL (cCall 2 (c .fLsteps) (cCons (bin2 atH (cV 0) (cV 3)) (cCons (cV 1) cNil)))) (bdT [4, 5]) (sSeq (sSet 6 (bin2 addH (bin2 addH (cB listH (cSl (cV 0) (cPt (cK (.int 1))) (cPt (cV 3)))) (cLst (cCons (cV 5) cNil))) (cB listH (cSl (cV 0) (cPt (bin2 addH (cV 3) (cK (.int 1)))) cNo))))
    (sApp 2 (cTup (cCons (cV 4) (cCons (cIf (cmpB eqH (bin2 atH (cV 0) (cK (.int 0))) (cK (.str "both"))) (cCall 1 (c .fLall) (cCons (cV 6) cNil)) (cCall 1 (c .fLrace) (cCons (cV 6) cNil))) cNil)))))))
    (sFrz 2 (sRet (cV 2)))) sNil)
    (sSeq (sFor (itL (cCall 2 (c .fLsteps) (cCons (cIf (cmpB eqH (bin2 atH (cV 0) (cK (.int 0))) (cK (.str "within"))) (bin2 atH (cV 0) (cK (.int 2))) (bin2 atH (cV 0) (cK (.int 1)))) (cCons (cV 1) cNil)))) (bdT [4, 5]) (sApp 2 (cTup (cCons (cV 4) (cCons (cCall 2 (c .fLaround) (cCons (cV 0) (cCons (cV 5) cNil))) cNil)))))
    (sFrz 2 (sRet (cV 2))))))))
/-- _law_term, _law_some, _law_piece, _law_later -/
def g_fLtick (c : Fns) : FS := (sSeq (sIf (cmpB inH (bin2 atH (cV 0) (cK (.int 0))) (cLst (cCons (cK (.str "rest")) (cCons (cK (.str "say")) (cCons (cK (.str "wait")) cNil))))) (sRet (cV 0)) sNil)
    (sSeq (sIf (cmpB inH (bin2 atH (cV 0) (cK (.int 0))) (cLst (cCons (cK (.str "both")) (cCons (cK (.str "first")) cNil)))) (sSeq (sSet 1 (cLc (itT (cSl (cV 0) (cPt (cK (.int 1))) cNo)) (bdN 2) bYes (cCall 1 (c .fLtick) (cCons (cV 2) cNil)) [2]))
    (sRet (cIf (cmpB eqH (bin2 atH (cV 0) (cK (.int 0))) (cK (.str "both"))) (cCall 1 (c .fLall) (cCons (cV 1) cNil)) (cCall 1 (c .fLrace) (cCons (cV 1) cNil))))) sNil)
    (sSeq (sIf (cmpB eqH (bin2 atH (cV 0) (cK (.int 0))) (cK (.str "within"))) (sSeq (sSet 3 (cCall 1 (c .fLtick) (cCons (bin2 atH (cV 0) (cK (.int 2))) cNil)))
    (sRet (cIf (cmpB eqH (bin2 atH (cV 0) (cK (.int 1))) (cK (.int 1))) (cCall 1 (c .fLoff) (cCons (cV 3) cNil)) (cCall 2 (c .fLhold) (cCons (cTup (cCons (cK (.str "within")) (cCons (bin2 subH (bin2 atH (cV 0) (cK (.int 1))) (cK (.int 1))) cNil))) (cCons (cV 3) cNil)))))) sNil)
    (sRet (cCall 2 (c .fLaround) (cCons (cV 0) (cCons (cCall 1 (c .fLtick) (cCons (bin2 atH (cV 0) (cK (.int 1))) cNil)) cNil)))))))
/-- _law_here, _law_label, _law_term, _law_came, _law_gone, _law_other, _law_later -/
def g_fLnext (c : Fns) : FS := (sSeq (sBd (bdT [2, 3, 4]) (cV 0))
    (sSeq (sIf (bOr (cmpB eqH (cV 2) (cTup (cCons (cK (.str "rest")) cNil))) (bOr (bAnd (cmpB eqH (bin2 atH (cV 1) (cK (.int 0))) (cK (.str "come"))) (cmpB inH (bin2 atH (cV 1) (cK (.int 1))) (cV 3))) (bAnd (cmpB eqH (bin2 atH (cV 1) (cK (.int 0))) (cK (.str "off"))) (cmpB eqH (cV 4) (cK (.int 1)))))) (sRet (cLst cNil)) sNil)
    (sSeq (sIf (cmpB eqH (bin2 atH (cV 1) (cK (.int 0))) (cK (.str "come"))) (sRet (cLst (cCons (cTup (cCons (cV 2) (cCons (cB tupleH (cB sortH (bin2 addH (cV 3) (cTup (cCons (bin2 atH (cV 1) (cK (.int 1))) cNil))))) (cCons (cV 4) cNil)))) cNil))) sNil)
    (sSeq (sIf (cmpB inH (bin2 atH (cV 1) (cK (.int 0))) (cLst (cCons (cK (.str "tick")) (cCons (cK (.str "off")) cNil)))) (sRet (cLst (cCons (cIf (cmpB eqH (bin2 atH (cV 1) (cK (.int 0))) (cK (.str "tick"))) (cTup (cCons (cCall 1 (c .fLtick) (cCons (cV 2) cNil)) (cCons (cV 3) (cCons (cV 4) cNil)))) (cTup (cCons (cCall 1 (c .fLoff) (cCons (cV 2) cNil)) (cCons (cV 3) (cCons (cK (.int 1)) cNil))))) cNil))) sNil)
    (sRet (cB sortSetH (cLc (itL (cCall 2 (c .fLsteps) (cCons (cV 2) (cCons (cV 3) cNil)))) (bdT [5, 6]) (cmpB eqH (cV 5) (cV 1)) (cTup (cCons (cV 6) (cCons (cV 3) (cCons (cV 4) cNil)))) [5, 6])))))))
/-- _law_here, _law_coming, _law_term, _law_came, _law_gone, _law_found, _law_event, _law_label, _law_later -/
def g_fLlabels (c : Fns) : FS := (sSeq (sBd (bdT [2, 3, 4]) (cV 0))
    (sSeq (sIf (cmpB eqH (cV 2) (cTup (cCons (cK (.str "rest")) cNil))) (sRet (cLst cNil)) sNil)
    (sSeq (sSet 5 (bin2 addH (bin2 addH (cLc (itL (cV 1)) (bdN 6) (cmpB niH (cV 6) (cV 3)) (cTup (cCons (cK (.str "come")) (cCons (cV 6) cNil))) [6]) (cLst (cCons (cTup (cCons (cK (.str "tick")) (cCons (cK (.int 0)) cNil))) cNil))) (bin2 mulLH (cLst (cCons (cTup (cCons (cK (.str "off")) (cCons (cK (.int 0)) cNil))) cNil)) (bin2 subH (cK (.int 1)) (cV 4)))))
    (sRet (cB sortSetH (bin2 addH (cV 5) (cLc (itL (cCall 2 (c .fLsteps) (cCons (cV 2) (cCons (cV 3) cNil)))) (bdT [7, 8]) bYes (cV 7) [7, 8])))))))
/-- _law_plan_here, _law_leaf_here -/
def g_fLspoken (c : Fns) : FS := (sRet (cLc (itL (cCall 1 (c .fLleaves) (cCons (cV 0) cNil))) (bdN 1) (cmpB eqH (bin2 atH (cV 1) (cK (.int 0))) (cK (.str "say"))) (bin2 atH (cV 1) (cK (.int 1))) [1]))
/-! ## their derivations -/
abbrev N_is_integer : List Str := ["value"]
theorem sc_fisinteger : FnScope N_is_integer ["value"] (defScope sisinteger) := ⟨rfl, rfl, rfl, by decide +kernel, rfl, by decide +kernel, by decide +kernel⟩
abbrev N_is_in : List Str := ["value", "least", "most"]
theorem sc_fisin : FnScope N_is_in ["value", "least", "most"] (defScope sisin) := ⟨rfl, rfl, rfl, by decide +kernel, rfl, by decide +kernel, by decide +kernel⟩
abbrev N_is_list : List Str := ["value", "least", "most"]
theorem sc_fislist : FnScope N_is_list ["value", "least", "most"] (defScope sislist) := ⟨rfl, rfl, rfl, by decide +kernel, rfl, by decide +kernel, by decide +kernel⟩
abbrev N_is_plan : List Str := ["plan", "deep", "holes", "kind", "rest", "part"]
theorem sc_fisplan : FnScope N_is_plan ["plan", "deep", "holes"] (defScope sisplan) := ⟨rfl, rfl, rfl, by decide +kernel, rfl, by decide +kernel, by decide +kernel⟩
abbrev N_parts_of : List Str := ["plan"]
theorem sc_fpartsof : FnScope N_parts_of ["plan"] (defScope spartsof) := ⟨rfl, rfl, rfl, by decide +kernel, rfl, by decide +kernel, by decide +kernel⟩
abbrev N_leaves_in : List Str := ["plan", "found", "part"]
theorem sc_fleavesin : FnScope N_leaves_in ["plan"] (defScope sleavesin) := ⟨rfl, rfl, rfl, by decide +kernel, rfl, by decide +kernel, by decide +kernel⟩
abbrev N_need_plan : List Str := ["plan"]
theorem sc_fneedplan : FnScope N_need_plan ["plan"] (defScope sneedplan) := ⟨rfl, rfl, rfl, by decide +kernel, rfl, by decide +kernel, by decide +kernel⟩
abbrev N_begun : List Str := ["plan", "kind", "part"]
theorem sc_fbegun : FnScope N_begun ["plan"] (defScope sbegun) := ⟨rfl, rfl, rfl, by decide +kernel, rfl, by decide +kernel, by decide +kernel⟩
abbrev N_joined : List Str := ["term", "plans"]
theorem sc_fjoined : FnScope N_joined ["term", "plans"] (defScope sjoined) := ⟨rfl, rfl, rfl, by decide +kernel, rfl, by decide +kernel, by decide +kernel⟩
abbrev N_gathered : List Str := ["terms", "some", "term"]
theorem sc_fgathered : FnScope N_gathered ["terms"] (defScope sgathered) := ⟨rfl, rfl, rfl, by decide +kernel, rfl, by decide +kernel, by decide +kernel⟩
abbrev N_raced : List Str := ["terms", "term"]
theorem sc_fraced : FnScope N_raced ["terms"] (defScope sraced) := ⟨rfl, rfl, rfl, by decide +kernel, rfl, by decide +kernel, by decide +kernel⟩
abbrev N_timed : List Str := ["ticks", "term"]
theorem sc_ftimed : FnScope N_timed ["ticks", "term"] (defScope stimed) := ⟨rfl, rfl, rfl, by decide +kernel, rfl, by decide +kernel, by decide +kernel⟩
abbrev N_lasted : List Str := ["term", "plan"]
theorem sc_flasted : FnScope N_lasted ["term", "plan"] (defScope slasted) := ⟨rfl, rfl, rfl, by decide +kernel, rfl, by decide +kernel, by decide +kernel⟩
abbrev N_kept : List Str := ["term"]
theorem sc_fkept : FnScope N_kept ["term"] (defScope skept) := ⟨rfl, rfl, rfl, by decide +kernel, rfl, by decide +kernel, by decide +kernel⟩
abbrev N_called_off : List Str := ["term", "kind", "part"]
theorem sc_fcalledoff : FnScope N_called_off ["term"] (defScope scalledoff) := ⟨rfl, rfl, rfl, by decide +kernel, rfl, by decide +kernel, by decide +kernel⟩
abbrev N_rebuilt : List Str := ["term", "part", "kind"]
theorem sc_frebuilt : FnScope N_rebuilt ["term", "part"] (defScope srebuilt) := ⟨rfl, rfl, rfl, by decide +kernel, rfl, by decide +kernel, by decide +kernel⟩
abbrev N_steps_in : List Str := ["term", "came", "kind", "found", "at", "part", "label", "later", "some"]
theorem sc_fstepsin : FnScope N_steps_in ["term", "came"] (defScope sstepsin) := ⟨rfl, rfl, rfl, by decide +kernel, rfl, by decide +kernel, by decide +kernel⟩
abbrev N_ticked : List Str := ["term", "kind", "part", "later"]
theorem sc_fticked : FnScope N_ticked ["term"] (defScope sticked) := ⟨rfl, rfl, rfl, by decide +kernel, rfl, by decide +kernel, by decide +kernel⟩
abbrev N_moves_in : List Str := ["standing", "label", "term", "came", "gone", "other", "later"]
theorem sc_fmovesin : FnScope N_moves_in ["standing", "label"] (defScope smovesin) := ⟨rfl, rfl, rfl, by decide +kernel, rfl, by decide +kernel, by decide +kernel⟩
abbrev N_need_row : List Str := ["row", "index", "label", "most"]
theorem sc_fneedrow : FnScope N_need_row ["row"] (defScope sneedrow) := ⟨rfl, rfl, rfl, by decide +kernel, rfl, by decide +kernel, by decide +kernel⟩
abbrev N_standings_in : List Str := ["plan", "row", "found", "label", "later", "standing"]
theorem sc_fstandingsin : FnScope N_standings_in ["plan", "row"] (defScope sstandingsin) := ⟨rfl, rfl, rfl, by decide +kernel, rfl, by decide +kernel, by decide +kernel⟩
abbrev N_standings : List Str := ["plan", "row"]
theorem sc_fstandings : FnScope N_standings ["plan", "row"] (defScope sstandings) := ⟨rfl, rfl, rfl, by decide +kernel, rfl, by decide +kernel, by decide +kernel⟩
abbrev N_is_run : List Str := ["plan", "row"]
theorem sc_fisrun : FnScope N_is_run ["plan", "row"] (defScope sisrun) := ⟨rfl, rfl, rfl, by decide +kernel, rfl, by decide +kernel, by decide +kernel⟩
abbrev N_is_whole : List Str := ["plan", "row", "term", "came", "gone"]
theorem sc_fiswhole : FnScope N_is_whole ["plan", "row"] (defScope siswhole) := ⟨rfl, rfl, rfl, by decide +kernel, rfl, by decide +kernel, by decide +kernel⟩
abbrev N_first_wrong : List Str := ["plan", "row", "at"]
theorem sc_ffirstwrong : FnScope N_first_wrong ["plan", "row"] (defScope sfirstwrong) := ⟨rfl, rfl, rfl, by decide +kernel, rfl, by decide +kernel, by decide +kernel⟩
abbrev N_labels_of : List Str := ["standing", "events", "term", "came", "gone", "found", "event", "label", "later"]
theorem sc_flabelsof : FnScope N_labels_of ["standing", "events"] (defScope slabelsof) := ⟨rfl, rfl, rfl, by decide +kernel, rfl, by decide +kernel, by decide +kernel⟩
abbrev N__law_parts : List Str := ["_law_plan_here"]
theorem sc_fLparts : FnScope N__law_parts ["_law_plan_here"] (defScope sLparts) := ⟨rfl, rfl, rfl, by decide +kernel, rfl, by decide +kernel, by decide +kernel⟩
abbrev N__law_leaves : List Str := ["_law_plan_here", "_law_found", "_law_piece"]
theorem sc_fLleaves : FnScope N__law_leaves ["_law_plan_here"] (defScope sLleaves) := ⟨rfl, rfl, rfl, by decide +kernel, rfl, by decide +kernel, by decide +kernel⟩
abbrev N__law_all : List Str := ["_law_terms", "_law_some", "_law_term"]
theorem sc_fLall : FnScope N__law_all ["_law_terms"] (defScope sLall) := ⟨rfl, rfl, rfl, by decide +kernel, rfl, by decide +kernel, by decide +kernel⟩
abbrev N__law_keep : List Str := ["_law_term"]
theorem sc_fLkeep : FnScope N__law_keep ["_law_term"] (defScope sLkeep) := ⟨rfl, rfl, rfl, by decide +kernel, rfl, by decide +kernel, by decide +kernel⟩
abbrev N__law_join : List Str := ["_law_term", "_law_plans"]
theorem sc_fLjoin : FnScope N__law_join ["_law_term", "_law_plans"] (defScope sLjoin) := ⟨rfl, rfl, rfl, by decide +kernel, rfl, by decide +kernel, by decide +kernel⟩
abbrev N__law_race : List Str := ["_law_terms", "_law_term"]
theorem sc_fLrace : FnScope N__law_race ["_law_terms"] (defScope sLrace) := ⟨rfl, rfl, rfl, by decide +kernel, rfl, by decide +kernel, by decide +kernel⟩
abbrev N__law_hold : List Str := ["_law_head", "_law_term"]
theorem sc_fLhold : FnScope N__law_hold ["_law_head", "_law_term"] (defScope sLhold) := ⟨rfl, rfl, rfl, by decide +kernel, rfl, by decide +kernel, by decide +kernel⟩
abbrev N__law_begin : List Str := ["_law_plan_here", "_law_some", "_law_piece"]
theorem sc_fLbegin : FnScope N__law_begin ["_law_plan_here"] (defScope sLbegin) := ⟨rfl, rfl, rfl, by decide +kernel, rfl, by decide +kernel, by decide +kernel⟩
abbrev N__law_off : List Str := ["_law_term", "_law_piece"]
theorem sc_fLoff : FnScope N__law_off ["_law_term"] (defScope sLoff) := ⟨rfl, rfl, rfl, by decide +kernel, rfl, by decide +kernel, by decide +kernel⟩
abbrev N__law_around : List Str := ["_law_term", "_law_piece"]
theorem sc_fLaround : FnScope N__law_around ["_law_term", "_law_piece"] (defScope sLaround) := ⟨rfl, rfl, rfl, by decide +kernel, rfl, by decide +kernel, by decide +kernel⟩
abbrev N__law_steps : List Str := ["_law_term", "_law_came", "_law_found", "_law_at", "_law_label", "_law_later", "_law_some"]
theorem sc_fLsteps : FnScope N__law_steps ["_law_term", "_law_came"] (defScope sLsteps) := ⟨rfl, rfl, rfl, by decide +kernel, rfl, by decide +kernel, by decide +kernel⟩
abbrev N__law_tick : List Str := ["_law_term", "_law_some", "_law_piece", "_law_later"]
theorem sc_fLtick : FnScope N__law_tick ["_law_term"] (defScope sLtick) := ⟨rfl, rfl, rfl, by decide +kernel, rfl, by decide +kernel, by decide +kernel⟩
abbrev N__law_next : List Str := ["_law_here", "_law_label", "_law_term", "_law_came", "_law_gone", "_law_other", "_law_later"]
theorem sc_fLnext : FnScope N__law_next ["_law_here", "_law_label"] (defScope sLnext) := ⟨rfl, rfl, rfl, by decide +kernel, rfl, by decide +kernel, by decide +kernel⟩
abbrev N__law_labels : List Str := ["_law_here", "_law_coming", "_law_term", "_law_came", "_law_gone", "_law_found", "_law_event", "_law_label", "_law_later"]
theorem sc_fLlabels : FnScope N__law_labels ["_law_here", "_law_coming"] (defScope sLlabels) := ⟨rfl, rfl, rfl, by decide +kernel, rfl, by decide +kernel, by decide +kernel⟩
abbrev N__law_spoken : List Str := ["_law_plan_here", "_law_leaf_here"]
theorem sc_fLspoken : FnScope N__law_spoken ["_law_plan_here"] (defScope sLspoken) := ⟨rfl, rfl, rfl, by decide +kernel, rfl, by decide +kernel, by decide +kernel⟩
section
variable {P : Program} {w : World} {K : KF} {mg : Str → Option Value} {base : Heap} {n : Nat} {c : Fns} {f : Addr} {fd : FuncData}
theorem ok_fisinteger (T : Txt K mg) (C : ∀ i, FokP P w K mg base n (Fn.nm i) (Fn.ps i) (c i)) (F : FnP K "is_integer" sisinteger f fd) (hm : mg "is_integer" = some (.ref f)) : FokP P w K mg base (n + 1) "is_integer" ["value"] (bodyF 1 (g_fisinteger c)) :=
  fok_of (N := N_is_integer) F sc_fisinteger hm (fun _ _ _ _ _ _ us hl => match us, hl with | [_], _ => rfl) fun cdv A outer s H E hr => by
    have hu := hr.units
    have hu5 := room65 hr
    have S := sc_fisinteger
    exact (sf_one (sf_ret (pf_and (pf_isi .int (by rfl) T.z_isinstance (pf_var (pv 0)) (by rfl) T.z_int (by decide +kernel)) (pf_one (pf_not (pf_isi .bool (by rfl) T.z_isinstance (pf_var (pv 0)) (by rfl) T.z_bool (by decide +kernel)))))))
theorem ok_fisin (T : Txt K mg) (C : ∀ i, FokP P w K mg base n (Fn.nm i) (Fn.ps i) (c i)) (F : FnP K "is_in" sisin f fd) (hm : mg "is_in" = some (.ref f)) : FokP P w K mg base (n + 1) "is_in" ["value", "least", "most"] (bodyF 3 (g_fisin c)) :=
  fok_of (N := N_is_in) F sc_fisin hm (fun _ _ _ _ _ _ us hl => match us, hl with | [_, _, _], _ => rfl) fun cdv A outer s H E hr => by
    have hu := hr.units
    have hu5 := room65 hr
    have S := sc_fisin
    exact (sf_one (sf_ret (pf_and (pf_call (C .fisinteger) hr (by rfl) (pl_cons (pf_var (pv 0)) pl_nil)) (pf_one (pf_chain opD_le opD_le (pf_var (pv 1)) (pf_var (pv 0)) (pf_var (pv 2)))))))
theorem ok_fislist (T : Txt K mg) (C : ∀ i, FokP P w K mg base n (Fn.nm i) (Fn.ps i) (c i)) (F : FnP K "is_list" sislist f fd) (hm : mg "is_list" = some (.ref f)) : FokP P w K mg base (n + 1) "is_list" ["value", "least", "most"] (bodyF 3 (g_fislist c)) :=
  fok_of (N := N_is_list) F sc_fislist hm (fun _ _ _ _ _ _ us hl => match us, hl with | [_, _, _], _ => rfl) fun cdv A outer s H E hr => by
    have hu := hr.units
    have hu5 := room65 hr
    have S := sc_fislist
    exact (sf_one (sf_ret (pf_and (pf_isi .tuple (by rfl) T.z_isinstance (pf_var (pv 0)) (by rfl) T.z_tuple (by decide +kernel)) (pf_one (pf_chain opD_le opD_le (pf_var (pv 1)) (pf_cb cr_len (by rfl) T.z_len (by decide +kernel) (pf_var (pv 0))) (pf_var (pv 2)))))))
theorem ok_fisplan (T : Txt K mg) (C : ∀ i, FokP P w K mg base n (Fn.nm i) (Fn.ps i) (c i)) (F : FnP K "is_plan" sisplan f fd) (hm : mg "is_plan" = some (.ref f)) : FokP P w K mg base (n + 1) "is_plan" ["plan", "deep", "holes"] (bodyF 6 (g_fisplan c)) :=
  fok_of (N := N_is_plan) F sc_fisplan hm (fun _ _ _ _ _ _ us hl => match us, hl with | [_, _, _], _ => rfl) fun cdv A outer s H E hr => by
    have hu := hr.units
    have hu5 := room65 hr
    have S := sc_fisplan
    exact (sf_seq (sf_if (pb_w (pwb_or (pb_cmp (opD_eq hu) (pf_var (pv 1)) pf_int (nomark _)) (pwb_or (pb_not (pb_val (pf_call (C .fislist) hr (by rfl) (pl_cons (pf_var (pv 0)) (pl_cons pf_int (pl_cons (pf_bin opD_add (pf_gint T.i_MOST_LEAVES (by rfl)) pf_int) pl_nil)))))) (pwb_or1 (pb_not (pb_val (pf_isi .str (by rfl) T.z_isinstance (pf_ix (pf_var (pv 0)) pf_int) (by rfl) T.z_str (by decide +kernel)))))))) (sf_one (sf_ret pf_bl)) sf_nil)
    (sf_seq (sf_par (i := 3) (j := 4) (ps_par (by rfl) S.nd (by rfl) (by rfl) (by decide) (by rfl) (by rfl) (pl_cons (pf_ix (pf_var (pv 0)) pf_int) (pl_cons (pf_slice (pf_var (pv 0)) (pfo_some pf_int) pfo_none) pl_nil)) (by rfl)))
    (sf_seq (sf_if (pb_w (pwb_or (pb_cmp (opD_eq hu) (pf_var (pv 3)) pf_str (nomark _)) (pwb_or1 (pb_w (pwb_and (pb_cmp (opD_eq hu) (pf_var (pv 3)) pf_str (nomark _)) (pwb_and1 (pb_val (pf_var (pv 2))))))))) (sf_one (sf_ret (pf_cmp (opD_eq hu) (pf_var (pv 4)) (pf_tup pl_nil) (nomark _)))) sf_nil)
    (sf_seq (sf_if (pb_cmp (opD_eq hu) (pf_var (pv 3)) pf_str (nomark _)) (sf_one (sf_ret (pf_and (pf_cmp (opD_eq hu) (pf_cb cr_len (by rfl) T.z_len (by decide +kernel) (pf_var (pv 4))) pf_int (nomark _)) (pf_one (pf_call (C .fisin) hr (by rfl) (pl_cons (pf_ix (pf_var (pv 4)) pf_int) (pl_cons pf_int (pl_cons (pf_bin opD_sub (pf_gint T.i_MOST_WORDS (by rfl)) pf_int) pl_nil)))))))) sf_nil)
    (sf_seq (sf_if (pb_cmp (opD_eq hu) (pf_var (pv 3)) pf_str (nomark _)) (sf_one (sf_ret (pf_and (pf_cmp (opD_eq hu) (pf_cb cr_len (by rfl) T.z_len (by decide +kernel) (pf_var (pv 4))) pf_int (nomark _)) (pf_one (pf_call (C .fisin) hr (by rfl) (pl_cons (pf_ix (pf_var (pv 4)) pf_int) (pl_cons pf_int (pl_cons (pf_bin opD_sub (pf_gint T.i_MOST_EVENTS (by rfl)) pf_int) pl_nil)))))))) sf_nil)
    (sf_seq (sf_if (pb_cmp (opD_in hu5) (pf_var (pv 3)) (pf_gtup T.t_SEVERAL (fun _ => rt_SEVERAL) (by decide) (by rfl)) (by rfl)) (sf_one (sf_ret (pf_and (pf_cmp opD_gt (pf_cb cr_len (by rfl) T.z_len (by decide +kernel) (pf_var (pv 4))) pf_int (nomark _)) (pf_one (pf_cb (cr_allD (by rfl)) (by rfl) T.z_all (by decide +kernel) (pf_lc (by rfl) S.nd (tg_name 5) (by decide) (pfi_tup (pf_var (pv 4))) (blkOk_by (own := [("part", 5)]) (N := N_is_plan) (sc := defScope sisplan) (by decide +kernel)) (fun _ _ _ _ _ => (pg_name (i := 5) S.nd (by rfl) (by first | exact Or.inl rfl | exact Or.inr rfl))) (fun _ _ _ _ _ => pts_yes) (fun _ _ _ _ _ => (pf_call (C .fisplan) hr (by rfl) (pl_cons (pf_var (pv 5)) (pl_cons (pf_bin opD_sub (pf_var (pv 1)) pf_int) (pl_cons (pf_var (pv 2)) pl_nil))))))))))) sf_nil)
    (sf_seq (sf_if (pb_cmp (opD_eq hu) (pf_var (pv 3)) pf_str (nomark _)) (sf_one (sf_ret (pf_and (pf_cmp (opD_eq hu) (pf_cb cr_len (by rfl) T.z_len (by decide +kernel) (pf_var (pv 4))) pf_int (nomark _)) (pf_and (pf_call (C .fisin) hr (by rfl) (pl_cons (pf_ix (pf_var (pv 4)) pf_int) (pl_cons pf_int (pl_cons (pf_gint T.i_MOST_TICKS (by rfl)) pl_nil)))) (pf_one (pf_call (C .fisplan) hr (by rfl) (pl_cons (pf_ix (pf_var (pv 4)) pf_int) (pl_cons (pf_bin opD_sub (pf_var (pv 1)) pf_int) (pl_cons (pf_var (pv 2)) pl_nil))))))))) sf_nil)
    (sf_seq (sf_if (pb_cmp (opD_eq hu) (pf_var (pv 3)) pf_str (nomark _)) (sf_one (sf_ret (pf_and (pf_cmp (opD_eq hu) (pf_cb cr_len (by rfl) T.z_len (by decide +kernel) (pf_var (pv 4))) pf_int (nomark _)) (pf_and (pf_call (C .fisplan) hr (by rfl) (pl_cons (pf_ix (pf_var (pv 4)) pf_int) (pl_cons (pf_bin opD_sub (pf_var (pv 1)) pf_int) (pl_cons (pf_var (pv 2)) pl_nil)))) (pf_one (pf_call (C .fisplan) hr (by rfl) (pl_cons (pf_ix (pf_var (pv 4)) pf_int) (pl_cons (pf_bin opD_sub (pf_var (pv 1)) pf_int) (pl_cons (pf_var (pv 2)) pl_nil))))))))) sf_nil)
    (sf_one (sf_ret (pf_and (pf_cmp (opD_eq hu) (pf_var (pv 3)) pf_str (nomark _)) (pf_and (pf_cmp (opD_eq hu) (pf_cb cr_len (by rfl) T.z_len (by decide +kernel) (pf_var (pv 4))) pf_int (nomark _)) (pf_one (pf_call (C .fisplan) hr (by rfl) (pl_cons (pf_ix (pf_var (pv 4)) pf_int) (pl_cons (pf_bin opD_sub (pf_var (pv 1)) pf_int) (pl_cons (pf_var (pv 2)) pl_nil)))))))))))))))))
theorem ok_fpartsof (T : Txt K mg) (C : ∀ i, FokP P w K mg base n (Fn.nm i) (Fn.ps i) (c i)) (F : FnP K "parts_of" spartsof f fd) (hm : mg "parts_of" = some (.ref f)) : FokP P w K mg base (n + 1) "parts_of" ["plan"] (bodyF 1 (g_fpartsof c)) :=
  fok_of (N := N_parts_of) F sc_fpartsof hm (fun _ _ _ _ _ _ us hl => match us, hl with | [_], _ => rfl) fun cdv A outer s H E hr => by
    have hu := hr.units
    have hu5 := room65 hr
    have S := sc_fpartsof
    exact (sf_seq (sf_if (pb_cmp (opD_in hu5) (pf_ix (pf_var (pv 0)) pf_int) (pf_tup (pl_cons pf_str (pl_cons pf_str (pl_cons pf_str (pl_cons pf_str pl_nil))))) (by rfl)) (sf_one (sf_ret (pf_tup pl_nil))) sf_nil)
    (sf_one (sf_ret (pf_if (pb_cmp (opD_eq hu) (pf_ix (pf_var (pv 0)) pf_int) pf_str (nomark _)) (pf_slice (pf_var (pv 0)) (pfo_some pf_int) pfo_none) (pf_slice (pf_var (pv 0)) (pfo_some pf_int) pfo_none)))))
theorem ok_fleavesin (T : Txt K mg) (C : ∀ i, FokP P w K mg base n (Fn.nm i) (Fn.ps i) (c i)) (F : FnP K "leaves_in" sleavesin f fd) (hm : mg "leaves_in" = some (.ref f)) : FokP P w K mg base (n + 1) "leaves_in" ["plan"] (bodyF 3 (g_fleavesin c)) :=
  fok_of (N := N_leaves_in) F sc_fleavesin hm (fun _ _ _ _ _ _ us hl => match us, hl with | [_], _ => rfl) fun cdv A outer s H E hr => by
    have hu := hr.units
    have hu5 := room65 hr
    have S := sc_fleavesin
    exact (sf_seq (sf_if (pb_cmp (opD_eq hu) (pf_call (C .fpartsof) hr (by rfl) (pl_cons (pf_var (pv 0)) pl_nil)) (pf_tup pl_nil) (nomark _)) (sf_one (sf_ret (pf_lst (pl_cons (pf_var (pv 0)) pl_nil)))) sf_nil)
    (sf_seq (sf_new S.nd (by rfl) (by first | exact Or.inl rfl | exact Or.inr rfl))
    (sf_seq (sf_for PassesOwn.never (by rfl) (tg_name 2) (pfi_tup (pf_call (C .fpartsof) hr (by rfl) (pl_cons (pf_var (pv 0)) pl_nil))) (pg_name (i := 2) S.nd (by rfl) (by first | exact Or.inl rfl | exact Or.inr rfl)) (sf_one (sf_ext (i := 1) (pv 1) (pf_call (C .fleavesin) hr (by rfl) (pl_cons (pf_var (pv 2)) pl_nil)))))
    (sf_frz (i := 1) (sf_one (sf_ret (pf_var (pv 1))))))))
theorem ok_fneedplan (T : Txt K mg) (C : ∀ i, FokP P w K mg base n (Fn.nm i) (Fn.ps i) (c i)) (F : FnP K "need_plan" sneedplan f fd) (hm : mg "need_plan" = some (.ref f)) : FokP P w K mg base (n + 1) "need_plan" ["plan"] (bodyF 1 (g_fneedplan c)) :=
  fok_of (N := N_need_plan) F sc_fneedplan hm (fun _ _ _ _ _ _ us hl => match us, hl with | [_], _ => rfl) fun cdv A outer s H E hr => by
    have hu := hr.units
    have hu5 := room65 hr
    have S := sc_fneedplan
    exact (sf_one (sf_if (pb_w (pwb_or (pb_not (pb_val (pf_call (C .fisplan) hr (by rfl) (pl_cons (pf_var (pv 0)) (pl_cons (pf_gint T.i_MOST_DEEP (by rfl)) (pl_cons pf_bl pl_nil)))))) (pwb_or1 (pb_cmp opD_gt (pf_cb cr_len (by rfl) T.z_len (by decide +kernel) (pf_call (C .fleavesin) hr (by rfl) (pl_cons (pf_var (pv 0)) pl_nil))) (pf_gint T.i_MOST_LEAVES (by rfl)) (nomark _))))) (sf_one sf_never) sf_nil))
theorem ok_fbegun (T : Txt K mg) (C : ∀ i, FokP P w K mg base n (Fn.nm i) (Fn.ps i) (c i)) (F : FnP K "begun" sbegun f fd) (hm : mg "begun" = some (.ref f)) : FokP P w K mg base (n + 1) "begun" ["plan"] (bodyF 3 (g_fbegun c)) :=
  fok_of (N := N_begun) F sc_fbegun hm (fun _ _ _ _ _ _ us hl => match us, hl with | [_], _ => rfl) fun cdv A outer s H E hr => by
    have hu := hr.units
    have hu5 := room65 hr
    have S := sc_fbegun
    exact (sf_seq (sf_set (i := 1) S.nd (by rfl) (by first | exact Or.inl rfl | exact Or.inr rfl) (pf_ix (pf_var (pv 0)) pf_int))
    (sf_seq (sf_if (pb_cmp (opD_in hu5) (pf_var (pv 1)) (pf_tup (pl_cons pf_str (pl_cons pf_str (pl_cons pf_str pl_nil)))) (by rfl)) (sf_one (sf_ret (pf_var (pv 0)))) sf_nil)
    (sf_seq (sf_if (pb_cmp (opD_eq hu) (pf_var (pv 1)) pf_str (nomark _)) (sf_one (sf_ret (pf_call (C .fjoined) hr (by rfl) (pl_cons (pf_call (C .fbegun) hr (by rfl) (pl_cons (pf_ix (pf_var (pv 0)) pf_int) pl_nil)) (pl_cons (pf_slice (pf_var (pv 0)) (pfo_some pf_int) pfo_none) pl_nil))))) sf_nil)
    (sf_seq (sf_if (pb_cmp (opD_eq hu) (pf_var (pv 1)) pf_str (nomark _)) (sf_one (sf_ret (pf_call (C .fgathered) hr (by rfl) (pl_cons (pf_lc (by rfl) S.nd (tg_name 2) (by decide) (pfi_tup (pf_slice (pf_var (pv 0)) (pfo_some pf_int) pfo_none)) (blkOk_by (own := [("part", 2)]) (N := N_begun) (sc := defScope sbegun) (by decide +kernel)) (fun _ _ _ _ _ => (pg_name (i := 2) S.nd (by rfl) (by first | exact Or.inl rfl | exact Or.inr rfl))) (fun _ _ _ _ _ => pts_yes) (fun _ _ _ _ _ => (pf_call (C .fbegun) hr (by rfl) (pl_cons (pf_var (pv 2)) pl_nil)))) pl_nil)))) sf_nil)
    (sf_seq (sf_if (pb_cmp (opD_eq hu) (pf_var (pv 1)) pf_str (nomark _)) (sf_one (sf_ret (pf_call (C .fraced) hr (by rfl) (pl_cons (pf_lc (by rfl) S.nd (tg_name 2) (by decide) (pfi_tup (pf_slice (pf_var (pv 0)) (pfo_some pf_int) pfo_none)) (blkOk_by (own := [("part", 2)]) (N := N_begun) (sc := defScope sbegun) (by decide +kernel)) (fun _ _ _ _ _ => (pg_name (i := 2) S.nd (by rfl) (by first | exact Or.inl rfl | exact Or.inr rfl))) (fun _ _ _ _ _ => pts_yes) (fun _ _ _ _ _ => (pf_call (C .fbegun) hr (by rfl) (pl_cons (pf_var (pv 2)) pl_nil)))) pl_nil)))) sf_nil)
    (sf_seq (sf_if (pb_cmp (opD_eq hu) (pf_var (pv 1)) pf_str (nomark _)) (sf_one (sf_ret (pf_call (C .ftimed) hr (by rfl) (pl_cons (pf_ix (pf_var (pv 0)) pf_int) (pl_cons (pf_call (C .fbegun) hr (by rfl) (pl_cons (pf_ix (pf_var (pv 0)) pf_int) pl_nil)) pl_nil))))) sf_nil)
    (sf_one (sf_ret (pf_if (pb_cmp (opD_eq hu) (pf_var (pv 1)) pf_str (nomark _)) (pf_call (C .flasted) hr (by rfl) (pl_cons (pf_call (C .fbegun) hr (by rfl) (pl_cons (pf_ix (pf_var (pv 0)) pf_int) pl_nil)) (pl_cons (pf_ix (pf_var (pv 0)) pf_int) pl_nil))) (pf_call (C .fkept) hr (by rfl) (pl_cons (pf_call (C .fbegun) hr (by rfl) (pl_cons (pf_ix (pf_var (pv 0)) pf_int) pl_nil)) pl_nil)))))))))))
theorem ok_fjoined (T : Txt K mg) (C : ∀ i, FokP P w K mg base n (Fn.nm i) (Fn.ps i) (c i)) (F : FnP K "joined" sjoined f fd) (hm : mg "joined" = some (.ref f)) : FokP P w K mg base (n + 1) "joined" ["term", "plans"] (bodyF 2 (g_fjoined c)) :=
  fok_of (N := N_joined) F sc_fjoined hm (fun _ _ _ _ _ _ us hl => match us, hl with | [_, _], _ => rfl) fun cdv A outer s H E hr => by
    have hu := hr.units
    have hu5 := room65 hr
    have S := sc_fjoined
    exact (sf_seq (sf_if (pb_cmp (opD_eq hu) (pf_var (pv 1)) (pf_tup pl_nil) (nomark _)) (sf_one (sf_ret (pf_var (pv 0)))) sf_nil)
    (sf_one (sf_ret (pf_if (pb_cmp (opD_eq hu) (pf_var (pv 0)) (pf_gtup T.t_REST (fun _ => rt_REST) (by decide) (by rfl)) (nomark _)) (pf_call (C .fjoined) hr (by rfl) (pl_cons (pf_call (C .fbegun) hr (by rfl) (pl_cons (pf_ix (pf_var (pv 1)) pf_int) pl_nil)) (pl_cons (pf_slice (pf_var (pv 1)) (pfo_some pf_int) pfo_none) pl_nil))) (pf_tup (pl_cons pf_str (pl_cons (pf_var (pv 0)) (pl_star (pf_var (pv 1)) pl_nil))))))))
theorem ok_fgathered (T : Txt K mg) (C : ∀ i, FokP P w K mg base n (Fn.nm i) (Fn.ps i) (c i)) (F : FnP K "gathered" sgathered f fd) (hm : mg "gathered" = some (.ref f)) : FokP P w K mg base (n + 1) "gathered" ["terms"] (bodyF 3 (g_fgathered c)) :=
  fok_of (N := N_gathered) F sc_fgathered hm (fun _ _ _ _ _ _ us hl => match us, hl with | [_], _ => rfl) fun cdv A outer s H E hr => by
    have hu := hr.units
    have hu5 := room65 hr
    have S := sc_fgathered
    exact (sf_seq (sf_setLc (i := 1) (by rfl) S.nd (tg_name 2) (by decide) (by rfl) (by rfl) (sw_true (by rfl) (by rfl) (by rfl) (by decide +kernel)) (pfi_list (pf_var (pv 0))) (blkOk_by (own := [("term", 2)]) (N := N_gathered) (sc := defScope sgathered) (by decide +kernel)) (fun _ _ _ _ _ => (pg_name (i := 2) S.nd (by rfl) (by first | exact Or.inl rfl | exact Or.inr rfl))) (fun _ _ _ _ _ => (pts_one (pb_cmp (opD_ne hu) (pf_var (pv 2)) (pf_gtup T.t_REST (fun _ => rt_REST) (by decide) (by rfl)) (nomark _)))) (fun _ _ _ _ _ => (pf_var (pv 2))))
    (sf_seq (sf_if (pb_cmp opD_lt (pf_cb cr_len (by rfl) T.z_len (by decide +kernel) (pf_var (pv 1))) pf_int (nomark _)) (sf_one (sf_ret (pf_if (pb_cmp (opD_ne hu) (pf_var (pv 1)) (pf_lst pl_nil) (nomark _)) (pf_ix (pf_var (pv 1)) pf_int) (pf_gtup T.t_REST (fun _ => rt_REST) (by decide) (by rfl))))) sf_nil)
    (sf_one (sf_ret (pf_tup (pl_cons pf_str (pl_star (pf_var (pv 1)) pl_nil)))))))
theorem ok_fraced (T : Txt K mg) (C : ∀ i, FokP P w K mg base n (Fn.nm i) (Fn.ps i) (c i)) (F : FnP K "raced" sraced f fd) (hm : mg "raced" = some (.ref f)) : FokP P w K mg base (n + 1) "raced" ["terms"] (bodyF 2 (g_fraced c)) :=
  fok_of (N := N_raced) F sc_fraced hm (fun _ _ _ _ _ _ us hl => match us, hl with | [_], _ => rfl) fun cdv A outer s H E hr => by
    have hu := hr.units
    have hu5 := room65 hr
    have S := sc_fraced
    exact (sf_seq (sf_if (pb_cmp (opD_in hu5) (pf_gtup T.t_REST (fun _ => rt_REST) (by decide) (by rfl)) (pf_var (pv 0)) (by rfl)) (sf_one (sf_ret (pf_call (C .fgathered) hr (by rfl) (pl_cons (pf_lc (by rfl) S.nd (tg_name 1) (by decide) (pfi_list (pf_var (pv 0))) (blkOk_by (own := [("term", 1)]) (N := N_raced) (sc := defScope sraced) (by decide +kernel)) (fun _ _ _ _ _ => (pg_name (i := 1) S.nd (by rfl) (by first | exact Or.inl rfl | exact Or.inr rfl))) (fun _ _ _ _ _ => pts_yes) (fun _ _ _ _ _ => (pf_call (C .fcalledoff) hr (by rfl) (pl_cons (pf_var (pv 1)) pl_nil)))) pl_nil)))) sf_nil)
    (sf_one (sf_ret (pf_tup (pl_cons pf_str (pl_star (pf_var (pv 0)) pl_nil))))))
theorem ok_ftimed (T : Txt K mg) (C : ∀ i, FokP P w K mg base n (Fn.nm i) (Fn.ps i) (c i)) (F : FnP K "timed" stimed f fd) (hm : mg "timed" = some (.ref f)) : FokP P w K mg base (n + 1) "timed" ["ticks", "term"] (bodyF 2 (g_ftimed c)) :=
  fok_of (N := N_timed) F sc_ftimed hm (fun _ _ _ _ _ _ us hl => match us, hl with | [_, _], _ => rfl) fun cdv A outer s H E hr => by
    have hu := hr.units
    have hu5 := room65 hr
    have S := sc_ftimed
    exact (sf_one (sf_ret (pf_if (pb_cmp (opD_ne hu) (pf_var (pv 1)) (pf_gtup T.t_REST (fun _ => rt_REST) (by decide) (by rfl)) (nomark _)) (pf_tup (pl_cons pf_str (pl_cons (pf_var (pv 0)) (pl_cons (pf_var (pv 1)) pl_nil)))) (pf_gtup T.t_REST (fun _ => rt_REST) (by decide) (by rfl)))))
theorem ok_flasted (T : Txt K mg) (C : ∀ i, FokP P w K mg base n (Fn.nm i) (Fn.ps i) (c i)) (F : FnP K "lasted" slasted f fd) (hm : mg "lasted" = some (.ref f)) : FokP P w K mg base (n + 1) "lasted" ["term", "plan"] (bodyF 2 (g_flasted c)) :=
  fok_of (N := N_lasted) F sc_flasted hm (fun _ _ _ _ _ _ us hl => match us, hl with | [_, _], _ => rfl) fun cdv A outer s H E hr => by
    have hu := hr.units
    have hu5 := room65 hr
    have S := sc_flasted
    exact (sf_one (sf_ret (pf_if (pb_cmp (opD_ne hu) (pf_var (pv 0)) (pf_gtup T.t_REST (fun _ => rt_REST) (by decide) (by rfl)) (nomark _)) (pf_tup (pl_cons pf_str (pl_cons (pf_var (pv 0)) (pl_cons (pf_var (pv 1)) pl_nil)))) (pf_call (C .fkept) hr (by rfl) (pl_cons (pf_call (C .fbegun) hr (by rfl) (pl_cons (pf_var (pv 1)) pl_nil)) pl_nil)))))
theorem ok_fkept (T : Txt K mg) (C : ∀ i, FokP P w K mg base n (Fn.nm i) (Fn.ps i) (c i)) (F : FnP K "kept" skept f fd) (hm : mg "kept" = some (.ref f)) : FokP P w K mg base (n + 1) "kept" ["term"] (bodyF 1 (g_fkept c)) :=
  fok_of (N := N_kept) F sc_fkept hm (fun _ _ _ _ _ _ us hl => match us, hl with | [_], _ => rfl) fun cdv A outer s H E hr => by
    have hu := hr.units
    have hu5 := room65 hr
    have S := sc_fkept
    exact (sf_one (sf_ret (pf_if (pb_w (pwb_or (pb_cmp (opD_eq hu) (pf_var (pv 0)) (pf_gtup T.t_REST (fun _ => rt_REST) (by decide) (by rfl)) (nomark _)) (pwb_or1 (pb_cmp (opD_eq hu) (pf_ix (pf_var (pv 0)) pf_int) pf_str (nomark _))))) (pf_var (pv 0)) (pf_tup (pl_cons pf_str (pl_cons (pf_var (pv 0)) pl_nil))))))
theorem ok_fcalledoff (T : Txt K mg) (C : ∀ i, FokP P w K mg base n (Fn.nm i) (Fn.ps i) (c i)) (F : FnP K "called_off" scalledoff f fd) (hm : mg "called_off" = some (.ref f)) : FokP P w K mg base (n + 1) "called_off" ["term"] (bodyF 3 (g_fcalledoff c)) :=
  fok_of (N := N_called_off) F sc_fcalledoff hm (fun _ _ _ _ _ _ us hl => match us, hl with | [_], _ => rfl) fun cdv A outer s H E hr => by
    have hu := hr.units
    have hu5 := room65 hr
    have S := sc_fcalledoff
    exact (sf_seq (sf_set (i := 1) S.nd (by rfl) (by first | exact Or.inl rfl | exact Or.inr rfl) (pf_ix (pf_var (pv 0)) pf_int))
    (sf_seq (sf_if (pb_cmp (opD_in hu5) (pf_var (pv 1)) (pf_tup (pl_cons pf_str (pl_cons pf_str (pl_cons pf_str pl_nil)))) (by rfl)) (sf_one (sf_ret (pf_gtup T.t_REST (fun _ => rt_REST) (by decide) (by rfl)))) sf_nil)
    (sf_seq (sf_if (pb_cmp (opD_eq hu) (pf_var (pv 1)) pf_str (nomark _)) (sf_one (sf_ret (pf_call (C .fcalledoff) hr (by rfl) (pl_cons (pf_ix (pf_var (pv 0)) pf_int) pl_nil)))) sf_nil)
    (sf_seq (sf_if (pb_cmp (opD_in hu5) (pf_var (pv 1)) (pf_tup (pl_cons pf_str (pl_cons pf_str pl_nil))) (by rfl)) (sf_one (sf_ret (pf_call (C .fgathered) hr (by rfl) (pl_cons (pf_lc (by rfl) S.nd (tg_name 2) (by decide) (pfi_tup (pf_slice (pf_var (pv 0)) (pfo_some pf_int) pfo_none)) (blkOk_by (own := [("part", 2)]) (N := N_called_off) (sc := defScope scalledoff) (by decide +kernel)) (fun _ _ _ _ _ => (pg_name (i := 2) S.nd (by rfl) (by first | exact Or.inl rfl | exact Or.inr rfl))) (fun _ _ _ _ _ => pts_yes) (fun _ _ _ _ _ => (pf_call (C .fcalledoff) hr (by rfl) (pl_cons (pf_var (pv 2)) pl_nil)))) pl_nil)))) sf_nil)
    (sf_seq (sf_if (pb_cmp (opD_eq hu) (pf_var (pv 1)) pf_str (nomark _)) (sf_one (sf_ret (pf_call (C .fcalledoff) hr (by rfl) (pl_cons (pf_ix (pf_var (pv 0)) pf_int) pl_nil)))) sf_nil)
    (sf_one (sf_ret (pf_if (pb_cmp (opD_eq hu) (pf_var (pv 1)) pf_str (nomark _)) (pf_call (C .flasted) hr (by rfl) (pl_cons (pf_call (C .fcalledoff) hr (by rfl) (pl_cons (pf_ix (pf_var (pv 0)) pf_int) pl_nil)) (pl_cons (pf_ix (pf_var (pv 0)) pf_int) pl_nil))) (pf_var (pv 0))))))))))
theorem ok_frebuilt (T : Txt K mg) (C : ∀ i, FokP P w K mg base n (Fn.nm i) (Fn.ps i) (c i)) (F : FnP K "rebuilt" srebuilt f fd) (hm : mg "rebuilt" = some (.ref f)) : FokP P w K mg base (n + 1) "rebuilt" ["term", "part"] (bodyF 3 (g_frebuilt c)) :=
  fok_of (N := N_rebuilt) F sc_frebuilt hm (fun _ _ _ _ _ _ us hl => match us, hl with | [_, _], _ => rfl) fun cdv A outer s H E hr => by
    have hu := hr.units
    have hu5 := room65 hr
    have S := sc_frebuilt
    exact (sf_seq (sf_set (i := 2) S.nd (by rfl) (by first | exact Or.inl rfl | exact Or.inr rfl) (pf_ix (pf_var (pv 0)) pf_int))
    (sf_seq (sf_if (pb_cmp (opD_eq hu) (pf_var (pv 2)) pf_str (nomark _)) (sf_one (sf_ret (pf_call (C .fjoined) hr (by rfl) (pl_cons (pf_var (pv 1)) (pl_cons (pf_slice (pf_var (pv 0)) (pfo_some pf_int) pfo_none) pl_nil))))) sf_nil)
    (sf_seq (sf_if (pb_cmp (opD_eq hu) (pf_var (pv 2)) pf_str (nomark _)) (sf_one (sf_ret (pf_call (C .ftimed) hr (by rfl) (pl_cons (pf_ix (pf_var (pv 0)) pf_int) (pl_cons (pf_var (pv 1)) pl_nil))))) sf_nil)
    (sf_one (sf_ret (pf_if (pb_cmp (opD_eq hu) (pf_var (pv 2)) pf_str (nomark _)) (pf_call (C .flasted) hr (by rfl) (pl_cons (pf_var (pv 1)) (pl_cons (pf_ix (pf_var (pv 0)) pf_int) pl_nil))) (pf_call (C .fkept) hr (by rfl) (pl_cons (pf_var (pv 1)) pl_nil))))))))
theorem ok_fstepsin (T : Txt K mg) (C : ∀ i, FokP P w K mg base n (Fn.nm i) (Fn.ps i) (c i)) (F : FnP K "steps_in" sstepsin f fd) (hm : mg "steps_in" = some (.ref f)) : FokP P w K mg base (n + 1) "steps_in" ["term", "came"] (bodyF 9 (g_fstepsin c)) :=
  fok_of (N := N_steps_in) F sc_fstepsin hm (fun _ _ _ _ _ _ us hl => match us, hl with | [_, _], _ => rfl) fun cdv A outer s H E hr => by
    have hu := hr.units
    have hu5 := room65 hr
    have S := sc_fstepsin
    exact (sf_seq (sf_set (i := 2) S.nd (by rfl) (by first | exact Or.inl rfl | exact Or.inr rfl) (pf_ix (pf_var (pv 0)) pf_int))
    (sf_seq (sf_if (pb_cmp (opD_eq hu) (pf_var (pv 2)) pf_str (nomark _)) (sf_one (sf_ret (pf_lst (pl_cons (pf_tup (pl_cons (pf_var (pv 0)) (pl_cons (pf_gtup T.t_REST (fun _ => rt_REST) (by decide) (by rfl)) pl_nil))) pl_nil)))) sf_nil)
    (sf_seq (sf_if (pb_w (pwb_or (pb_cmp (opD_eq hu) (pf_var (pv 2)) pf_str (nomark _)) (pwb_or1 (pb_w (pwb_and (pb_cmp (opD_eq hu) (pf_var (pv 2)) pf_str (nomark _)) (pwb_and1 (pb_cmp (opD_ni hu5) (pf_ix (pf_var (pv 0)) pf_int) (pf_var (pv 1)) (by rfl)))))))) (sf_one (sf_ret (pf_lst pl_nil))) sf_nil)
    (sf_seq (sf_if (pb_cmp (opD_eq hu) (pf_var (pv 2)) pf_str (nomark _)) (sf_one (sf_ret (pf_lst (pl_cons (pf_tup (pl_cons (pf_tup (pl_cons pf_str (pl_cons (pf_ix (pf_var (pv 0)) pf_int) pl_nil))) (pl_cons (pf_gtup T.t_REST (fun _ => rt_REST) (by decide) (by rfl)) pl_nil))) pl_nil)))) sf_nil)
    (sf_seq (sf_if (pb_cmp (opD_in hu5) (pf_var (pv 2)) (pf_tup (pl_cons pf_str (pl_cons pf_str pl_nil))) (by rfl)) (sf_seq (sf_new S.nd (by rfl) (by first | exact Or.inl rfl | exact Or.inr rfl))
    (sf_seq (sf_for PassesOwn.never (by rfl) (tg_tup [4, 5] rfl) (pfi_enum (by rfl) T.z_enumerate (pf_slice (pf_var (pv 0)) (pfo_some pf_int) pfo_none)) (pg_tup (by rfl) (pgs_cons (pg_name (i := 4) S.nd (by rfl) (by first | exact Or.inl rfl | exact Or.inr rfl)) (pgs_cons (pg_name (i := 5) S.nd (by rfl) (by first | exact Or.inl rfl | exact Or.inr rfl)) pgs_nil))) (sf_one (sf_for PassesOwn.never (by rfl) (tg_tup [6, 7] rfl) (pfi_list (pf_call (C .fstepsin) hr (by rfl) (pl_cons (pf_var (pv 5)) (pl_cons (pf_var (pv 1)) pl_nil)))) (pg_tup (by rfl) (pgs_cons (pg_name (i := 6) S.nd (by rfl) (by first | exact Or.inl rfl | exact Or.inr rfl)) (pgs_cons (pg_name (i := 7) S.nd (by rfl) (by first | exact Or.inl rfl | exact Or.inr rfl)) pgs_nil))) (sf_seq (sf_set (i := 8) S.nd (by rfl) (by first | exact Or.inl rfl | exact Or.inr rfl) (pf_lst (pl_star (pf_slice (pf_var (pv 0)) (pfo_some pf_int) (pfo_some (pf_bin opD_add (pf_var (pv 4)) pf_int))) (pl_cons (pf_var (pv 7)) (pl_star (pf_slice (pf_var (pv 0)) (pfo_some (pf_bin opD_add (pf_var (pv 4)) pf_int)) pfo_none) pl_nil)))))
    (sf_one (sf_app (i := 3) (pv 3) (pf_tup (pl_cons (pf_var (pv 6)) (pl_cons (pf_if (pb_cmp (opD_eq hu) (pf_var (pv 2)) pf_str (nomark _)) (pf_call (C .fgathered) hr (by rfl) (pl_cons (pf_var (pv 8)) pl_nil)) (pf_call (C .fraced) hr (by rfl) (pl_cons (pf_var (pv 8)) pl_nil))) pl_nil)))))))))
    (sf_frz (i := 3) (sf_one (sf_ret (pf_var (pv 3))))))) sf_nil)
    (sf_seq (sf_set (i := 5) S.nd (by rfl) (by first | exact Or.inl rfl | exact Or.inr rfl) (pf_if (pb_cmp (opD_eq hu) (pf_var (pv 2)) pf_str (nomark _)) (pf_ix (pf_var (pv 0)) pf_int) (pf_ix (pf_var (pv 0)) pf_int)))
    (sf_one (sf_ret (pf_lc (by rfl) S.nd (tg_tup [6, 7] rfl) (by decide) (pfi_list (pf_call (C .fstepsin) hr (by rfl) (pl_cons (pf_var (pv 5)) (pl_cons (pf_var (pv 1)) pl_nil)))) (blkOk_by (own := [("label", 6), ("later", 7)]) (N := N_steps_in) (sc := defScope sstepsin) (by decide +kernel)) (fun _ _ _ _ _ => (pg_tup (by rfl) (pgs_cons (pg_name (i := 6) S.nd (by rfl) (by first | exact Or.inl rfl | exact Or.inr rfl)) (pgs_cons (pg_name (i := 7) S.nd (by rfl) (by first | exact Or.inl rfl | exact Or.inr rfl)) pgs_nil)))) (fun _ _ _ _ _ => pts_yes) (fun _ _ _ _ _ => (pf_tup (pl_cons (pf_var (pv 6)) (pl_cons (pf_call (C .frebuilt) hr (by rfl) (pl_cons (pf_var (pv 0)) (pl_cons (pf_var (pv 7)) pl_nil))) pl_nil)))))))))))))
theorem ok_fticked (T : Txt K mg) (C : ∀ i, FokP P w K mg base n (Fn.nm i) (Fn.ps i) (c i)) (F : FnP K "ticked" sticked f fd) (hm : mg "ticked" = some (.ref f)) : FokP P w K mg base (n + 1) "ticked" ["term"] (bodyF 4 (g_fticked c)) :=
  fok_of (N := N_ticked) F sc_fticked hm (fun _ _ _ _ _ _ us hl => match us, hl with | [_], _ => rfl) fun cdv A outer s H E hr => by
    have hu := hr.units
    have hu5 := room65 hr
    have S := sc_fticked
    exact (sf_seq (sf_set (i := 1) S.nd (by rfl) (by first | exact Or.inl rfl | exact Or.inr rfl) (pf_ix (pf_var (pv 0)) pf_int))
    (sf_seq (sf_if (pb_cmp (opD_in hu5) (pf_var (pv 1)) (pf_tup (pl_cons pf_str (pl_cons pf_str (pl_cons pf_str pl_nil)))) (by rfl)) (sf_one (sf_ret (pf_var (pv 0)))) sf_nil)
    (sf_seq (sf_if (pb_cmp (opD_eq hu) (pf_var (pv 1)) pf_str (nomark _)) (sf_one (sf_ret (pf_call (C .fgathered) hr (by rfl) (pl_cons (pf_lc (by rfl) S.nd (tg_name 2) (by decide) (pfi_tup (pf_slice (pf_var (pv 0)) (pfo_some pf_int) pfo_none)) (blkOk_by (own := [("part", 2)]) (N := N_ticked) (sc := defScope sticked) (by decide +kernel)) (fun _ _ _ _ _ => (pg_name (i := 2) S.nd (by rfl) (by first | exact Or.inl rfl | exact Or.inr rfl))) (fun _ _ _ _ _ => pts_yes) (fun _ _ _ _ _ => (pf_call (C .fticked) hr (by rfl) (pl_cons (pf_var (pv 2)) pl_nil)))) pl_nil)))) sf_nil)
    (sf_seq (sf_if (pb_cmp (opD_eq hu) (pf_var (pv 1)) pf_str (nomark _)) (sf_one (sf_ret (pf_call (C .fraced) hr (by rfl) (pl_cons (pf_lc (by rfl) S.nd (tg_name 2) (by decide) (pfi_tup (pf_slice (pf_var (pv 0)) (pfo_some pf_int) pfo_none)) (blkOk_by (own := [("part", 2)]) (N := N_ticked) (sc := defScope sticked) (by decide +kernel)) (fun _ _ _ _ _ => (pg_name (i := 2) S.nd (by rfl) (by first | exact Or.inl rfl | exact Or.inr rfl))) (fun _ _ _ _ _ => pts_yes) (fun _ _ _ _ _ => (pf_call (C .fticked) hr (by rfl) (pl_cons (pf_var (pv 2)) pl_nil)))) pl_nil)))) sf_nil)
    (sf_seq (sf_if (pb_cmp (opD_eq hu) (pf_var (pv 1)) pf_str (nomark _)) (sf_seq (sf_set (i := 3) S.nd (by rfl) (by first | exact Or.inl rfl | exact Or.inr rfl) (pf_call (C .fticked) hr (by rfl) (pl_cons (pf_ix (pf_var (pv 0)) pf_int) pl_nil)))
    (sf_one (sf_ret (pf_if (pb_cmp opD_gt (pf_ix (pf_var (pv 0)) pf_int) pf_int (nomark _)) (pf_call (C .ftimed) hr (by rfl) (pl_cons (pf_bin opD_sub (pf_ix (pf_var (pv 0)) pf_int) pf_int) (pl_cons (pf_var (pv 3)) pl_nil))) (pf_call (C .fcalledoff) hr (by rfl) (pl_cons (pf_var (pv 3)) pl_nil)))))) sf_nil)
    (sf_one (sf_ret (pf_call (C .frebuilt) hr (by rfl) (pl_cons (pf_var (pv 0)) (pl_cons (pf_call (C .fticked) hr (by rfl) (pl_cons (pf_ix (pf_var (pv 0)) pf_int) pl_nil)) pl_nil))))))))))
theorem ok_fmovesin (T : Txt K mg) (C : ∀ i, FokP P w K mg base n (Fn.nm i) (Fn.ps i) (c i)) (F : FnP K "moves_in" smovesin f fd) (hm : mg "moves_in" = some (.ref f)) : FokP P w K mg base (n + 1) "moves_in" ["standing", "label"] (bodyF 7 (g_fmovesin c)) :=
  fok_of (N := N_moves_in) F sc_fmovesin hm (fun _ _ _ _ _ _ us hl => match us, hl with | [_, _], _ => rfl) fun cdv A outer s H E hr => by
    have hu := hr.units
    have hu5 := room65 hr
    have S := sc_fmovesin
    exact (sf_seq (sf_bd (tg_tup [2, 3, 4] rfl) (pf_var (pv 0)) (pg_tup (by rfl) (pgs_cons (pg_name (i := 2) S.nd (by rfl) (by first | exact Or.inl rfl | exact Or.inr rfl)) (pgs_cons (pg_name (i := 3) S.nd (by rfl) (by first | exact Or.inl rfl | exact Or.inr rfl)) (pgs_cons (pg_name (i := 4) S.nd (by rfl) (by first | exact Or.inl rfl | exact Or.inr rfl)) pgs_nil)))))
    (sf_seq (sf_if (pb_cmp (opD_eq hu) (pf_var (pv 2)) (pf_gtup T.t_REST (fun _ => rt_REST) (by decide) (by rfl)) (nomark _)) (sf_one (sf_ret (pf_lst pl_nil))) sf_nil)
    (sf_seq (sf_if (pb_cmp (opD_eq hu) (pf_ix (pf_var (pv 1)) pf_int) pf_str (nomark _)) (sf_one (sf_ret (pf_if (pb_cmp (opD_ni hu5) (pf_ix (pf_var (pv 1)) pf_int) (pf_var (pv 3)) (by rfl)) (pf_lst (pl_cons (pf_tup (pl_cons (pf_var (pv 2)) (pl_cons (pf_ct cr_tuple (by rfl) T.z_tuple (by decide +kernel) (pf_cb (cr_sort hr) (by rfl) T.z_sorted (by decide +kernel) (pf_lst (pl_star (pf_var (pv 3)) (pl_cons (pf_ix (pf_var (pv 1)) pf_int) pl_nil))))) (pl_cons (pf_var (pv 4)) pl_nil)))) pl_nil)) (pf_lst pl_nil)))) sf_nil)
    (sf_seq (sf_if (pb_cmp (opD_eq hu) (pf_ix (pf_var (pv 1)) pf_int) pf_str (nomark _)) (sf_one (sf_ret (pf_lst (pl_cons (pf_tup (pl_cons (pf_call (C .fticked) hr (by rfl) (pl_cons (pf_var (pv 2)) pl_nil)) (pl_cons (pf_var (pv 3)) (pl_cons (pf_var (pv 4)) pl_nil)))) pl_nil)))) sf_nil)
    (sf_seq (sf_if (pb_cmp (opD_eq hu) (pf_ix (pf_var (pv 1)) pf_int) pf_str (nomark _)) (sf_one (sf_ret (pf_if (pb_cmp (opD_eq hu) (pf_var (pv 4)) pf_int (nomark _)) (pf_lst (pl_cons (pf_tup (pl_cons (pf_call (C .fcalledoff) hr (by rfl) (pl_cons (pf_var (pv 2)) pl_nil)) (pl_cons (pf_var (pv 3)) (pl_cons pf_int pl_nil)))) pl_nil)) (pf_lst pl_nil)))) sf_nil)
    (sf_one (sf_ret (pf_sortset hr (by rfl) (by rfl) T.z_sorted (by rfl) T.z_set (pf_lc (by rfl) S.nd (tg_tup [5, 6] rfl) (by decide) (pfi_list (pf_call (C .fstepsin) hr (by rfl) (pl_cons (pf_var (pv 2)) (pl_cons (pf_var (pv 3)) pl_nil)))) (blkOk_by (own := [("other", 5), ("later", 6)]) (N := N_moves_in) (sc := defScope smovesin) (by decide +kernel)) (fun _ _ _ _ _ => (pg_tup (by rfl) (pgs_cons (pg_name (i := 5) S.nd (by rfl) (by first | exact Or.inl rfl | exact Or.inr rfl)) (pgs_cons (pg_name (i := 6) S.nd (by rfl) (by first | exact Or.inl rfl | exact Or.inr rfl)) pgs_nil)))) (fun _ _ _ _ _ => (pts_one (pb_cmp (opD_eq hu) (pf_var (pv 5)) (pf_var (pv 1)) (nomark _)))) (fun _ _ _ _ _ => (pf_tup (pl_cons (pf_var (pv 6)) (pl_cons (pf_var (pv 3)) (pl_cons (pf_var (pv 4)) pl_nil))))))))))))))
theorem ok_fneedrow (T : Txt K mg) (C : ∀ i, FokP P w K mg base n (Fn.nm i) (Fn.ps i) (c i)) (F : FnP K "need_row" sneedrow f fd) (hm : mg "need_row" = some (.ref f)) : FokP P w K mg base (n + 1) "need_row" ["row"] (bodyF 4 (g_fneedrow c)) :=
  fok_of (N := N_need_row) F sc_fneedrow hm (fun _ _ _ _ _ _ us hl => match us, hl with | [_], _ => rfl) fun cdv A outer s H E hr => by
    have hu := hr.units
    have hu5 := room65 hr
    have S := sc_fneedrow
    exact (sf_seq (sf_if (pb_not (pb_val (pf_call (C .fislist) hr (by rfl) (pl_cons (pf_var (pv 0)) (pl_cons pf_int (pl_cons (pf_gint T.i_MOST_ROW (by rfl)) pl_nil)))))) (sf_one sf_never) sf_nil)
    (sf_one (sf_for PassesOwn.never (by rfl) (tg_tup [1, 2] rfl) (pfi_enum (by rfl) T.z_enumerate (pf_var (pv 0))) (pg_tup (by rfl) (pgs_cons (pg_name (i := 1) S.nd (by rfl) (by first | exact Or.inl rfl | exact Or.inr rfl)) (pgs_cons (pg_name (i := 2) S.nd (by rfl) (by first | exact Or.inl rfl | exact Or.inr rfl)) pgs_nil))) (sf_seq (sf_if (pb_w (pwb_or (pb_not (pb_val (pf_call (C .fislist) hr (by rfl) (pl_cons (pf_var (pv 2)) (pl_cons pf_int (pl_cons pf_int pl_nil)))))) (pwb_or (pb_not (pb_val (pf_isi .str (by rfl) T.z_isinstance (pf_ix (pf_var (pv 2)) pf_int) (by rfl) T.z_str (by decide +kernel)))) (pwb_or1 (pb_cmp (opD_ni hu5) (pf_ix (pf_var (pv 2)) pf_int) (pf_gtup T.t_KINDS (fun _ => rt_KINDS) (by decide) (by rfl)) (by rfl)))))) (sf_one sf_never) sf_nil)
    (sf_seq (sf_set (i := 3) S.nd (by rfl) (by first | exact Or.inl rfl | exact Or.inr rfl) (pf_dget3 (Nat.lt_of_le_of_lt (Nat.add_le_add_left (by decide : 1 ≤ 65) _) hu5) (pf_gint T.i_MOST_WORDS (by rfl)) (pf_gint T.i_MOST_EVENTS (by rfl)) (pf_gint T.i_MOST_EVENTS (by rfl)) (pf_ix (pf_var (pv 2)) pf_int) pf_int (by constructor <;> rfl)))
    (sf_one (sf_if (pb_not (pb_val (pf_call (C .fisin) hr (by rfl) (pl_cons (pf_ix (pf_var (pv 2)) pf_int) (pl_cons pf_int (pl_cons (pf_bin opD_sub (pf_var (pv 3)) pf_int) pl_nil)))))) (sf_one sf_never) sf_nil)))))))
theorem ok_fstandingsin (T : Txt K mg) (C : ∀ i, FokP P w K mg base n (Fn.nm i) (Fn.ps i) (c i)) (F : FnP K "standings_in" sstandingsin f fd) (hm : mg "standings_in" = some (.ref f)) : FokP P w K mg base (n + 1) "standings_in" ["plan", "row"] (bodyF 6 (g_fstandingsin c)) :=
  fok_of (N := N_standings_in) F sc_fstandingsin hm (fun _ _ _ _ _ _ us hl => match us, hl with | [_, _], _ => rfl) fun cdv A outer s H E hr => by
    have hu := hr.units
    have hu5 := room65 hr
    have S := sc_fstandingsin
    exact (sf_seq (sf_set (i := 2) S.nd (by rfl) (by first | exact Or.inl rfl | exact Or.inr rfl) (pf_lst (pl_cons (pf_tup (pl_cons (pf_call (C .fbegun) hr (by rfl) (pl_cons (pf_var (pv 0)) pl_nil)) (pl_cons (pf_tup pl_nil) (pl_cons pf_int pl_nil)))) pl_nil)))
    (sf_seq (sf_for PassesOwn.never (by rfl) (tg_name 3) (pfi_tup (pf_var (pv 1))) (pg_name (i := 3) S.nd (by rfl) (by first | exact Or.inl rfl | exact Or.inr rfl)) (sf_seq (sf_new S.nd (by rfl) (by first | exact Or.inl rfl | exact Or.inr rfl))
    (sf_seq (sf_for PassesOwn.never (by rfl) (tg_name 5) (pfi_list (pf_var (pv 2))) (pg_name (i := 5) S.nd (by rfl) (by first | exact Or.inl rfl | exact Or.inr rfl)) (sf_one (sf_ext (i := 4) (pv 4) (pf_call (C .fmovesin) hr (by rfl) (pl_cons (pf_var (pv 5)) (pl_cons (pf_var (pv 3)) pl_nil))))))
    (sf_frz (i := 4) (sf_one (sf_set (i := 2) S.nd (by rfl) (by first | exact Or.inl rfl | exact Or.inr rfl) (pf_sortset hr (by rfl) (by rfl) T.z_sorted (by rfl) T.z_set (pf_var (pv 4)))))))))
    (sf_one (sf_ret (pf_var (pv 2))))))
theorem ok_fstandings (T : Txt K mg) (C : ∀ i, FokP P w K mg base n (Fn.nm i) (Fn.ps i) (c i)) (F : FnP K "standings" sstandings f fd) (hm : mg "standings" = some (.ref f)) : FokP P w K mg base (n + 1) "standings" ["plan", "row"] (bodyF 2 (g_fstandings c)) :=
  fok_of (N := N_standings) F sc_fstandings hm (fun _ _ _ _ _ _ us hl => match us, hl with | [_, _], _ => rfl) fun cdv A outer s H E hr => by
    have hu := hr.units
    have hu5 := room65 hr
    have S := sc_fstandings
    exact (sf_seq (sf_expr (pf_call (C .fneedplan) hr (by rfl) (pl_cons (pf_var (pv 0)) pl_nil)))
    (sf_seq (sf_expr (pf_call (C .fneedrow) hr (by rfl) (pl_cons (pf_var (pv 1)) pl_nil)))
    (sf_one (sf_ret (pf_call (C .fstandingsin) hr (by rfl) (pl_cons (pf_var (pv 0)) (pl_cons (pf_var (pv 1)) pl_nil)))))))
theorem ok_fisrun (T : Txt K mg) (C : ∀ i, FokP P w K mg base n (Fn.nm i) (Fn.ps i) (c i)) (F : FnP K "is_run" sisrun f fd) (hm : mg "is_run" = some (.ref f)) : FokP P w K mg base (n + 1) "is_run" ["plan", "row"] (bodyF 2 (g_fisrun c)) :=
  fok_of (N := N_is_run) F sc_fisrun hm (fun _ _ _ _ _ _ us hl => match us, hl with | [_, _], _ => rfl) fun cdv A outer s H E hr => by
    have hu := hr.units
    have hu5 := room65 hr
    have S := sc_fisrun
    exact (sf_one (sf_ret (pf_cmp (opD_ne hu) (pf_call (C .fstandings) hr (by rfl) (pl_cons (pf_var (pv 0)) (pl_cons (pf_var (pv 1)) pl_nil))) (pf_lst pl_nil) (nomark _))))
theorem ok_fiswhole (T : Txt K mg) (C : ∀ i, FokP P w K mg base n (Fn.nm i) (Fn.ps i) (c i)) (F : FnP K "is_whole" siswhole f fd) (hm : mg "is_whole" = some (.ref f)) : FokP P w K mg base (n + 1) "is_whole" ["plan", "row"] (bodyF 5 (g_fiswhole c)) :=
  fok_of (N := N_is_whole) F sc_fiswhole hm (fun _ _ _ _ _ _ us hl => match us, hl with | [_, _], _ => rfl) fun cdv A outer s H E hr => by
    have hu := hr.units
    have hu5 := room65 hr
    have S := sc_fiswhole
    exact (sf_one (sf_ret (pf_cb (cr_anyD (by rfl)) (by rfl) T.z_any (by decide +kernel) (pf_lc (by rfl) S.nd (tg_tup [2, 3, 4] rfl) (by decide) (pfi_list (pf_call (C .fstandings) hr (by rfl) (pl_cons (pf_var (pv 0)) (pl_cons (pf_var (pv 1)) pl_nil)))) (blkOk_by (own := [("term", 2), ("came", 3), ("gone", 4)]) (N := N_is_whole) (sc := defScope siswhole) (by decide +kernel)) (fun _ _ _ _ _ => (pg_tup (by rfl) (pgs_cons (pg_name (i := 2) S.nd (by rfl) (by first | exact Or.inl rfl | exact Or.inr rfl)) (pgs_cons (pg_name (i := 3) S.nd (by rfl) (by first | exact Or.inl rfl | exact Or.inr rfl)) (pgs_cons (pg_name (i := 4) S.nd (by rfl) (by first | exact Or.inl rfl | exact Or.inr rfl)) pgs_nil))))) (fun _ _ _ _ _ => pts_yes) (fun _ _ _ _ _ => (pf_cmp (opD_eq hu) (pf_var (pv 2)) (pf_gtup T.t_REST (fun _ => rt_REST) (by decide) (by rfl)) (nomark _)))))))
theorem ok_ffirstwrong (T : Txt K mg) (C : ∀ i, FokP P w K mg base n (Fn.nm i) (Fn.ps i) (c i)) (F : FnP K "first_wrong" sfirstwrong f fd) (hm : mg "first_wrong" = some (.ref f)) : FokP P w K mg base (n + 1) "first_wrong" ["plan", "row"] (bodyF 3 (g_ffirstwrong c)) :=
  fok_of (N := N_first_wrong) F sc_ffirstwrong hm (fun _ _ _ _ _ _ us hl => match us, hl with | [_, _], _ => rfl) fun cdv A outer s H E hr => by
    have hu := hr.units
    have hu5 := room65 hr
    have S := sc_ffirstwrong
    exact (sf_seq (sf_expr (pf_call (C .fneedplan) hr (by rfl) (pl_cons (pf_var (pv 0)) pl_nil)))
    (sf_seq (sf_expr (pf_call (C .fneedrow) hr (by rfl) (pl_cons (pf_var (pv 1)) pl_nil)))
    (sf_seq (sf_for PassesOwn.never (by rfl) (tg_name 2) (pfi_range1 (by rfl) T.z_range (pf_cb cr_len (by rfl) T.z_len (by decide +kernel) (pf_var (pv 1)))) (pg_name (i := 2) S.nd (by rfl) (by first | exact Or.inl rfl | exact Or.inr rfl)) (sf_one (sf_if (pb_cmp (opD_eq hu) (pf_call (C .fstandingsin) hr (by rfl) (pl_cons (pf_var (pv 0)) (pl_cons (pf_slice (pf_var (pv 1)) pfo_none (pfo_some (pf_bin opD_add (pf_var (pv 2)) pf_int))) pl_nil))) (pf_lst pl_nil) (nomark _)) (sf_one (sf_ret (pf_var (pv 2)))) sf_nil)))
    (sf_one (sf_ret pf_non)))))
theorem ok_flabelsof (T : Txt K mg) (C : ∀ i, FokP P w K mg base n (Fn.nm i) (Fn.ps i) (c i)) (F : FnP K "labels_of" slabelsof f fd) (hm : mg "labels_of" = some (.ref f)) : FokP P w K mg base (n + 1) "labels_of" ["standing", "events"] (bodyF 9 (g_flabelsof c)) :=
  fok_of (N := N_labels_of) F sc_flabelsof hm (fun _ _ _ _ _ _ us hl => match us, hl with | [_, _], _ => rfl) fun cdv A outer s H E hr => by
    have hu := hr.units
    have hu5 := room65 hr
    have S := sc_flabelsof
    exact (sf_seq (sf_bd (tg_tup [2, 3, 4] rfl) (pf_var (pv 0)) (pg_tup (by rfl) (pgs_cons (pg_name (i := 2) S.nd (by rfl) (by first | exact Or.inl rfl | exact Or.inr rfl)) (pgs_cons (pg_name (i := 3) S.nd (by rfl) (by first | exact Or.inl rfl | exact Or.inr rfl)) (pgs_cons (pg_name (i := 4) S.nd (by rfl) (by first | exact Or.inl rfl | exact Or.inr rfl)) pgs_nil)))))
    (sf_seq (sf_if (pb_cmp (opD_eq hu) (pf_var (pv 2)) (pf_gtup T.t_REST (fun _ => rt_REST) (by decide) (by rfl)) (nomark _)) (sf_one (sf_ret (pf_lst pl_nil))) sf_nil)
    (sf_seq (sf_cat S.nd (by rfl) (by first | exact Or.inl rfl | exact Or.inr rfl) (pf_lc (by rfl) S.nd (tg_name 6) (by decide) (pfi_list (pf_var (pv 1))) (blkOk_by (own := [("event", 6)]) (N := N_labels_of) (sc := defScope slabelsof) (by decide +kernel)) (fun _ _ _ _ _ => (pg_name (i := 6) S.nd (by rfl) (by first | exact Or.inl rfl | exact Or.inr rfl))) (fun _ _ _ _ _ => (pts_one (pb_cmp (opD_ni hu5) (pf_var (pv 6)) (pf_var (pv 3)) (by rfl)))) (fun _ _ _ _ _ => (pf_tup (pl_cons pf_str (pl_cons (pf_var (pv 6)) pl_nil))))) (pf_lst (pl_cons (pf_tup (pl_cons pf_str (pl_cons pf_int pl_nil))) pl_nil)))
    (sf_seq (sf_if (pb_cmp (opD_eq hu) (pf_var (pv 4)) pf_int (nomark _)) (sf_one (sf_app (i := 5) (pv 5) (pf_tup (pl_cons pf_str (pl_cons pf_int pl_nil))))) sf_nil)
    (sf_frz (i := 5) (sf_one (sf_ret (pf_sortset hr (by rfl) (by rfl) T.z_sorted (by rfl) T.z_set (pf_bin opD_add (pf_var (pv 5)) (pf_lc (by rfl) S.nd (tg_tup [7, 8] rfl) (by decide) (pfi_list (pf_call (C .fstepsin) hr (by rfl) (pl_cons (pf_var (pv 2)) (pl_cons (pf_var (pv 3)) pl_nil)))) (blkOk_by (own := [("label", 7), ("later", 8)]) (N := N_labels_of) (sc := defScope slabelsof) (by decide +kernel)) (fun _ _ _ _ _ => (pg_tup (by rfl) (pgs_cons (pg_name (i := 7) S.nd (by rfl) (by first | exact Or.inl rfl | exact Or.inr rfl)) (pgs_cons (pg_name (i := 8) S.nd (by rfl) (by first | exact Or.inl rfl | exact Or.inr rfl)) pgs_nil)))) (fun _ _ _ _ _ => pts_yes) (fun _ _ _ _ _ => (pf_var (pv 7)))))))))))))
theorem ok_fLparts (T : Txt K mg) (C : ∀ i, FokP P w K mg base n (Fn.nm i) (Fn.ps i) (c i)) (F : FnP K "_law_parts" sLparts f fd) (hm : mg "_law_parts" = some (.ref f)) : FokP P w K mg base (n + 1) "_law_parts" ["_law_plan_here"] (bodyF 1 (g_fLparts c)) :=
  fok_of (N := N__law_parts) F sc_fLparts hm (fun _ _ _ _ _ _ us hl => match us, hl with | [_], _ => rfl) fun cdv A outer s H E hr => by
    have hu := hr.units
    have hu5 := room65 hr
    have S := sc_fLparts
    exact (sf_seq (sf_if (pb_cmp (opD_in hu5) (pf_ix (pf_var (pv 0)) pf_int) (pf_lst (pl_cons pf_str (pl_cons pf_str (pl_cons pf_str (pl_cons pf_str pl_nil))))) (by rfl)) (sf_one (sf_ret (pf_tup pl_nil))) sf_nil)
    (sf_one (sf_ret (pf_if (pb_cmp (opD_eq hu) (pf_ix (pf_var (pv 0)) pf_int) pf_str (nomark _)) (pf_slice (pf_var (pv 0)) (pfo_some pf_int) pfo_none) (pf_slice (pf_var (pv 0)) (pfo_some pf_int) pfo_none)))))
theorem ok_fLleaves (T : Txt K mg) (C : ∀ i, FokP P w K mg base n (Fn.nm i) (Fn.ps i) (c i)) (F : FnP K "_law_leaves" sLleaves f fd) (hm : mg "_law_leaves" = some (.ref f)) : FokP P w K mg base (n + 1) "_law_leaves" ["_law_plan_here"] (bodyF 3 (g_fLleaves c)) :=
  fok_of (N := N__law_leaves) F sc_fLleaves hm (fun _ _ _ _ _ _ us hl => match us, hl with | [_], _ => rfl) fun cdv A outer s H E hr => by
    have hu := hr.units
    have hu5 := room65 hr
    have S := sc_fLleaves
    exact (sf_seq (sf_set (i := 1) S.nd (by rfl) (by first | exact Or.inl rfl | exact Or.inr rfl) (pf_if (pb_cmp (opD_eq hu) (pf_call (C .fLparts) hr (by rfl) (pl_cons (pf_var (pv 0)) pl_nil)) (pf_tup pl_nil) (nomark _)) (pf_lst (pl_cons (pf_var (pv 0)) pl_nil)) (pf_lst pl_nil)))
    (sf_seq (sf_for PassesOwn.never (by rfl) (tg_name 2) (pfi_tup (pf_call (C .fLparts) hr (by rfl) (pl_cons (pf_var (pv 0)) pl_nil))) (pg_name (i := 2) S.nd (by rfl) (by first | exact Or.inl rfl | exact Or.inr rfl)) (sf_one (sf_set (i := 1) S.nd (by rfl) (by first | exact Or.inl rfl | exact Or.inr rfl) (pf_bin opD_add (pf_var (pv 1)) (pf_call (C .fLleaves) hr (by rfl) (pl_cons (pf_var (pv 2)) pl_nil))))))
    (sf_one (sf_ret (pf_var (pv 1))))))
theorem ok_fLall (T : Txt K mg) (C : ∀ i, FokP P w K mg base n (Fn.nm i) (Fn.ps i) (c i)) (F : FnP K "_law_all" sLall f fd) (hm : mg "_law_all" = some (.ref f)) : FokP P w K mg base (n + 1) "_law_all" ["_law_terms"] (bodyF 3 (g_fLall c)) :=
  fok_of (N := N__law_all) F sc_fLall hm (fun _ _ _ _ _ _ us hl => match us, hl with | [_], _ => rfl) fun cdv A outer s H E hr => by
    have hu := hr.units
    have hu5 := room65 hr
    have S := sc_fLall
    exact (sf_seq (sf_setLc (i := 1) (by rfl) S.nd (tg_name 2) (by decide) (by rfl) (by rfl) (sw_true (by rfl) (by rfl) (by rfl) (by decide +kernel)) (pfi_list (pf_var (pv 0))) (blkOk_by (own := [("_law_term", 2)]) (N := N__law_all) (sc := defScope sLall) (by decide +kernel)) (fun _ _ _ _ _ => (pg_name (i := 2) S.nd (by rfl) (by first | exact Or.inl rfl | exact Or.inr rfl))) (fun _ _ _ _ _ => (pts_one (pb_cmp (opD_ne hu) (pf_var (pv 2)) (pf_tup (pl_cons pf_str pl_nil)) (nomark _)))) (fun _ _ _ _ _ => (pf_var (pv 2))))
    (sf_one (sf_ret (pf_if (pb_cmp opD_gt (pf_cb cr_len (by rfl) T.z_len (by decide +kernel) (pf_var (pv 1))) pf_int (nomark _)) (pf_bin opD_add (pf_tup (pl_cons pf_str pl_nil)) (pf_ct cr_tuple (by rfl) T.z_tuple (by decide +kernel) (pf_var (pv 1)))) (pf_if (pb_cmp (opD_ne hu) (pf_var (pv 1)) (pf_lst pl_nil) (nomark _)) (pf_ix (pf_var (pv 1)) pf_int) (pf_tup (pl_cons pf_str pl_nil)))))))
theorem ok_fLkeep (T : Txt K mg) (C : ∀ i, FokP P w K mg base n (Fn.nm i) (Fn.ps i) (c i)) (F : FnP K "_law_keep" sLkeep f fd) (hm : mg "_law_keep" = some (.ref f)) : FokP P w K mg base (n + 1) "_law_keep" ["_law_term"] (bodyF 1 (g_fLkeep c)) :=
  fok_of (N := N__law_keep) F sc_fLkeep hm (fun _ _ _ _ _ _ us hl => match us, hl with | [_], _ => rfl) fun cdv A outer s H E hr => by
    have hu := hr.units
    have hu5 := room65 hr
    have S := sc_fLkeep
    exact (sf_one (sf_ret (pf_if (pb_cmp (opD_in hu5) (pf_ix (pf_var (pv 0)) pf_int) (pf_lst (pl_cons pf_str (pl_cons pf_str pl_nil))) (by rfl)) (pf_var (pv 0)) (pf_tup (pl_cons pf_str (pl_cons (pf_var (pv 0)) pl_nil))))))
theorem ok_fLjoin (T : Txt K mg) (C : ∀ i, FokP P w K mg base n (Fn.nm i) (Fn.ps i) (c i)) (F : FnP K "_law_join" sLjoin f fd) (hm : mg "_law_join" = some (.ref f)) : FokP P w K mg base (n + 1) "_law_join" ["_law_term", "_law_plans"] (bodyF 2 (g_fLjoin c)) :=
  fok_of (N := N__law_join) F sc_fLjoin hm (fun _ _ _ _ _ _ us hl => match us, hl with | [_, _], _ => rfl) fun cdv A outer s H E hr => by
    have hu := hr.units
    have hu5 := room65 hr
    have S := sc_fLjoin
    exact (sf_seq (sf_if (pb_cmp (opD_eq hu) (pf_var (pv 1)) (pf_tup pl_nil) (nomark _)) (sf_one (sf_ret (pf_var (pv 0)))) sf_nil)
    (sf_one (sf_ret (pf_if (pb_cmp (opD_eq hu) (pf_var (pv 0)) (pf_tup (pl_cons pf_str pl_nil)) (nomark _)) (pf_call (C .fLjoin) hr (by rfl) (pl_cons (pf_call (C .fLbegin) hr (by rfl) (pl_cons (pf_ix (pf_var (pv 1)) pf_int) pl_nil)) (pl_cons (pf_slice (pf_var (pv 1)) (pfo_some pf_int) pfo_none) pl_nil))) (pf_bin opD_add (pf_tup (pl_cons pf_str (pl_cons (pf_var (pv 0)) pl_nil))) (pf_var (pv 1)))))))
theorem ok_fLrace (T : Txt K mg) (C : ∀ i, FokP P w K mg base n (Fn.nm i) (Fn.ps i) (c i)) (F : FnP K "_law_race" sLrace f fd) (hm : mg "_law_race" = some (.ref f)) : FokP P w K mg base (n + 1) "_law_race" ["_law_terms"] (bodyF 2 (g_fLrace c)) :=
  fok_of (N := N__law_race) F sc_fLrace hm (fun _ _ _ _ _ _ us hl => match us, hl with | [_], _ => rfl) fun cdv A outer s H E hr => by
    have hu := hr.units
    have hu5 := room65 hr
    have S := sc_fLrace
    exact (sf_seq (sf_if (pb_cmp (opD_in hu5) (pf_tup (pl_cons pf_str pl_nil)) (pf_var (pv 0)) (by rfl)) (sf_one (sf_ret (pf_call (C .fLall) hr (by rfl) (pl_cons (pf_lc (by rfl) S.nd (tg_name 1) (by decide) (pfi_list (pf_var (pv 0))) (blkOk_by (own := [("_law_term", 1)]) (N := N__law_race) (sc := defScope sLrace) (by decide +kernel)) (fun _ _ _ _ _ => (pg_name (i := 1) S.nd (by rfl) (by first | exact Or.inl rfl | exact Or.inr rfl))) (fun _ _ _ _ _ => pts_yes) (fun _ _ _ _ _ => (pf_call (C .fLoff) hr (by rfl) (pl_cons (pf_var (pv 1)) pl_nil)))) pl_nil)))) sf_nil)
    (sf_one (sf_ret (pf_bin opD_add (pf_tup (pl_cons pf_str pl_nil)) (pf_ct cr_tuple (by rfl) T.z_tuple (by decide +kernel) (pf_var (pv 0)))))))
theorem ok_fLhold (T : Txt K mg) (C : ∀ i, FokP P w K mg base n (Fn.nm i) (Fn.ps i) (c i)) (F : FnP K "_law_hold" sLhold f fd) (hm : mg "_law_hold" = some (.ref f)) : FokP P w K mg base (n + 1) "_law_hold" ["_law_head", "_law_term"] (bodyF 2 (g_fLhold c)) :=
  fok_of (N := N__law_hold) F sc_fLhold hm (fun _ _ _ _ _ _ us hl => match us, hl with | [_, _], _ => rfl) fun cdv A outer s H E hr => by
    have hu := hr.units
    have hu5 := room65 hr
    have S := sc_fLhold
    exact (sf_seq (sf_if (pb_cmp (opD_eq hu) (pf_ix (pf_var (pv 0)) pf_int) pf_str (nomark _)) (sf_one (sf_ret (pf_if (pb_cmp (opD_ne hu) (pf_var (pv 1)) (pf_tup (pl_cons pf_str pl_nil)) (nomark _)) (pf_tup (pl_cons pf_str (pl_cons (pf_ix (pf_var (pv 0)) pf_int) (pl_cons (pf_var (pv 1)) pl_nil)))) (pf_var (pv 1))))) sf_nil)
    (sf_seq (sf_if (pb_cmp (opD_eq hu) (pf_ix (pf_var (pv 0)) pf_int) pf_str (nomark _)) (sf_one (sf_ret (pf_if (pb_cmp (opD_ne hu) (pf_var (pv 1)) (pf_tup (pl_cons pf_str pl_nil)) (nomark _)) (pf_tup (pl_cons pf_str (pl_cons (pf_var (pv 1)) (pl_cons (pf_ix (pf_var (pv 0)) pf_int) pl_nil)))) (pf_call (C .fLkeep) hr (by rfl) (pl_cons (pf_call (C .fLbegin) hr (by rfl) (pl_cons (pf_ix (pf_var (pv 0)) pf_int) pl_nil)) pl_nil))))) sf_nil)
    (sf_one (sf_ret (pf_call (C .fLkeep) hr (by rfl) (pl_cons (pf_var (pv 1)) pl_nil))))))
theorem ok_fLbegin (T : Txt K mg) (C : ∀ i, FokP P w K mg base n (Fn.nm i) (Fn.ps i) (c i)) (F : FnP K "_law_begin" sLbegin f fd) (hm : mg "_law_begin" = some (.ref f)) : FokP P w K mg base (n + 1) "_law_begin" ["_law_plan_here"] (bodyF 3 (g_fLbegin c)) :=
  fok_of (N := N__law_begin) F sc_fLbegin hm (fun _ _ _ _ _ _ us hl => match us, hl with | [_], _ => rfl) fun cdv A outer s H E hr => by
    have hu := hr.units
    have hu5 := room65 hr
    have S := sc_fLbegin
    exact (sf_seq (sf_if (pb_cmp (opD_in hu5) (pf_ix (pf_var (pv 0)) pf_int) (pf_lst (pl_cons pf_str (pl_cons pf_str (pl_cons pf_str pl_nil)))) (by rfl)) (sf_one (sf_ret (pf_var (pv 0)))) sf_nil)
    (sf_seq (sf_if (pb_cmp (opD_eq hu) (pf_ix (pf_var (pv 0)) pf_int) pf_str (nomark _)) (sf_one (sf_ret (pf_call (C .fLjoin) hr (by rfl) (pl_cons (pf_call (C .fLbegin) hr (by rfl) (pl_cons (pf_ix (pf_var (pv 0)) pf_int) pl_nil)) (pl_cons (pf_slice (pf_var (pv 0)) (pfo_some pf_int) pfo_none) pl_nil))))) sf_nil)
    (sf_seq (sf_if (pb_cmp (opD_in hu5) (pf_ix (pf_var (pv 0)) pf_int) (pf_lst (pl_cons pf_str (pl_cons pf_str pl_nil))) (by rfl)) (sf_seq (sf_setLc (i := 1) (by rfl) S.nd (tg_name 2) (by decide) (by rfl) (by rfl) (sw_true (by rfl) (by rfl) (by rfl) (by decide +kernel)) (pfi_tup (pf_slice (pf_var (pv 0)) (pfo_some pf_int) pfo_none)) (blkOk_by (own := [("_law_piece", 2)]) (N := N__law_begin) (sc := defScope sLbegin) (by decide +kernel)) (fun _ _ _ _ _ => (pg_name (i := 2) S.nd (by rfl) (by first | exact Or.inl rfl | exact Or.inr rfl))) (fun _ _ _ _ _ => pts_yes) (fun _ _ _ _ _ => (pf_call (C .fLbegin) hr (by rfl) (pl_cons (pf_var (pv 2)) pl_nil))))
    (sf_one (sf_ret (pf_if (pb_cmp (opD_eq hu) (pf_ix (pf_var (pv 0)) pf_int) pf_str (nomark _)) (pf_call (C .fLall) hr (by rfl) (pl_cons (pf_var (pv 1)) pl_nil)) (pf_call (C .fLrace) hr (by rfl) (pl_cons (pf_var (pv 1)) pl_nil)))))) sf_nil)
    (sf_seq (sf_if (pb_cmp (opD_eq hu) (pf_ix (pf_var (pv 0)) pf_int) pf_str (nomark _)) (sf_one (sf_ret (pf_call (C .fLhold) hr (by rfl) (pl_cons (pf_tup (pl_cons pf_str (pl_cons (pf_ix (pf_var (pv 0)) pf_int) pl_nil))) (pl_cons (pf_call (C .fLbegin) hr (by rfl) (pl_cons (pf_ix (pf_var (pv 0)) pf_int) pl_nil)) pl_nil))))) sf_nil)
    (sf_one (sf_ret (pf_call (C .fLhold) hr (by rfl) (pl_cons (pf_if (pb_cmp (opD_eq hu) (pf_ix (pf_var (pv 0)) pf_int) pf_str (nomark _)) (pf_tup (pl_cons pf_str (pl_cons (pf_ix (pf_var (pv 0)) pf_int) pl_nil))) (pf_tup (pl_cons pf_str pl_nil))) (pl_cons (pf_call (C .fLbegin) hr (by rfl) (pl_cons (pf_ix (pf_var (pv 0)) pf_int) pl_nil)) pl_nil)))))))))
theorem ok_fLoff (T : Txt K mg) (C : ∀ i, FokP P w K mg base n (Fn.nm i) (Fn.ps i) (c i)) (F : FnP K "_law_off" sLoff f fd) (hm : mg "_law_off" = some (.ref f)) : FokP P w K mg base (n + 1) "_law_off" ["_law_term"] (bodyF 2 (g_fLoff c)) :=
  fok_of (N := N__law_off) F sc_fLoff hm (fun _ _ _ _ _ _ us hl => match us, hl with | [_], _ => rfl) fun cdv A outer s H E hr => by
    have hu := hr.units
    have hu5 := room65 hr
    have S := sc_fLoff
    exact (sf_seq (sf_if (pb_cmp (opD_in hu5) (pf_ix (pf_var (pv 0)) pf_int) (pf_lst (pl_cons pf_str (pl_cons pf_str (pl_cons pf_str pl_nil)))) (by rfl)) (sf_one (sf_ret (pf_tup (pl_cons pf_str pl_nil)))) sf_nil)
    (sf_seq (sf_if (pb_cmp (opD_in hu5) (pf_ix (pf_var (pv 0)) pf_int) (pf_lst (pl_cons pf_str (pl_cons pf_str pl_nil))) (by rfl)) (sf_one (sf_ret (pf_call (C .fLall) hr (by rfl) (pl_cons (pf_lc (by rfl) S.nd (tg_name 1) (by decide) (pfi_tup (pf_slice (pf_var (pv 0)) (pfo_some pf_int) pfo_none)) (blkOk_by (own := [("_law_piece", 1)]) (N := N__law_off) (sc := defScope sLoff) (by decide +kernel)) (fun _ _ _ _ _ => (pg_name (i := 1) S.nd (by rfl) (by first | exact Or.inl rfl | exact Or.inr rfl))) (fun _ _ _ _ _ => pts_yes) (fun _ _ _ _ _ => (pf_call (C .fLoff) hr (by rfl) (pl_cons (pf_var (pv 1)) pl_nil)))) pl_nil)))) sf_nil)
    (sf_seq (sf_if (pb_cmp (opD_eq hu) (pf_ix (pf_var (pv 0)) pf_int) pf_str (nomark _)) (sf_one (sf_ret (pf_call (C .fLhold) hr (by rfl) (pl_cons (pf_tup (pl_cons pf_str (pl_cons (pf_ix (pf_var (pv 0)) pf_int) pl_nil))) (pl_cons (pf_call (C .fLoff) hr (by rfl) (pl_cons (pf_ix (pf_var (pv 0)) pf_int) pl_nil)) pl_nil))))) sf_nil)
    (sf_one (sf_ret (pf_if (pb_cmp (opD_eq hu) (pf_ix (pf_var (pv 0)) pf_int) pf_str (nomark _)) (pf_var (pv 0)) (pf_call (C .fLoff) hr (by rfl) (pl_cons (pf_if (pb_cmp (opD_eq hu) (pf_ix (pf_var (pv 0)) pf_int) pf_str (nomark _)) (pf_ix (pf_var (pv 0)) pf_int) (pf_ix (pf_var (pv 0)) pf_int)) pl_nil))))))))
theorem ok_fLaround (T : Txt K mg) (C : ∀ i, FokP P w K mg base n (Fn.nm i) (Fn.ps i) (c i)) (F : FnP K "_law_around" sLaround f fd) (hm : mg "_law_around" = some (.ref f)) : FokP P w K mg base (n + 1) "_law_around" ["_law_term", "_law_piece"] (bodyF 2 (g_fLaround c)) :=
  fok_of (N := N__law_around) F sc_fLaround hm (fun _ _ _ _ _ _ us hl => match us, hl with | [_, _], _ => rfl) fun cdv A outer s H E hr => by
    have hu := hr.units
    have hu5 := room65 hr
    have S := sc_fLaround
    exact (sf_seq (sf_if (pb_cmp (opD_eq hu) (pf_ix (pf_var (pv 0)) pf_int) pf_str (nomark _)) (sf_one (sf_ret (pf_call (C .fLjoin) hr (by rfl) (pl_cons (pf_var (pv 1)) (pl_cons (pf_slice (pf_var (pv 0)) (pfo_some pf_int) pfo_none) pl_nil))))) sf_nil)
    (sf_seq (sf_if (pb_cmp (opD_eq hu) (pf_ix (pf_var (pv 0)) pf_int) pf_str (nomark _)) (sf_one (sf_ret (pf_call (C .fLhold) hr (by rfl) (pl_cons (pf_tup (pl_cons pf_str (pl_cons (pf_ix (pf_var (pv 0)) pf_int) pl_nil))) (pl_cons (pf_var (pv 1)) pl_nil))))) sf_nil)
    (sf_one (sf_ret (pf_call (C .fLhold) hr (by rfl) (pl_cons (pf_if (pb_cmp (opD_eq hu) (pf_ix (pf_var (pv 0)) pf_int) pf_str (nomark _)) (pf_tup (pl_cons pf_str (pl_cons (pf_ix (pf_var (pv 0)) pf_int) pl_nil))) (pf_tup (pl_cons pf_str pl_nil))) (pl_cons (pf_var (pv 1)) pl_nil)))))))
theorem ok_fLsteps (T : Txt K mg) (C : ∀ i, FokP P w K mg base n (Fn.nm i) (Fn.ps i) (c i)) (F : FnP K "_law_steps" sLsteps f fd) (hm : mg "_law_steps" = some (.ref f)) : FokP P w K mg base (n + 1) "_law_steps" ["_law_term", "_law_came"] (bodyF 7 (g_fLsteps c)) :=
  fok_of (N := N__law_steps) F sc_fLsteps hm (fun _ _ _ _ _ _ us hl => match us, hl with | [_, _], _ => rfl) fun cdv A outer s H E hr => by
    have hu := hr.units
    have hu5 := room65 hr
    have S := sc_fLsteps
    exact (sf_seq (sf_if (pb_cmp (opD_eq hu) (pf_ix (pf_var (pv 0)) pf_int) pf_str (nomark _)) (sf_one (sf_ret (pf_lst (pl_cons (pf_tup (pl_cons (pf_var (pv 0)) (pl_cons (pf_tup (pl_cons pf_str pl_nil)) pl_nil))) pl_nil)))) sf_nil)
    (sf_seq (sf_if (pb_cmp (opD_in hu5) (pf_ix (pf_var (pv 0)) pf_int) (pf_lst (pl_cons pf_str (pl_cons pf_str pl_nil))) (by rfl)) (sf_one (sf_ret (pf_if (pb_w (pwb_and (pb_cmp (opD_eq hu) (pf_ix (pf_var (pv 0)) pf_int) pf_str (nomark _)) (pwb_and1 (pb_cmp (opD_in hu5) (pf_ix (pf_var (pv 0)) pf_int) (pf_var (pv 1)) (by rfl))))) (pf_lst (pl_cons (pf_tup (pl_cons (pf_tup (pl_cons pf_str (pl_cons (pf_ix (pf_var (pv 0)) pf_int) pl_nil))) (pl_cons (pf_tup (pl_cons pf_str pl_nil)) pl_nil))) pl_nil)) (pf_lst pl_nil)))) sf_nil)
    (sf_seq (sf_new S.nd (by rfl) (by first | exact Or.inl rfl | exact Or.inr rfl))
    (sf_seq (sf_if (pb_cmp (opD_in hu5) (pf_ix (pf_var (pv 0)) pf_int) (pf_lst (pl_cons pf_str (pl_cons pf_str pl_nil))) (by rfl)) (sf_seq (sf_for PassesOwn.never (by rfl) (tg_name 3) (pfi_range2 (by rfl) T.z_range pf_int (pf_cb cr_len (by rfl) T.z_len (by decide +kernel) (pf_var (pv 0)))) (pg_name (i := 3) S.nd (by rfl) (by first | exact Or.inl rfl | exact Or.inr rfl)) (sf_one (sf_for PassesOwn.never (by rfl) (tg_tup [4, 5] rfl) (pfi_list (pf_call (C .fLsteps) hr (by rfl) (pl_cons (pf_ix (pf_var (pv 0)) (pf_var (pv 3))) (pl_cons (pf_var (pv 1)) pl_nil)))) (pg_tup (by rfl) (pgs_cons (pg_name (i := 4) S.nd (by rfl) (by first | exact Or.inl rfl | exact Or.inr rfl)) (pgs_cons (pg_name (i := 5) S.nd (by rfl) (by first | exact Or.inl rfl | exact Or.inr rfl)) pgs_nil))) (sf_seq (sf_set (i := 6) S.nd (by rfl) (by first | exact Or.inl rfl | exact Or.inr rfl) (pf_bin opD_add (pf_bin opD_add (pf_ct cr_list (by rfl) T.z_list (by decide +kernel) (pf_slice (pf_var (pv 0)) (pfo_some pf_int) (pfo_some (pf_var (pv 3))))) (pf_lst (pl_cons (pf_var (pv 5)) pl_nil))) (pf_ct cr_list (by rfl) T.z_list (by decide +kernel) (pf_slice (pf_var (pv 0)) (pfo_some (pf_bin opD_add (pf_var (pv 3)) pf_int)) pfo_none))))
    (sf_one (sf_app (i := 2) (pv 2) (pf_tup (pl_cons (pf_var (pv 4)) (pl_cons (pf_if (pb_cmp (opD_eq hu) (pf_ix (pf_var (pv 0)) pf_int) pf_str (nomark _)) (pf_call (C .fLall) hr (by rfl) (pl_cons (pf_var (pv 6)) pl_nil)) (pf_call (C .fLrace) hr (by rfl) (pl_cons (pf_var (pv 6)) pl_nil))) pl_nil)))))))))
    (sf_frz (i := 2) (sf_one (sf_ret (pf_var (pv 2)))))) sf_nil)
    (sf_seq (sf_for PassesOwn.never (by rfl) (tg_tup [4, 5] rfl) (pfi_list (pf_call (C .fLsteps) hr (by rfl) (pl_cons (pf_if (pb_cmp (opD_eq hu) (pf_ix (pf_var (pv 0)) pf_int) pf_str (nomark _)) (pf_ix (pf_var (pv 0)) pf_int) (pf_ix (pf_var (pv 0)) pf_int)) (pl_cons (pf_var (pv 1)) pl_nil)))) (pg_tup (by rfl) (pgs_cons (pg_name (i := 4) S.nd (by rfl) (by first | exact Or.inl rfl | exact Or.inr rfl)) (pgs_cons (pg_name (i := 5) S.nd (by rfl) (by first | exact Or.inl rfl | exact Or.inr rfl)) pgs_nil))) (sf_one (sf_app (i := 2) (pv 2) (pf_tup (pl_cons (pf_var (pv 4)) (pl_cons (pf_call (C .fLaround) hr (by rfl) (pl_cons (pf_var (pv 0)) (pl_cons (pf_var (pv 5)) pl_nil))) pl_nil))))))
    (sf_frz (i := 2) (sf_one (sf_ret (pf_var (pv 2))))))))))
theorem ok_fLtick (T : Txt K mg) (C : ∀ i, FokP P w K mg base n (Fn.nm i) (Fn.ps i) (c i)) (F : FnP K "_law_tick" sLtick f fd) (hm : mg "_law_tick" = some (.ref f)) : FokP P w K mg base (n + 1) "_law_tick" ["_law_term"] (bodyF 4 (g_fLtick c)) :=
  fok_of (N := N__law_tick) F sc_fLtick hm (fun _ _ _ _ _ _ us hl => match us, hl with | [_], _ => rfl) fun cdv A outer s H E hr => by
    have hu := hr.units
    have hu5 := room65 hr
    have S := sc_fLtick
    exact (sf_seq (sf_if (pb_cmp (opD_in hu5) (pf_ix (pf_var (pv 0)) pf_int) (pf_lst (pl_cons pf_str (pl_cons pf_str (pl_cons pf_str pl_nil)))) (by rfl)) (sf_one (sf_ret (pf_var (pv 0)))) sf_nil)
    (sf_seq (sf_if (pb_cmp (opD_in hu5) (pf_ix (pf_var (pv 0)) pf_int) (pf_lst (pl_cons pf_str (pl_cons pf_str pl_nil))) (by rfl)) (sf_seq (sf_setLc (i := 1) (by rfl) S.nd (tg_name 2) (by decide) (by rfl) (by rfl) (sw_true (by rfl) (by rfl) (by rfl) (by decide +kernel)) (pfi_tup (pf_slice (pf_var (pv 0)) (pfo_some pf_int) pfo_none)) (blkOk_by (own := [("_law_piece", 2)]) (N := N__law_tick) (sc := defScope sLtick) (by decide +kernel)) (fun _ _ _ _ _ => (pg_name (i := 2) S.nd (by rfl) (by first | exact Or.inl rfl | exact Or.inr rfl))) (fun _ _ _ _ _ => pts_yes) (fun _ _ _ _ _ => (pf_call (C .fLtick) hr (by rfl) (pl_cons (pf_var (pv 2)) pl_nil))))
    (sf_one (sf_ret (pf_if (pb_cmp (opD_eq hu) (pf_ix (pf_var (pv 0)) pf_int) pf_str (nomark _)) (pf_call (C .fLall) hr (by rfl) (pl_cons (pf_var (pv 1)) pl_nil)) (pf_call (C .fLrace) hr (by rfl) (pl_cons (pf_var (pv 1)) pl_nil)))))) sf_nil)
    (sf_seq (sf_if (pb_cmp (opD_eq hu) (pf_ix (pf_var (pv 0)) pf_int) pf_str (nomark _)) (sf_seq (sf_set (i := 3) S.nd (by rfl) (by first | exact Or.inl rfl | exact Or.inr rfl) (pf_call (C .fLtick) hr (by rfl) (pl_cons (pf_ix (pf_var (pv 0)) pf_int) pl_nil)))
    (sf_one (sf_ret (pf_if (pb_cmp (opD_eq hu) (pf_ix (pf_var (pv 0)) pf_int) pf_int (nomark _)) (pf_call (C .fLoff) hr (by rfl) (pl_cons (pf_var (pv 3)) pl_nil)) (pf_call (C .fLhold) hr (by rfl) (pl_cons (pf_tup (pl_cons pf_str (pl_cons (pf_bin opD_sub (pf_ix (pf_var (pv 0)) pf_int) pf_int) pl_nil))) (pl_cons (pf_var (pv 3)) pl_nil))))))) sf_nil)
    (sf_one (sf_ret (pf_call (C .fLaround) hr (by rfl) (pl_cons (pf_var (pv 0)) (pl_cons (pf_call (C .fLtick) hr (by rfl) (pl_cons (pf_ix (pf_var (pv 0)) pf_int) pl_nil)) pl_nil))))))))
theorem ok_fLnext (T : Txt K mg) (C : ∀ i, FokP P w K mg base n (Fn.nm i) (Fn.ps i) (c i)) (F : FnP K "_law_next" sLnext f fd) (hm : mg "_law_next" = some (.ref f)) : FokP P w K mg base (n + 1) "_law_next" ["_law_here", "_law_label"] (bodyF 7 (g_fLnext c)) :=
  fok_of (N := N__law_next) F sc_fLnext hm (fun _ _ _ _ _ _ us hl => match us, hl with | [_, _], _ => rfl) fun cdv A outer s H E hr => by
    have hu := hr.units
    have hu5 := room65 hr
    have S := sc_fLnext
    exact (sf_seq (sf_bd (tg_tup [2, 3, 4] rfl) (pf_var (pv 0)) (pg_tup (by rfl) (pgs_cons (pg_name (i := 2) S.nd (by rfl) (by first | exact Or.inl rfl | exact Or.inr rfl)) (pgs_cons (pg_name (i := 3) S.nd (by rfl) (by first | exact Or.inl rfl | exact Or.inr rfl)) (pgs_cons (pg_name (i := 4) S.nd (by rfl) (by first | exact Or.inl rfl | exact Or.inr rfl)) pgs_nil)))))
    (sf_seq (sf_if (pb_w (pwb_or (pb_cmp (opD_eq hu) (pf_var (pv 2)) (pf_tup (pl_cons pf_str pl_nil)) (nomark _)) (pwb_or (pb_w (pwb_and (pb_cmp (opD_eq hu) (pf_ix (pf_var (pv 1)) pf_int) pf_str (nomark _)) (pwb_and1 (pb_cmp (opD_in hu5) (pf_ix (pf_var (pv 1)) pf_int) (pf_var (pv 3)) (by rfl))))) (pwb_or1 (pb_w (pwb_and (pb_cmp (opD_eq hu) (pf_ix (pf_var (pv 1)) pf_int) pf_str (nomark _)) (pwb_and1 (pb_cmp (opD_eq hu) (pf_var (pv 4)) pf_int (nomark _))))))))) (sf_one (sf_ret (pf_lst pl_nil))) sf_nil)
    (sf_seq (sf_if (pb_cmp (opD_eq hu) (pf_ix (pf_var (pv 1)) pf_int) pf_str (nomark _)) (sf_one (sf_ret (pf_lst (pl_cons (pf_tup (pl_cons (pf_var (pv 2)) (pl_cons (pf_ct cr_tuple (by rfl) T.z_tuple (by decide +kernel) (pf_cb (cr_sort hr) (by rfl) T.z_sorted (by decide +kernel) (pf_bin opD_add (pf_var (pv 3)) (pf_tup (pl_cons (pf_ix (pf_var (pv 1)) pf_int) pl_nil))))) (pl_cons (pf_var (pv 4)) pl_nil)))) pl_nil)))) sf_nil)
    (sf_seq (sf_if (pb_cmp (opD_in hu5) (pf_ix (pf_var (pv 1)) pf_int) (pf_lst (pl_cons pf_str (pl_cons pf_str pl_nil))) (by rfl)) (sf_one (sf_ret (pf_lst (pl_cons (pf_if (pb_cmp (opD_eq hu) (pf_ix (pf_var (pv 1)) pf_int) pf_str (nomark _)) (pf_tup (pl_cons (pf_call (C .fLtick) hr (by rfl) (pl_cons (pf_var (pv 2)) pl_nil)) (pl_cons (pf_var (pv 3)) (pl_cons (pf_var (pv 4)) pl_nil)))) (pf_tup (pl_cons (pf_call (C .fLoff) hr (by rfl) (pl_cons (pf_var (pv 2)) pl_nil)) (pl_cons (pf_var (pv 3)) (pl_cons pf_int pl_nil))))) pl_nil)))) sf_nil)
    (sf_one (sf_ret (pf_sortset hr (by rfl) (by rfl) T.z_sorted (by rfl) T.z_set (pf_lc (by rfl) S.nd (tg_tup [5, 6] rfl) (by decide) (pfi_list (pf_call (C .fLsteps) hr (by rfl) (pl_cons (pf_var (pv 2)) (pl_cons (pf_var (pv 3)) pl_nil)))) (blkOk_by (own := [("_law_other", 5), ("_law_later", 6)]) (N := N__law_next) (sc := defScope sLnext) (by decide +kernel)) (fun _ _ _ _ _ => (pg_tup (by rfl) (pgs_cons (pg_name (i := 5) S.nd (by rfl) (by first | exact Or.inl rfl | exact Or.inr rfl)) (pgs_cons (pg_name (i := 6) S.nd (by rfl) (by first | exact Or.inl rfl | exact Or.inr rfl)) pgs_nil)))) (fun _ _ _ _ _ => (pts_one (pb_cmp (opD_eq hu) (pf_var (pv 5)) (pf_var (pv 1)) (nomark _)))) (fun _ _ _ _ _ => (pf_tup (pl_cons (pf_var (pv 6)) (pl_cons (pf_var (pv 3)) (pl_cons (pf_var (pv 4)) pl_nil)))))))))))))
theorem ok_fLlabels (T : Txt K mg) (C : ∀ i, FokP P w K mg base n (Fn.nm i) (Fn.ps i) (c i)) (F : FnP K "_law_labels" sLlabels f fd) (hm : mg "_law_labels" = some (.ref f)) : FokP P w K mg base (n + 1) "_law_labels" ["_law_here", "_law_coming"] (bodyF 9 (g_fLlabels c)) :=
  fok_of (N := N__law_labels) F sc_fLlabels hm (fun _ _ _ _ _ _ us hl => match us, hl with | [_, _], _ => rfl) fun cdv A outer s H E hr => by
    have hu := hr.units
    have hu5 := room65 hr
    have S := sc_fLlabels
    exact (sf_seq (sf_bd (tg_tup [2, 3, 4] rfl) (pf_var (pv 0)) (pg_tup (by rfl) (pgs_cons (pg_name (i := 2) S.nd (by rfl) (by first | exact Or.inl rfl | exact Or.inr rfl)) (pgs_cons (pg_name (i := 3) S.nd (by rfl) (by first | exact Or.inl rfl | exact Or.inr rfl)) (pgs_cons (pg_name (i := 4) S.nd (by rfl) (by first | exact Or.inl rfl | exact Or.inr rfl)) pgs_nil)))))
    (sf_seq (sf_if (pb_cmp (opD_eq hu) (pf_var (pv 2)) (pf_tup (pl_cons pf_str pl_nil)) (nomark _)) (sf_one (sf_ret (pf_lst pl_nil))) sf_nil)
    (sf_seq (sf_set (i := 5) S.nd (by rfl) (by first | exact Or.inl rfl | exact Or.inr rfl) (pf_bin opD_add (pf_bin opD_add (pf_lc (by rfl) S.nd (tg_name 6) (by decide) (pfi_list (pf_var (pv 1))) (blkOk_by (own := [("_law_event", 6)]) (N := N__law_labels) (sc := defScope sLlabels) (by decide +kernel)) (fun _ _ _ _ _ => (pg_name (i := 6) S.nd (by rfl) (by first | exact Or.inl rfl | exact Or.inr rfl))) (fun _ _ _ _ _ => (pts_one (pb_cmp (opD_ni hu5) (pf_var (pv 6)) (pf_var (pv 3)) (by rfl)))) (fun _ _ _ _ _ => (pf_tup (pl_cons pf_str (pl_cons (pf_var (pv 6)) pl_nil))))) (pf_lst (pl_cons (pf_tup (pl_cons pf_str (pl_cons pf_int pl_nil))) pl_nil))) (pf_bin opD_mulL (pf_lst (pl_cons (pf_tup (pl_cons pf_str (pl_cons pf_int pl_nil))) pl_nil)) (pf_bin opD_sub pf_int (pf_var (pv 4))))))
    (sf_one (sf_ret (pf_sortset hr (by rfl) (by rfl) T.z_sorted (by rfl) T.z_set (pf_bin opD_add (pf_var (pv 5)) (pf_lc (by rfl) S.nd (tg_tup [7, 8] rfl) (by decide) (pfi_list (pf_call (C .fLsteps) hr (by rfl) (pl_cons (pf_var (pv 2)) (pl_cons (pf_var (pv 3)) pl_nil)))) (blkOk_by (own := [("_law_label", 7), ("_law_later", 8)]) (N := N__law_labels) (sc := defScope sLlabels) (by decide +kernel)) (fun _ _ _ _ _ => (pg_tup (by rfl) (pgs_cons (pg_name (i := 7) S.nd (by rfl) (by first | exact Or.inl rfl | exact Or.inr rfl)) (pgs_cons (pg_name (i := 8) S.nd (by rfl) (by first | exact Or.inl rfl | exact Or.inr rfl)) pgs_nil)))) (fun _ _ _ _ _ => pts_yes) (fun _ _ _ _ _ => (pf_var (pv 7)))))))))))
theorem ok_fLspoken (T : Txt K mg) (C : ∀ i, FokP P w K mg base n (Fn.nm i) (Fn.ps i) (c i)) (F : FnP K "_law_spoken" sLspoken f fd) (hm : mg "_law_spoken" = some (.ref f)) : FokP P w K mg base (n + 1) "_law_spoken" ["_law_plan_here"] (bodyF 2 (g_fLspoken c)) :=
  fok_of (N := N__law_spoken) F sc_fLspoken hm (fun _ _ _ _ _ _ us hl => match us, hl with | [_], _ => rfl) fun cdv A outer s H E hr => by
    have hu := hr.units
    have hu5 := room65 hr
    have S := sc_fLspoken
    exact (sf_one (sf_ret (pf_lc (by rfl) S.nd (tg_name 1) (by decide) (pfi_list (pf_call (C .fLleaves) hr (by rfl) (pl_cons (pf_var (pv 0)) pl_nil))) (blkOk_by (own := [("_law_leaf_here", 1)]) (N := N__law_spoken) (sc := defScope sLspoken) (by decide +kernel)) (fun _ _ _ _ _ => (pg_name (i := 1) S.nd (by rfl) (by first | exact Or.inl rfl | exact Or.inr rfl))) (fun _ _ _ _ _ => (pts_one (pb_cmp (opD_eq hu) (pf_ix (pf_var (pv 1)) pf_int) pf_str (nomark _)))) (fun _ _ _ _ _ => (pf_ix (pf_var (pv 1)) pf_int)))))
end
end LT
/-! # Tm1 -/
namespace LT
open PySem
/-! ## plans and terms -/
inductive Tm where
  | rest
  | say (w : Nat)
  | wait (e : Nat)
  | thn (t : Tm) (ps : List Tm)
  | both (ts : List Tm)
  | first (ts : List Tm)
  | within (n : Nat) (t : Tm)
  | last (t p : Tm)
  | shield (t : Tm)
  | keep (t : Tm)
namespace Tm
def isR : Tm → Bool
  | rest => true
  | _ => false
mutual
def sz : Tm → Nat
  | rest => 1
  | say _ => 1
  | wait _ => 1
  | thn t ps => 1 + sz t + szs ps
  | both ts => 1 + szs ts
  | first ts => 1 + szs ts
  | within _ t => 1 + sz t
  | last t p => 1 + sz t + sz p
  | shield t => 1 + sz t
  | keep t => 1 + sz t
def szs : List Tm → Nat
  | [] => 0
  | t :: ts => sz t + szs ts
end
/-- together, what is done left out -/
def gath (ts : List Tm) : Tm := match ts.filter (fun t => !t.isR) with
  | [] => rest
  | [t] => t
  | l => both l
def timed (n : Nat) (t : Tm) : Tm := if t.isR then rest else within n t
def kept : Tm → Tm
  | rest => rest
  | keep t => keep t
  | t => keep t
mutual
def begun : Tm → Tm
  | rest => rest
  | say w => say w
  | wait e => wait e
  | thn p ps => joinB ps (begun p)
  | both ps => gath (begunL ps)
  | first ps => if (begunL ps).any isR then gath (offBL ps) else first (begunL ps)
  | within n p => timed n (begun p)
  | last p q => if (begun p).isR then kept (begun q) else last (begun p) q
  | shield p => kept (begun p)
  | keep p => kept (begun p)
def begunL : List Tm → List Tm
  | [] => []
  | p :: ps => begun p :: begunL ps
/-- t, then the plans -/
def joinB : List Tm → Tm → Tm
  | [], t => t
  | q :: qs, t => if t.isR then joinB qs (begun q) else thn t (q :: qs)
/-- what is left of the plan begun and called off -/
def offB : Tm → Tm
  | rest => rest
  | say _ => rest
  | wait _ => rest
  | thn p ps => if (begun p).isR then offJ ps else offB p
  | both ps => gath (offBL ps)
  | first ps => gath (offBL ps)
  | within _ p => offB p
  | last p q => if (offB p).isR then kept (begun q) else last (offB p) q
  | shield p => kept (begun p)
  | keep p => kept (begun p)
def offBL : List Tm → List Tm
  | [] => []
  | p :: ps => offB p :: offBL ps
def offJ : List Tm → Tm
  | [] => rest
  | q :: qs => if (begun q).isR then offJ qs else offB q
end
def lastd (t p : Tm) : Tm := if t.isR then kept (begun p) else last t p
mutual
def off : Tm → Tm
  | rest => rest
  | say _ => rest
  | wait _ => rest
  | thn t _ => off t
  | both ts => gath (offL ts)
  | first ts => gath (offL ts)
  | within _ t => off t
  | last t p => lastd (off t) p
  | shield t => shield t
  | keep t => keep t
def offL : List Tm → List Tm
  | [] => []
  | t :: ts => off t :: offL ts
end
def race (ts : List Tm) : Tm := if ts.any isR then gath (offL ts) else first ts
def rebuilt (t part : Tm) : Tm := match t with
  | thn _ ps => joinB ps part
  | within n _ => timed n part
  | last _ p => lastd part p
  | _ => kept part
end Tm
open Tm
/-- labels -/
inductive Lb where
  | come (e : Nat)
  | off
  | say (w : Nat)
  | take (e : Nat)
  | tick
  deriving DecidableEq
namespace Tm
mutual
/-- the steps of a term, events having come -/
def steps (came : List Nat) : Tm → List (Lb × Tm)
  | rest => []
  | say w => [(.say w, rest)]
  | wait e => if e ∈ came then [(.take e, rest)] else []
  | thn t ps => (steps came t).map fun s => (s.1, joinB ps s.2)
  | both ts => (stepsL came ts).map fun s => (s.1, gath s.2)
  | first ts => (stepsL came ts).map fun s => (s.1, race s.2)
  | within n t => (steps came t).map fun s => (s.1, timed n s.2)
  | last t p => (steps came t).map fun s => (s.1, lastd s.2 p)
  | shield t => (steps came t).map fun s => (s.1, kept s.2)
  | keep t => (steps came t).map fun s => (s.1, kept s.2)
/-- of a row of terms: one of them steps -/
def stepsL (came : List Nat) : List Tm → List (Lb × List Tm)
  | [] => []
  | t :: ts => ((steps came t).map fun s => (s.1, s.2 :: ts)) ++ (stepsL came ts).map fun s => (s.1, t :: s.2)
end
mutual
def tick : Tm → Tm
  | rest => rest
  | say w => say w
  | wait e => wait e
  | thn t ps => joinB ps (tick t)
  | both ts => gath (tickL ts)
  | first ts => race (tickL ts)
  | within n t => if 1 < n then timed (n - 1) (tick t) else off (tick t)
  | last t p => lastd (tick t) p
  | shield t => kept (tick t)
  | keep t => kept (tick t)
def tickL : List Tm → List Tm
  | [] => []
  | t :: ts => tick t :: tickL ts
end
/-! ### first facts -/
theorem isR_iff {t : Tm} : t.isR = true ↔ t = rest := by cases t <;> simp [isR]
theorem isR_no {t : Tm} : t.isR = false ↔ t ≠ rest := by cases t <;> simp [isR]
theorem begunL_map : ∀ ps : List Tm, begunL ps = ps.map begun
  | [] => rfl
  | p :: ps => by simp [begunL, begunL_map ps]
theorem offBL_map : ∀ ps : List Tm, offBL ps = ps.map offB
  | [] => rfl
  | p :: ps => by simp [offBL, offBL_map ps]
theorem offL_map : ∀ ps : List Tm, offL ps = ps.map off
  | [] => rfl
  | p :: ps => by simp [offL, offL_map ps]
theorem tickL_map : ∀ ps : List Tm, tickL ps = ps.map tick
  | [] => rfl
  | p :: ps => by simp [tickL, tickL_map ps]
theorem gath_cases (ts : List Tm) : (gath ts = rest ∧ ts.filter (fun t => !t.isR) = []) ∨ (∃ t, t.isR = false ∧ gath ts = t ∧ ts.filter (fun t => !t.isR) = [t]) ∨ (∃ a b l, gath ts = both (a :: b :: l) ∧ ts.filter (fun t => !t.isR) = a :: b :: l) := by
  unfold gath
  cases h : ts.filter (fun t => !t.isR) with
  | nil => exact .inl ⟨rfl, rfl⟩
  | cons a r =>
    cases r with
    | nil =>
      have : a ∈ ts.filter (fun t => !t.isR) := by rw [h]; exact List.mem_cons_self
      exact .inr (.inl ⟨a, by simpa using (List.mem_filter.mp this).2, rfl, rfl⟩)
    | cons b l => exact .inr (.inr ⟨a, b, l, rfl, rfl⟩)
theorem gath_congr {as bs : List Tm} (h : as.filter (fun t => !t.isR) = bs.filter (fun t => !t.isR)) : gath as = gath bs := by unfold gath; rw [h]
theorem gath_filter (as : List Tm) : gath (as.filter fun t => !t.isR) = gath as := gath_congr (by rw [List.filter_filter]; simp)
theorem gath_one (t : Tm) : gath [t] = t := by
  cases h : t.isR with
  | true => rw [isR_iff.mp h]; rfl
  | false => simp [gath, h]
theorem off_kept (t : Tm) : off (kept t) = kept t := by cases t <;> rfl
theorem kept_kept (t : Tm) : kept (kept t) = kept t := by cases t <;> rfl
theorem offL_filter {ts : List Tm} : (offL (ts.filter fun t => !t.isR)).filter (fun t => !t.isR) = (offL ts).filter fun t => !t.isR := by
  induction ts with
  | nil => rfl
  | cons t ts ih =>
    cases h : t.isR with
    | true =>
      rw [isR_iff.mp h]
      simpa [offL, off, isR] using ih
    | false => simp only [List.filter_cons, h, Bool.not_false, if_true, offL, ih]
theorem off_gath (ts : List Tm) : off (gath ts) = gath (offL ts) := by
  have e : gath (offL ts) = gath (offL (ts.filter fun t => !t.isR)) := gath_congr offL_filter.symm
  rw [e]
  rcases gath_cases ts with ⟨h1, h2⟩ | ⟨t, h0, h1, h2⟩ | ⟨a, b, l, h1, h2⟩
  · rw [h1, h2]; rfl
  · rw [h1, h2]; simp only [offL]; rw [gath_one]
  · rw [h1, h2]; rfl
mutual
theorem off_off : ∀ t : Tm, off (off t) = off t
  | rest => rfl
  | say _ => rfl
  | wait _ => rfl
  | thn t _ => off_off t
  | both ts => by simp only [off]; rw [off_gath, offL_offL]
  | first ts => by simp only [off]; rw [off_gath, offL_offL]
  | within _ t => off_off t
  | last t p => by
    simp only [off]
    unfold lastd
    by_cases h : (off t).isR = true
    · rw [if_pos h, off_kept]
    · rw [if_neg h]
      simp only [off]
      rw [off_off t]
      unfold lastd
      rw [if_neg h]
  | shield t => rfl
  | keep t => rfl
theorem offL_offL : ∀ ts : List Tm, offL (offL ts) = offL ts
  | [] => rfl
  | t :: ts => by simp only [offL]; rw [off_off t, offL_offL ts]
end
mutual
theorem off_begun : ∀ p : Tm, off (begun p) = offB p
  | rest => rfl
  | say _ => rfl
  | wait _ => rfl
  | thn p ps => by
    simp only [begun, offB]
    cases h : (begun p).isR with
    | true =>
      rw [isR_iff.mp h, off_join ps]
      rfl
    | false =>
      rw [← off_begun p]
      cases ps with
      | nil => simp [joinB]
      | cons q qs => simp [joinB, h, off]
  | both ps => by simp only [begun, offB]; rw [off_gath, off_begunL ps]
  | first ps => by
    simp only [begun, offB]
    split
    · rw [off_gath, ← off_begunL ps, offL_offL]
    · simp only [off]; rw [off_begunL ps]
  | within n p => by
    simp only [begun, offB]
    rw [← off_begun p]
    unfold timed
    by_cases h : (begun p).isR = true
    · rw [if_pos h, isR_iff.mp h]
    · rw [if_neg h]; rfl
  | last p q => by
    simp only [begun, offB]
    rw [← off_begun p]
    by_cases h : (begun p).isR = true
    · rw [if_pos h, isR_iff.mp h, off_kept]
      rfl
    · rw [if_neg h]
      simp only [off]
      rfl
  | shield p => by simp only [begun, offB]; exact off_kept _
  | keep p => by simp only [begun, offB]; exact off_kept _
theorem off_begunL : ∀ ps : List Tm, offL (begunL ps) = offBL ps
  | [] => rfl
  | p :: ps => by simp only [begunL, offL, offBL]; rw [off_begun p, off_begunL ps]
theorem off_join : ∀ ps : List Tm, off (joinB ps rest) = offJ ps
  | [] => rfl
  | q :: qs => by
    simp only [joinB, offJ]
    rw [if_pos (show rest.isR = true from rfl)]
    by_cases h : (begun q).isR = true
    · rw [if_pos h, isR_iff.mp h, off_join qs]
    · rw [if_neg h, ← off_begun q]
      cases qs with
      | nil => simp [joinB]
      | cons r rs => simp only [joinB]; rw [if_neg h]; rfl
end
theorem begun_first (ps : List Tm) : begun (first ps) = race (begunL ps) := by
  simp only [begun, race]
  rw [off_begunL]
theorem begun_last (p q : Tm) : begun (last p q) = lastd (begun p) q := rfl
/-! ### sizes -/
theorem sz_pos (t : Tm) : 1 ≤ sz t := by cases t <;> simp only [sz] <;> omega
theorem szs_app : ∀ as bs : List Tm, szs (as ++ bs) = szs as + szs bs
  | [], bs => by simp [szs]
  | a :: as, bs => by simp only [List.cons_append, szs]; rw [szs_app as bs]; omega
theorem szs_len : ∀ ts : List Tm, ts.length ≤ szs ts
  | [] => Nat.le_refl _
  | t :: ts => by simp only [List.length_cons, szs]; have := szs_len ts; have := sz_pos t; omega
theorem szs_filter (f : Tm → Bool) : ∀ ts : List Tm, szs (ts.filter f) ≤ szs ts
  | [] => Nat.le_refl _
  | t :: ts => by
    have := szs_filter f ts
    simp only [List.filter_cons]
    split <;> simp only [szs] <;> omega
theorem sz_mem {t : Tm} : ∀ {ts : List Tm}, t ∈ ts → sz t ≤ szs ts
  | [], h => by cases h
  | a :: ts, h => by
    simp only [szs]
    rcases List.mem_cons.mp h with e | h
    · rw [e]; omega
    · have := sz_mem h; omega
theorem sz_gath (ts : List Tm) : sz (gath ts) ≤ 1 + szs ts := by
  have := szs_filter (fun t => !t.isR) ts
  rcases gath_cases ts with ⟨h1, h2⟩ | ⟨t, h0, h1, h2⟩ | ⟨a, b, l, h1, h2⟩
  · rw [h1]; simp only [sz]; omega
  · rw [h1]; rw [h2] at this; simp only [szs] at this; omega
  · rw [h1]; rw [h2] at this; simp only [sz]; omega
theorem sz_kept (t : Tm) : sz (kept t) ≤ 1 + sz t := by cases t <;> simp only [kept, sz] <;> omega
theorem sz_timed (n : Nat) (t : Tm) : sz (timed n t) ≤ 1 + sz t := by
  unfold timed
  split <;> (try simp only [sz]) <;> omega
mutual
theorem sz_begun : ∀ p : Tm, sz (begun p) ≤ sz p
  | rest => Nat.le_refl _
  | say _ => Nat.le_refl _
  | wait _ => Nat.le_refl _
  | thn p ps => by
    have := sz_begun p
    have := sz_join ps (begun p)
    simp only [begun, sz]
    omega
  | both ps => by
    have := sz_begunL ps
    have := sz_gath (begunL ps)
    simp only [begun, sz]
    omega
  | first ps => by
    have := sz_begunL ps
    have := sz_offBL ps
    have := sz_gath (offBL ps)
    simp only [begun]
    split <;> (try simp only [sz]) <;> omega
  | within n p => by
    have := sz_begun p
    have := sz_timed n (begun p)
    simp only [begun, sz]
    omega
  | last p q => by
    have := sz_begun p
    have := sz_begun q
    have := sz_kept (begun q)
    simp only [begun]
    split <;> (try simp only [sz]) <;> omega
  | shield p => by
    have := sz_begun p
    have := sz_kept (begun p)
    simp only [begun, sz]
    omega
  | keep p => by
    have := sz_begun p
    have := sz_kept (begun p)
    simp only [begun, sz]
    omega
theorem sz_begunL : ∀ ps : List Tm, szs (begunL ps) ≤ szs ps
  | [] => Nat.le_refl _
  | p :: ps => by
    have := sz_begun p
    have := sz_begunL ps
    simp only [begunL, szs]
    omega
theorem sz_join : ∀ (ps : List Tm) (t : Tm), sz (joinB ps t) ≤ 1 + sz t + szs ps
  | [], t => by simp only [joinB, szs]; omega
  | q :: qs, t => by
    have := sz_begun q
    have := sz_join qs (begun q)
    simp only [joinB]
    split <;> (try simp only [sz, szs]) <;> (try simp only [szs]) <;> omega
theorem sz_offB : ∀ p : Tm, sz (offB p) ≤ sz p
  | rest => Nat.le_refl _
  | say _ => Nat.le_refl _
  | wait _ => Nat.le_refl _
  | thn p ps => by
    have := sz_offB p
    have := sz_offJ ps
    simp only [offB, sz]
    split <;> omega
  | both ps => by
    have := sz_offBL ps
    have := sz_gath (offBL ps)
    simp only [offB, sz]
    omega
  | first ps => by
    have := sz_offBL ps
    have := sz_gath (offBL ps)
    simp only [offB, sz]
    omega
  | within n p => by
    have := sz_offB p
    simp only [offB, sz]
    omega
  | last p q => by
    have := sz_offB p
    have := sz_begun q
    have := sz_kept (begun q)
    simp only [offB]
    split <;> (try simp only [sz]) <;> omega
  | shield p => by
    have := sz_begun p
    have := sz_kept (begun p)
    simp only [offB, sz]
    omega
  | keep p => by
    have := sz_begun p
    have := sz_kept (begun p)
    simp only [offB, sz]
    omega
theorem sz_offBL : ∀ ps : List Tm, szs (offBL ps) ≤ szs ps
  | [] => Nat.le_refl _
  | p :: ps => by
    have := sz_offB p
    have := sz_offBL ps
    simp only [offBL, szs]
    omega
theorem sz_offJ : ∀ ps : List Tm, sz (offJ ps) ≤ 1 + szs ps
  | [] => by simp only [offJ, sz, szs]; omega
  | q :: qs => by
    have := sz_offB q
    have := sz_offJ qs
    simp only [offJ, szs]
    split <;> omega
end
theorem sz_lastd (t p : Tm) : sz (lastd t p) ≤ 1 + sz t + sz p := by
  have := sz_begun p
  have := sz_kept (begun p)
  unfold lastd
  split <;> (try simp only [sz]) <;> omega
mutual
theorem sz_off : ∀ t : Tm, sz (off t) ≤ sz t
  | rest => Nat.le_refl _
  | say _ => Nat.le_refl _
  | wait _ => Nat.le_refl _
  | thn t ps => by
    have := sz_off t
    simp only [off, sz]
    omega
  | both ts => by
    have := sz_offL ts
    have := sz_gath (offL ts)
    simp only [off, sz]
    omega
  | first ts => by
    have := sz_offL ts
    have := sz_gath (offL ts)
    simp only [off, sz]
    omega
  | within n t => by
    have := sz_off t
    simp only [off, sz]
    omega
  | last t p => by
    have := sz_off t
    have := sz_lastd (off t) p
    simp only [off, sz]
    omega
  | shield _ => Nat.le_refl _
  | keep _ => Nat.le_refl _
theorem sz_offL : ∀ ts : List Tm, szs (offL ts) ≤ szs ts
  | [] => Nat.le_refl _
  | t :: ts => by
    have := sz_off t
    have := sz_offL ts
    simp only [offL, szs]
    omega
end
theorem sz_race (ts : List Tm) : sz (race ts) ≤ 1 + szs ts := by
  have := sz_offL ts
  have := sz_gath (offL ts)
  unfold race
  split <;> (try simp only [sz]) <;> omega
mutual
theorem sz_steps (came : List Nat) : ∀ (t : Tm) (s : Lb × Tm), s ∈ steps came t → sz s.2 ≤ sz t
  | rest, s, h => by simp [steps] at h
  | say w, s, h => by simp [steps] at h; rw [h]; exact Nat.le_refl _
  | wait e, s, h => by
    simp only [steps] at h
    split at h
    · simp at h; rw [h]; exact Nat.le_refl _
    · cases h
  | thn t ps, s, h => by
    simp only [steps] at h
    obtain ⟨u, hu, rfl⟩ := List.mem_map.mp h
    have := sz_steps came t u hu
    have := sz_join ps u.2
    simp only [sz]
    omega
  | both ts, s, h => by
    simp only [steps] at h
    obtain ⟨u, hu, rfl⟩ := List.mem_map.mp h
    have := sz_stepsL came ts u hu
    have := sz_gath u.2
    simp only [sz]
    omega
  | first ts, s, h => by
    simp only [steps] at h
    obtain ⟨u, hu, rfl⟩ := List.mem_map.mp h
    have := sz_stepsL came ts u hu
    have := sz_race u.2
    simp only [sz]
    omega
  | within n t, s, h => by
    simp only [steps] at h
    obtain ⟨u, hu, rfl⟩ := List.mem_map.mp h
    have := sz_steps came t u hu
    have := sz_timed n u.2
    simp only [sz]
    omega
  | last t p, s, h => by
    simp only [steps] at h
    obtain ⟨u, hu, rfl⟩ := List.mem_map.mp h
    have := sz_steps came t u hu
    have := sz_lastd u.2 p
    simp only [sz]
    omega
  | shield t, s, h => by
    simp only [steps] at h
    obtain ⟨u, hu, rfl⟩ := List.mem_map.mp h
    have := sz_steps came t u hu
    have := sz_kept u.2
    simp only [sz]
    omega
  | keep t, s, h => by
    simp only [steps] at h
    obtain ⟨u, hu, rfl⟩ := List.mem_map.mp h
    have := sz_steps came t u hu
    have := sz_kept u.2
    simp only [sz]
    omega
theorem sz_stepsL (came : List Nat) : ∀ (ts : List Tm) (s : Lb × List Tm), s ∈ stepsL came ts → szs s.2 ≤ szs ts
  | [], s, h => by simp [stepsL] at h
  | t :: ts, s, h => by
    simp only [stepsL] at h
    rcases List.mem_append.mp h with h | h
    · obtain ⟨u, hu, rfl⟩ := List.mem_map.mp h
      have := sz_steps came t u hu
      simp only [szs]
      omega
    · obtain ⟨u, hu, rfl⟩ := List.mem_map.mp h
      have := sz_stepsL came ts u hu
      simp only [szs]
      omega
end
mutual
theorem sz_tick : ∀ t : Tm, sz (tick t) ≤ sz t
  | rest => Nat.le_refl _
  | say _ => Nat.le_refl _
  | wait _ => Nat.le_refl _
  | thn t ps => by
    have := sz_tick t
    have := sz_join ps (tick t)
    simp only [tick, sz]
    omega
  | both ts => by
    have := sz_tickL ts
    have := sz_gath (tickL ts)
    simp only [tick, sz]
    omega
  | first ts => by
    have := sz_tickL ts
    have := sz_race (tickL ts)
    simp only [tick, sz]
    omega
  | within n t => by
    have := sz_tick t
    have := sz_off (tick t)
    have := sz_timed (n - 1) (tick t)
    simp only [tick, sz]
    split <;> omega
  | last t p => by
    have := sz_tick t
    have := sz_lastd (tick t) p
    simp only [tick, sz]
    omega
  | shield t => by
    have := sz_tick t
    have := sz_kept (tick t)
    simp only [tick, sz]
    omega
  | keep t => by
    have := sz_tick t
    have := sz_kept (tick t)
    simp only [tick, sz]
    omega
theorem sz_tickL : ∀ ts : List Tm, szs (tickL ts) ≤ szs ts
  | [] => Nat.le_refl _
  | t :: ts => by
    have := sz_tick t
    have := sz_tickL ts
    simp only [tickL, szs]
    omega
end
end Tm
end LT
/-! # Ev1 -/
namespace LT
open PySem PySem.Spec PyProof.Rows L2
/-! ## words -/
inductive Kd where
  | rest | say | wait | thn | both | first | within | last | shield | keep | hole | take | come | off | tick
  deriving DecidableEq
def kS : Kd → Str
  | .rest => "rest" | .say => "say" | .wait => "wait" | .thn => "then" | .both => "both" | .first => "first" | .within => "within" | .last => "last" | .shield => "shield" | .keep => "keep" | .hole => "hole"
  | .take => "take" | .come => "come" | .off => "off" | .tick => "tick"
@[simp] theorem lit_rest : Str.ofString "rest" = kS .rest := rfl
@[simp] theorem lit_say : Str.ofString "say" = kS .say := rfl
@[simp] theorem lit_wait : Str.ofString "wait" = kS .wait := rfl
@[simp] theorem lit_thn : Str.ofString "then" = kS .thn := rfl
@[simp] theorem lit_both : Str.ofString "both" = kS .both := rfl
@[simp] theorem lit_first : Str.ofString "first" = kS .first := rfl
@[simp] theorem lit_within : Str.ofString "within" = kS .within := rfl
@[simp] theorem lit_last : Str.ofString "last" = kS .last := rfl
@[simp] theorem lit_shield : Str.ofString "shield" = kS .shield := rfl
@[simp] theorem lit_keep : Str.ofString "keep" = kS .keep := rfl
@[simp] theorem lit_hole : Str.ofString "hole" = kS .hole := rfl
@[simp] theorem lit_take : Str.ofString "take" = kS .take := rfl
@[simp] theorem lit_come : Str.ofString "come" = kS .come := rfl
@[simp] theorem lit_off : Str.ofString "off" = kS .off := rfl
@[simp] theorem lit_tick : Str.ofString "tick" = kS .tick := rfl
theorem kS_inj {a b : Kd} : kS a = kS b → a = b := by
  have : ∀ a b : Kd, decide (kS a = kS b) = decide (a = b) := by
    intro a b
    cases a <;> cases b <;> decide +kernel
  intro h
  have q := this a b
  rw [decide_eq_true h] at q
  exact of_decide_eq_true q.symm
@[simp] theorem kS_eq {a b : Kd} : (kS a = kS b) ↔ a = b := ⟨kS_inj, fun h => by rw [h]⟩
@[simp] theorem kS_beq {a b : Kd} : (kS a == kS b) = decide (a = b) := by
  by_cases h : a = b
  · subst h; simp
  · rw [decide_eq_false h]; exact beq_eq_false_iff_ne.mpr fun e => h (kS_inj e)
theorem kS_ok (a : Kd) : PyData.strOk (kS a) = true := by cases a <;> decide +kernel
/-! ## data of terms -/
mutual
def enc : Tm → D
  | .rest => .tuple [.str (kS .rest)]
  | .say w => .tuple [.str (kS .say), .int w]
  | .wait e => .tuple [.str (kS .wait), .int e]
  | .thn t ps => .tuple (.str (kS .thn) :: enc t :: encs ps)
  | .both ts => .tuple (.str (kS .both) :: encs ts)
  | .first ts => .tuple (.str (kS .first) :: encs ts)
  | .within n t => .tuple [.str (kS .within), .int n, enc t]
  | .last t p => .tuple [.str (kS .last), enc t, enc p]
  | .shield t => .tuple [.str (kS .shield), enc t]
  | .keep t => .tuple [.str (kS .keep), enc t]
def encs : List Tm → List D
  | [] => []
  | t :: ts => enc t :: encs ts
end
theorem encs_map : ∀ ts : List Tm, encs ts = ts.map enc
  | [] => rfl
  | t :: ts => by simp [encs, encs_map ts]
@[simp] theorem encs_len (ts : List Tm) : (encs ts).length = ts.length := by simp [encs_map]
@[simp] theorem dt_rest : dt_REST = [.str (kS .rest)] := rfl
@[simp] theorem dt_several : dt_SEVERAL = [.str (kS .thn), .str (kS .both), .str (kS .first)] := rfl
@[simp] theorem dt_kinds : dt_KINDS = [.str (kS .come), .str (kS .off), .str (kS .say), .str (kS .take), .str (kS .tick)] := rfl
/-! ## == -/
@[simp] theorem eqv_str (x y : Str) : PyData.eqv (.str x) (.str y) = (x == y) := by simp [PyData.eqv]
@[simp] theorem eqv_int (x y : Int) : PyData.eqv (.int x) (.int y) = (x == y) := by simp [PyData.eqv]
@[simp] theorem eqv_tup (x y : List D) : PyData.eqv (.tuple x) (.tuple y) = PyData.eqvAll x y := by simp [PyData.eqv]
@[simp] theorem eqv_lst (x y : List D) : PyData.eqv (.list x) (.list y) = PyData.eqvAll x y := by simp [PyData.eqv]
@[simp] theorem eqv_st (x : Str) (y : List D) : PyData.eqv (.str x) (.tuple y) = false := by simp [PyData.eqv]
@[simp] theorem eqv_ts (x : Str) (y : List D) : PyData.eqv (.tuple y) (.str x) = false := by simp [PyData.eqv]
@[simp] theorem eqv_it (x : Int) (y : List D) : PyData.eqv (.int x) (.tuple y) = false := by simp [PyData.eqv]
@[simp] theorem eqv_ti (x : Int) (y : List D) : PyData.eqv (.tuple y) (.int x) = false := by simp [PyData.eqv]
@[simp] theorem eqv_is (x : Int) (y : Str) : PyData.eqv (.int x) (.str y) = false := by simp [PyData.eqv]
@[simp] theorem eqv_si (x : Int) (y : Str) : PyData.eqv (.str y) (.int x) = false := by simp [PyData.eqv]
@[simp] theorem eqva_nn : PyData.eqvAll [] [] = true := by simp [PyData.eqvAll]
@[simp] theorem eqva_nc (y : D) (ys : List D) : PyData.eqvAll [] (y :: ys) = false := by simp [PyData.eqvAll]
@[simp] theorem eqva_cn (y : D) (ys : List D) : PyData.eqvAll (y :: ys) [] = false := by simp [PyData.eqvAll]
@[simp] theorem eqva_cc (x y : D) (xs ys : List D) : PyData.eqvAll (x :: xs) (y :: ys) = (PyData.eqv x y && PyData.eqvAll xs ys) := by simp [PyData.eqvAll]
@[simp] theorem eqv_rest (t : Tm) : PyData.eqv (enc t) (.tuple [.str (kS .rest)]) = t.isR := by
  cases t <;> simp [enc, Tm.isR]
@[simp] theorem dp_str (x : Str) : PyData.depth (.str x) = 0 := by simp [PyData.depth]
@[simp] theorem dp_int (x : Int) : PyData.depth (.int x) = 0 := by simp [PyData.depth]
@[simp] theorem dp_tup (x : List D) : PyData.depth (.tuple x) = PyData.depthAll x + 1 := by simp [PyData.depth]
@[simp] theorem dp_lst (x : List D) : PyData.depth (.list x) = PyData.depthAll x + 1 := by simp [PyData.depth]
@[simp] theorem dpa_nil : PyData.depthAll [] = 0 := by simp [PyData.depthAll]
@[simp] theorem dpa_cons (x : D) (xs : List D) : PyData.depthAll (x :: xs) = max x.depth (PyData.depthAll xs) := by simp [PyData.depthAll]
theorem eqH_r {x y : D} (h : y.depth ≤ 64) : eqH x y = some (PyData.eqv x y) := if_pos (Nat.le_trans (Nat.min_le_right _ _) h)
theorem neH_r {x y : D} (h : y.depth ≤ 64) : neH x y = some (!PyData.eqv x y) := if_pos (Nat.le_trans (Nat.min_le_right _ _) h)
@[simp] theorem eqH_str (x : D) (y : Str) : eqH x (.str y) = some (PyData.eqv x (.str y)) := eqH_r (by simp)
@[simp] theorem eqH_int (x : D) (y : Int) : eqH x (.int y) = some (PyData.eqv x (.int y)) := eqH_r (by simp)
@[simp] theorem eqH_rest (x : D) (y : Str) : eqH x (.tuple [.str y]) = some (PyData.eqv x (.tuple [.str y])) := eqH_r (by simp)
@[simp] theorem neH_rest (x : D) (y : Str) : neH x (.tuple [.str y]) = some (!PyData.eqv x (.tuple [.str y])) := neH_r (by simp)
@[simp] theorem eqH_nil (x : D) : eqH x (.tuple []) = some (PyData.eqv x (.tuple [])) := eqH_r (by simp)
@[simp] theorem eqH_nill (x : D) : eqH x (.list []) = some (PyData.eqv x (.list [])) := eqH_r (by simp)
@[simp] theorem neH_nill (x : D) : neH x (.list []) = some (!PyData.eqv x (.list [])) := neH_r (by simp)
@[simp] theorem inH_str (x : Str) (ys : List D) : inH (.str x) (.tuple ys) = some (ys.any fun z => PyData.eqv z (.str x)) := by simp [inH, itemsD]
@[simp] theorem inH_strl (x : Str) (ys : List D) : inH (.str x) (.list ys) = some (ys.any fun z => PyData.eqv z (.str x)) := by simp [inH, itemsD]
@[simp] theorem inH_int (x : Int) (ys : List D) : inH (.int x) (.tuple ys) = some (ys.any fun z => PyData.eqv z (.int x)) := by simp [inH, itemsD]
@[simp] theorem niH_int (x : Int) (ys : List D) : niH (.int x) (.tuple ys) = some (!ys.any fun z => PyData.eqv z (.int x)) := by simp [niH, itemsD]
@[simp] theorem inH_rest (x : Str) (ys : List D) : inH (.tuple [.str x]) (.list ys) = some (ys.any fun z => PyData.eqv z (.tuple [.str x])) := by simp [inH, itemsD]
@[simp] theorem any_rest (ts : List Tm) : ((encs ts).any fun z => PyData.eqv z (.tuple [.str (kS .rest)])) = ts.any Tm.isR := by
  simp [encs_map, List.any_map, Function.comp_def]
/-! ## indices -/
theorem atH_nat {xs : List D} {i : Nat} {x : D} (h : xs[i]? = some x) : atH (.tuple xs) (.int i) = some x := by
  have hl := (List.getElem?_eq_some_iff.mp h).1
  simp only [atH, itemsD, L2.atI, ixN, Option.bind_some]
  rw [if_pos (by omega), if_pos (by omega)]
  simpa using h
theorem atH_natl {xs : List D} {i : Nat} {x : D} (h : xs[i]? = some x) : atH (.list xs) (.int i) = some x := by
  have hl := (List.getElem?_eq_some_iff.mp h).1
  simp only [atH, itemsD, L2.atI, ixN, Option.bind_some]
  rw [if_pos (by omega), if_pos (by omega)]
  simpa using h
@[simp] theorem at0 (x : D) (xs : List D) : atH (.tuple (x :: xs)) (.int 0) = some x := atH_nat (i := 0) rfl
@[simp] theorem at0l (x : D) (xs : List D) : atH (.list (x :: xs)) (.int 0) = some x := atH_natl (i := 0) rfl
@[simp] theorem at1 (x y : D) (xs : List D) : atH (.tuple (x :: y :: xs)) (.int 1) = some y := atH_nat (i := 1) rfl
@[simp] theorem at2 (x y z : D) (xs : List D) : atH (.tuple (x :: y :: z :: xs)) (.int 2) = some z := atH_nat (i := 2) rfl
@[simp] theorem cut1 (x : D) (xs : List D) : cutL (x :: xs) (some 1) none = xs := by
  have : HT.sIx (x :: xs).length 0 (some 1) = 1 := by
    have := HT.sIx_nat (x :: xs).length 0 1
    simp at this
    simpa using this
  simp [cutL, this, HT.sIx]
@[simp] theorem cut2 (x y : D) (xs : List D) : cutL (x :: y :: xs) (some 2) none = xs := by
  have : HT.sIx (x :: y :: xs).length 0 (some 2) = 2 := by
    have := HT.sIx_nat (x :: y :: xs).length 0 2
    simp at this
    simpa using this
  simp [cutL, this, HT.sIx]
theorem chk_ok {xs : List D} (h : xs.length ≤ 100000) : chkLen xs = some xs := if_pos (by rw [sizeLine_eq]; omega)
@[simp] theorem ev_int (p : Int → Int → Bool) (i j : Int) : intH p (.int i) (.int j) = some (p i j) := rfl
@[simp] theorem ev_items (xs : List D) : itemsD (.list xs) = some xs := rfl
@[simp] theorem ev_itemst (xs : List D) : itemsD (.tuple xs) = some xs := rfl
@[simp] theorem ev_sub (i j : Int) : subH (.int i) (.int j) = some (.int (i - j)) := rfl
@[simp] theorem ev_add (i j : Int) : addH (.int i) (.int j) = some (.int (i + j)) := rfl
@[simp] theorem ev_addl (xs ys : List D) : addH (.list xs) (.list ys) = (chkLen (xs ++ ys)).map .list := rfl
@[simp] theorem ev_addt (xs ys : List D) : addH (.tuple xs) (.tuple ys) = (chkLen (xs ++ ys)).map .tuple := rfl
/-! ## running -/
@[simp] theorem ev_V (i : Nat) (ρ : Rho) : cV i ρ = match ρ[i]? with
  | some (.im d) => some d
  | _ => none := rfl
@[simp] theorem ev_K (d : D) (ρ : Rho) : cK d ρ = some d := rfl
@[simp] theorem ev_Nil (ρ : Rho) : cNil ρ = some [] := rfl
@[simp] theorem ev_Cons (f : FE) (g : FL) (ρ : Rho) : cCons f g ρ = (f ρ).bind fun x => (g ρ).bind fun xs => some (x :: xs) := rfl
@[simp] theorem ev_Star (f : FE) (g : FL) (ρ : Rho) : cStar f g ρ = (f ρ).bind fun x => (itemsD x).bind fun xs => (g ρ).bind fun ys => some (xs ++ ys) := rfl
@[simp] theorem ev_Tup (f : FL) (ρ : Rho) : cTup f ρ = (f ρ).bind fun xs => (chkLen xs).map .tuple := rfl
@[simp] theorem ev_Lst (f : FL) (ρ : Rho) : cLst f ρ = (f ρ).bind fun xs => (chkLen xs).map .list := rfl
@[simp] theorem ev_bin2 (h : D → D → Option D) (f g : FE) (ρ : Rho) : bin2 h f g ρ = (f ρ).bind fun x => (g ρ).bind fun y => h x y := rfl
@[simp] theorem ev_cmp2 (h : D → D → Option Bool) (f g : FE) (ρ : Rho) : cmp2 h f g ρ = (f ρ).bind fun x => (g ρ).bind fun y => (h x y).map .bool := rfl
@[simp] theorem ev_cmpB (h : D → D → Option Bool) (f g : FE) (ρ : Rho) : cmpB h f g ρ = (f ρ).bind fun x => (g ρ).bind fun y => h x y := rfl
@[simp] theorem ev_chn2 (h h' : D → D → Option Bool) (f g k : FE) (ρ : Rho) : chn2 h h' f g k ρ = (f ρ).bind fun x => (g ρ).bind fun y => (h x y).bind fun t => match t with
  | true => (k ρ).bind fun z => (h' y z).map .bool
  | false => some (.bool false) := rfl
@[simp] theorem ev_No (ρ : Rho) : cNo ρ = some none := rfl
@[simp] theorem ev_Pt (f : FE) (ρ : Rho) : cPt f ρ = match f ρ with
  | some (.int i) => some (some i)
  | _ => none := rfl
@[simp] theorem ev_Sl (f : FE) (lo hi : FO) (ρ : Rho) : cSl f lo hi ρ = (f ρ).bind fun x => (lo ρ).bind fun l => (hi ρ).bind fun u => match x with
  | .tuple xs => some (.tuple (cutL xs l u))
  | _ => none := rfl
@[simp] theorem ev_bV (f : FE) (ρ : Rho) : bV f ρ = match f ρ with
  | some (.bool b) => some b
  | _ => none := rfl
@[simp] theorem ev_bAnd (p q : FB) (ρ : Rho) : bAnd p q ρ = (p ρ).bind fun t => match t with
  | true => q ρ
  | false => some false := rfl
@[simp] theorem ev_bOr (p q : FB) (ρ : Rho) : bOr p q ρ = (p ρ).bind fun t => match t with
  | true => some true
  | false => q ρ := rfl
@[simp] theorem ev_bNot (p : FB) (ρ : Rho) : bNot p ρ = (p ρ).map (!·) := rfl
@[simp] theorem ev_vAnd (f g : FE) (ρ : Rho) : vAnd f g ρ = match f ρ with
  | some (.bool true) => g ρ
  | some (.bool false) => some (.bool false)
  | _ => none := rfl
@[simp] theorem ev_vOr (f g : FE) (ρ : Rho) : vOr f g ρ = match f ρ with
  | some (.bool true) => some (.bool true)
  | some (.bool false) => g ρ
  | _ => none := rfl
@[simp] theorem ev_vNot (f : FE) (ρ : Rho) : vNot f ρ = match f ρ with
  | some (.bool b) => some (.bool !b)
  | _ => none := rfl
@[simp] theorem ev_cIf (p : FB) (f g : FE) (ρ : Rho) : cIf p f g ρ = (p ρ).bind fun t => match t with
  | true => f ρ
  | false => g ρ := rfl
@[simp] theorem ev_Call (n : Nat) (F : List D → Option D) (fl : FL) (ρ : Rho) : cCall n F fl ρ = (fl ρ).bind fun ds => if ds.length = n then F ds else none := rfl
@[simp] theorem ev_B (h : D → Option D) (f : FE) (ρ : Rho) : cB h f ρ = (f ρ).bind h := rfl
@[simp] theorem ev_len (xs : List D) : lenH (.list xs) = some (.int xs.length) := rfl
@[simp] theorem ev_lent (xs : List D) : lenH (.tuple xs) = some (.int xs.length) := rfl
@[simp] theorem ev_tup (xs : List D) : tupleH (.list xs) = some (.tuple xs) := rfl
@[simp] theorem ev_lst (xs : List D) : listH (.tuple xs) = some (.list xs) := rfl
@[simp] theorem ev_bdN (i : Nat) (d : D) (ρ : Rho) : bdN i d ρ = some (ρ.set i (.im d)) := rfl
@[simp] theorem ev_bdT (is : List Nat) (ds : List D) (ρ : Rho) : bdT is (.tuple ds) ρ = setsR is ds ρ := rfl
@[simp] theorem ev_sets0 (ρ : Rho) : setsR [] [] ρ = some ρ := rfl
@[simp] theorem ev_sets1 (i : Nat) (is : List Nat) (d : D) (ds : List D) (ρ : Rho) : setsR (i :: is) (d :: ds) ρ = setsR is ds (ρ.set i (.im d)) := rfl
@[simp] theorem ev_itL (f : FE) (ρ : Rho) : itL f ρ = match f ρ with
  | some (.list xs) => some xs
  | _ => none := rfl
@[simp] theorem ev_itT (f : FE) (ρ : Rho) : itT f ρ = match f ρ with
  | some (.tuple xs) => some xs
  | _ => none := rfl
@[simp] theorem ev_bYes (ρ : Rho) : bYes ρ = some true := rfl
@[simp] theorem ev_Lc (fi : FL) (bd : D → Rho → Option Rho) (ft : FB) (fe : FE) (vs : List Nat) (ρ : Rho) : cLc fi bd ft fe vs ρ = (fi ρ).bind fun ds => (lcGo bd ft fe (wipeR ρ vs) ds).map .list := rfl
@[simp] theorem ev_sNil (ρ : Rho) : sNil ρ = some (.nx ρ) := rfl
@[simp] theorem ev_sSeq (a b : FS) (ρ : Rho) : sSeq a b ρ = (a ρ).bind fun o => match o with
  | .nx ρ' => b ρ'
  | .rt d => some (.rt d) := rfl
@[simp] theorem ev_sSet (i : Nat) (f : FE) (ρ : Rho) : sSet i f ρ = (f ρ).map fun d => .nx (ρ.set i (.im d)) := rfl
@[simp] theorem ev_sBd (bd : D → Rho → Option Rho) (f : FE) (ρ : Rho) : sBd bd f ρ = (f ρ).bind fun d => (bd d ρ).map .nx := rfl
@[simp] theorem ev_sPar (i j : Nat) (fl : FL) (ρ : Rho) : sPar i j fl ρ = (fl ρ).bind fun ds => match ds with
  | [x, y] => some (.nx ((ρ.set i (.im x)).set j (.im y)))
  | _ => none := rfl
@[simp] theorem ev_sRet (f : FE) (ρ : Rho) : sRet f ρ = (f ρ).map .rt := rfl
@[simp] theorem ev_sIf (p : FB) (a b : FS) (ρ : Rho) : sIf p a b ρ = (p ρ).bind fun t => match t with
  | true => a ρ
  | false => b ρ := rfl
@[simp] theorem ev_wipe0 (ρ : Rho) : wipeR ρ [] = ρ := rfl
@[simp] theorem ev_wipe1 (ρ : Rho) (i : Nat) (is : List Nat) : wipeR ρ (i :: is) = (wipeR ρ is).set i .no := rfl
@[simp] theorem ev_sDrop (f : FE) (ρ : Rho) : sDrop f ρ = (f ρ).map fun _ => .nx ρ := rfl
/-- mapping -/
theorem lc_enc {bd : D → Rho → Option Rho} {fe : FE} {ρ : Rho} {g : Tm → Tm} : ∀ {ts : List Tm}, (∀ t ∈ ts, ∃ ρ', bd (enc t) ρ = some ρ' ∧ fe ρ' = some (enc (g t))) → lcGo bd bYes fe ρ (encs ts) = some (encs (ts.map g))
  | [], _ => rfl
  | t :: ts, h => by
    obtain ⟨ρ', h1, h2⟩ := h t List.mem_cons_self
    have ih := lc_enc (bd := bd) (fe := fe) (ρ := ρ) (g := g) (ts := ts) fun u hu => h u (List.mem_cons_of_mem _ hu)
    simp [encs, lcGo, h1, h2, ih]
theorem lc_filter {bd : D → Rho → Option Rho} {ft : FB} {fe : FE} {ρ : Rho} {p : Tm → Bool} : ∀ {ts : List Tm}, (∀ t ∈ ts, ∃ ρ', bd (enc t) ρ = some ρ' ∧ ft ρ' = some (p t) ∧ fe ρ' = some (enc t)) → lcGo bd ft fe ρ (encs ts) = some (encs (ts.filter p))
  | [], _ => rfl
  | t :: ts, h => by
    obtain ⟨ρ', h1, h2, h3⟩ := h t List.mem_cons_self
    have ih := lc_filter (bd := bd) (ft := ft) (fe := fe) (ρ := ρ) (p := p) (ts := ts) fun u hu => h u (List.mem_cons_of_mem _ hu)
    cases q : p t <;> simp [encs, lcGo, h1, h2, h3, ih, q]
end LT
/-! # Ev2 -/
namespace LT
open PySem PySem.Spec PyProof.Rows L2 Tm
/-- what is known of the callees at a level: all that needs no more than n -/
structure SpA (n : Nat) (c : Fns) : Prop where
  gathered : ∀ ts, 1 ≤ n → szs ts ≤ 1000 → c .fgathered [.list (encs ts)] = some (enc (gath ts))
  timed : ∀ k t, 1 ≤ n → c .ftimed [.int (k : Nat), enc t] = some (enc (Tm.timed k t))
  kept : ∀ t, 1 ≤ n → c .fkept [enc t] = some (enc (Tm.kept t))
  begun : ∀ p, 4 * sz p + 1 ≤ n → sz p ≤ 1000 → c .fbegun [enc p] = some (enc (Tm.begun p))
  joined : ∀ t ps, 4 * szs ps + 2 ≤ n → sz t + szs ps ≤ 1000 → c .fjoined [enc t, .tuple (encs ps)] = some (enc (joinB ps t))
  raced : ∀ ts, 4 * szs ts + 2 ≤ n → szs ts ≤ 1000 → c .fraced [.list (encs ts)] = some (enc (race ts))
  lasted : ∀ t p, 4 * sz p + 2 ≤ n → sz p ≤ 1000 → c .flasted [enc t, enc p] = some (enc (lastd t p))
  off : ∀ t, 4 * sz t + 1 ≤ n → sz t ≤ 1000 → c .fcalledoff [enc t] = some (enc (Tm.off t))
section
variable {n : Nat} {c : Fns}
theorem ev_timed (k : Nat) (t : Tm) : bodyF 2 (g_ftimed c) [.int (k : Nat), enc t] = some (enc (Tm.timed k t)) := by
  cases h : t.isR <;> simp [g_ftimed, bodyF, h, Tm.timed, enc, chk_ok]
theorem ev_kept (t : Tm) : bodyF 1 (g_fkept c) [enc t] = some (enc (Tm.kept t)) := by
  cases t <;> simp [g_fkept, bodyF, Tm.kept, enc, chk_ok, isR]
theorem ev_gathered (ts : List Tm) (hz : szs ts ≤ 1000) : bodyF 3 (g_fgathered c) [.list (encs ts)] = some (enc (gath ts)) := by
  have hl : (ts.filter fun t => !t.isR).length ≤ 1000 := Nat.le_trans (szs_len _) (Nat.le_trans (szs_filter _ _) hz)
  simp only [g_fgathered, bodyF]
  simp
  rw [lc_filter (p := fun t => !t.isR) (fun t _ => ⟨_, rfl, by simp, by simp⟩)]
  simp
  rcases gath_cases ts with ⟨h1, h2⟩ | ⟨t, h0, h1, h2⟩ | ⟨a, b, l, h1, h2⟩
  · rw [h1, h2]
    simp [encs, enc, chk_ok]
  · rw [h1, h2]
    simp [encs, chk_ok]
  · rw [h1, h2]
    rw [h2] at hl
    simp at hl
    have e : decide ((l.length : Int) + 1 + 1 < 2) = false := decide_eq_false (by omega)
    simp [encs, enc, e]
    rw [chk_ok (by simp; omega)]
    simp
end
end LT
/-! # Ev3 -/
namespace LT
open PySem PySem.Spec PyProof.Rows L2 Tm
theorem szs_tail {ts : List Tm} {t : Tm} (h : t ∈ ts) : sz t ≤ szs ts := sz_mem h
section
variable {n : Nat} {c : Fns}
theorem ev_begun (S : SpA n c) (p : Tm) (h : 4 * sz p + 1 ≤ n + 1) (hz : sz p ≤ 1000) : bodyF 3 (g_fbegun c) [enc p] = some (enc (Tm.begun p)) := by
  cases p with
  | rest => simp [g_fbegun, bodyF, enc, Tm.begun, chk_ok]
  | say w => simp [g_fbegun, bodyF, enc, Tm.begun, chk_ok]
  | wait e => simp [g_fbegun, bodyF, enc, Tm.begun, chk_ok]
  | thn p ps =>
    simp only [sz] at h hz
    have h1 := S.begun p (by omega) (by omega)
    have h2 := S.joined (Tm.begun p) ps (by omega) (by have := sz_begun p; omega)
    simp [g_fbegun, bodyF, enc, Tm.begun, chk_ok, h1, h2]
  | both ps =>
    simp only [sz] at h hz
    have h2 := S.gathered (ps.map Tm.begun) (by omega) (by have := sz_begunL ps; rw [begunL_map] at this; omega)
    simp [g_fbegun, bodyF, enc, Tm.begun, chk_ok]
    rw [lc_enc (g := Tm.begun) (fun t ht => ⟨_, rfl, by have := sz_mem ht; simp [S.begun t (by omega) (by omega)]⟩)]
    simp [h2, begunL_map]
  | first ps =>
    simp only [sz] at h hz
    have h2 := S.raced (ps.map Tm.begun) (by have := sz_begunL ps; rw [begunL_map] at this; omega) (by have := sz_begunL ps; rw [begunL_map] at this; omega)
    rw [begun_first]
    simp [g_fbegun, bodyF, enc, chk_ok]
    rw [lc_enc (g := Tm.begun) (fun t ht => ⟨_, rfl, by have := sz_mem ht; simp [S.begun t (by omega) (by omega)]⟩)]
    simp [h2, begunL_map]
  | within k p =>
    simp only [sz] at h hz
    have h1 := S.begun p (by omega) (by omega)
    have h2 := S.timed k (Tm.begun p) (by omega)
    simp [g_fbegun, bodyF, enc, Tm.begun, chk_ok, h1, h2]
  | last p q =>
    simp only [sz] at h hz
    have h1 := S.begun p (by omega) (by omega)
    have h2 := S.lasted (Tm.begun p) q (by omega) (by omega)
    rw [begun_last]
    simp [g_fbegun, bodyF, enc, chk_ok, h1, h2]
  | shield p =>
    simp only [sz] at h hz
    have h1 := S.begun p (by omega) (by omega)
    have h2 := S.kept (Tm.begun p) (by omega)
    simp [g_fbegun, bodyF, enc, Tm.begun, chk_ok, h1, h2]
  | keep p =>
    simp only [sz] at h hz
    have h1 := S.begun p (by omega) (by omega)
    have h2 := S.kept (Tm.begun p) (by omega)
    simp [g_fbegun, bodyF, enc, Tm.begun, chk_ok, h1, h2]
theorem ev_joined (S : SpA n c) (t : Tm) (ps : List Tm) (h : 4 * szs ps + 2 ≤ n + 1) (hz : sz t + szs ps ≤ 1000) : bodyF 2 (g_fjoined c) [enc t, .tuple (encs ps)] = some (enc (joinB ps t)) := by
  cases ps with
  | nil => simp [g_fjoined, bodyF, encs, joinB, chk_ok]
  | cons q qs =>
    simp only [szs] at h hz
    have := sz_pos q
    have h1 := S.begun q (by omega) (by omega)
    have h2 := S.joined (Tm.begun q) qs (by omega) (by have := sz_begun q; omega)
    cases r : t.isR with
    | true => simp [g_fjoined, bodyF, encs, joinB, chk_ok, r, h1, h2]
    | false =>
      have hl := szs_len qs
      simp [g_fjoined, bodyF, encs, joinB, chk_ok, r, enc]
      rw [chk_ok (by simp; omega)]
      simp
theorem ev_off (S : SpA n c) (t : Tm) (h : 4 * sz t + 1 ≤ n + 1) (hz : sz t ≤ 1000) : bodyF 3 (g_fcalledoff c) [enc t] = some (enc (Tm.off t)) := by
  cases t with
  | rest => simp [g_fcalledoff, bodyF, enc, Tm.off, chk_ok]
  | say w => simp [g_fcalledoff, bodyF, enc, Tm.off, chk_ok]
  | wait e => simp [g_fcalledoff, bodyF, enc, Tm.off, chk_ok]
  | thn p ps =>
    simp only [sz] at h hz
    have h1 := S.off p (by omega) (by omega)
    simp [g_fcalledoff, bodyF, enc, Tm.off, chk_ok, h1]
  | both ps =>
    simp only [sz] at h hz
    have h2 := S.gathered (ps.map Tm.off) (by omega) (by have := sz_offL ps; rw [offL_map] at this; omega)
    simp [g_fcalledoff, bodyF, enc, Tm.off, chk_ok]
    rw [lc_enc (g := Tm.off) (fun t ht => ⟨_, rfl, by have := sz_mem ht; simp [S.off t (by omega) (by omega)]⟩)]
    simp [h2, offL_map]
  | first ps =>
    simp only [sz] at h hz
    have h2 := S.gathered (ps.map Tm.off) (by omega) (by have := sz_offL ps; rw [offL_map] at this; omega)
    simp [g_fcalledoff, bodyF, enc, Tm.off, chk_ok]
    rw [lc_enc (g := Tm.off) (fun t ht => ⟨_, rfl, by have := sz_mem ht; simp [S.off t (by omega) (by omega)]⟩)]
    simp [h2, offL_map]
  | within k p =>
    simp only [sz] at h hz
    have h1 := S.off p (by omega) (by omega)
    simp [g_fcalledoff, bodyF, enc, Tm.off, chk_ok, h1]
  | last p q =>
    simp only [sz] at h hz
    have h1 := S.off p (by omega) (by omega)
    have h2 := S.lasted (Tm.off p) q (by omega) (by omega)
    simp [g_fcalledoff, bodyF, enc, Tm.off, chk_ok, h1, h2]
  | shield p => simp [g_fcalledoff, bodyF, enc, Tm.off, chk_ok]
  | keep p => simp [g_fcalledoff, bodyF, enc, Tm.off, chk_ok]
theorem ev_lasted (S : SpA n c) (t p : Tm) (h : 4 * sz p + 2 ≤ n + 1) (hz : sz p ≤ 1000) : bodyF 2 (g_flasted c) [enc t, enc p] = some (enc (lastd t p)) := by
  have h1 := S.begun p (by omega) (by omega)
  have h2 := S.kept (Tm.begun p) (by have := sz_pos p; omega)
  cases r : t.isR <;> simp [g_flasted, bodyF, enc, lastd, chk_ok, h1, h2, r]
theorem ev_raced (S : SpA n c) (ts : List Tm) (h : 4 * szs ts + 2 ≤ n + 1) (hz : szs ts ≤ 1000) : bodyF 2 (g_fraced c) [.list (encs ts)] = some (enc (race ts)) := by
  cases r : ts.any isR with
  | true =>
    have hp : 1 ≤ szs ts := by
      cases ts with
      | nil => simp at r
      | cons t ts => simp only [szs]; have := sz_pos t; omega
    have h2 := S.gathered (ts.map Tm.off) (by omega) (by have := sz_offL ts; rw [offL_map] at this; omega)
    simp [g_fraced, bodyF, enc, race, chk_ok, r]
    rw [lc_enc (g := Tm.off) (fun t ht => ⟨_, rfl, by have := sz_mem ht; simp [S.off t (by omega) (by omega)]⟩)]
    simp [h2, offL_map]
  | false =>
    have hl := szs_len ts
    simp [g_fraced, bodyF, enc, race, chk_ok, r]
    rw [chk_ok (by simp; omega)]
    simp
end
end LT
/-! # Ev4 -/
namespace LT
open PySem PySem.Spec PyProof.Rows L2 Tm
def encL : Lb → D
  | .come e => .tuple [.str (kS .come), .int e]
  | .off => .tuple [.str (kS .off), .int 0]
  | .say w => .tuple [.str (kS .say), .int w]
  | .take e => .tuple [.str (kS .take), .int e]
  | .tick => .tuple [.str (kS .tick), .int 0]
def encS (s : Lb × Tm) : D := .tuple [encL s.1, enc s.2]
def encC (came : List Nat) : D := .tuple (came.map fun (e : Nat) => .int (e : Int))
@[simp] theorem any_came (came : List Nat) (e : Nat) : ((came.map fun (e : Nat) => PyData.int (e : Int)).any fun z => PyData.eqv z (.int (e : Int))) = decide (e ∈ came) := by
  rw [List.any_map]
  by_cases h : e ∈ came
  · rw [decide_eq_true h]
    exact List.any_eq_true.mpr ⟨e, h, by simp⟩
  · rw [decide_eq_false h]
    refine List.any_eq_false.mpr fun x hx => ?_
    simp
    intro q
    have : x = e := by omega
    exact h (this ▸ hx)
theorem lc_map {α : Type} {bd : D → Rho → Option Rho} {fe : FE} {ρ : Rho} {e f : α → D} : ∀ {xs : List α}, (∀ x ∈ xs, ∃ ρ', bd (e x) ρ = some ρ' ∧ fe ρ' = some (f x)) → lcGo bd bYes fe ρ (xs.map e) = some (xs.map f)
  | [], _ => rfl
  | x :: xs, h => by
    obtain ⟨ρ', h1, h2⟩ := h x List.mem_cons_self
    have ih := lc_map (bd := bd) (fe := fe) (ρ := ρ) (e := e) (f := f) (xs := xs) fun u hu => h u (List.mem_cons_of_mem _ hu)
    simp [lcGo, h1, h2, ih]
theorem lc_fmap {α : Type} {bd : D → Rho → Option Rho} {ft : FB} {fe : FE} {ρ : Rho} {e f : α → D} {p : α → Bool} : ∀ {xs : List α}, (∀ x ∈ xs, ∃ ρ', bd (e x) ρ = some ρ' ∧ ft ρ' = some (p x) ∧ fe ρ' = some (f x)) → lcGo bd ft fe ρ (xs.map e) = some ((xs.filter p).map f)
  | [], _ => rfl
  | x :: xs, h => by
    obtain ⟨ρ', h1, h2, h3⟩ := h x List.mem_cons_self
    have ih := lc_fmap (bd := bd) (ft := ft) (fe := fe) (ρ := ρ) (e := e) (f := f) (p := p) (xs := xs) fun u hu => h u (List.mem_cons_of_mem _ hu)
    cases q : p x <;> simp [lcGo, h1, h2, h3, ih, q]
/-! enumerate -/
def enF (k : Nat) : List D → List D
  | [] => []
  | x :: xs => .tuple [.int (k : Int), x] :: enF (k + 1) xs
theorem enF_range : ∀ (xs : List D) (k : Nat), (List.range' k xs.length).zipWith (fun (i : Nat) x => PyData.tuple [.int (i : Int), x]) xs = enF k xs
  | [], k => rfl
  | x :: xs, k => by
    simp only [List.length_cons, List.range'_succ, List.zipWith_cons_cons, enF]
    rw [enF_range xs (k + 1)]
theorem enumD_eq (xs : List D) : enumD xs = enF 0 xs := by
  unfold enumD
  rw [List.range_eq_range']
  exact enF_range xs 0
@[simp] theorem ev_itEnum (f : FE) (ρ : Rho) : itEnum f ρ = match f ρ with
  | some (.tuple xs) => some (enF 0 xs)
  | _ => none := by
  unfold itEnum
  cases h : f ρ with
  | none => rfl
  | some d => cases d <;> simp [enumD_eq]
theorem cutA {x : D} {xs : List D} {i : Nat} (h : i ≤ xs.length) : cutL (x :: xs) (some 1) (some ((i : Int) + 1)) = xs.take i := by
  have a : HT.sIx (x :: xs).length 0 (some 1) = 1 := by
    have := HT.sIx_nat (x :: xs).length 0 1
    simp at this
    simpa using this
  have b : HT.sIx (x :: xs).length (x :: xs).length (some ((i : Int) + 1)) = i + 1 := by
    have := HT.sIx_nat (x :: xs).length (x :: xs).length (i + 1)
    rw [Nat.min_eq_left (by simp; omega)] at this
    simpa using this
  simp only [cutL, a, b]
  simp
theorem cutB {x : D} {xs : List D} {i : Nat} (h : i < xs.length) : cutL (x :: xs) (some ((i : Int) + 2)) none = xs.drop (i + 1) := by
  have a : HT.sIx (x :: xs).length 0 (some ((i : Int) + 2)) = i + 2 := by
    have := HT.sIx_nat (x :: xs).length 0 (i + 2)
    rw [Nat.min_eq_left (by simp; omega)] at this
    simpa using this
  simp only [cutL, a, HT.sIx_none]
  rw [List.take_of_length_le (by simp <;> omega)]
  simp
@[simp] theorem ev_sFor (fi : FL) (bd : D → Rho → Option Rho) (body : FS) (ρ : Rho) : sFor fi bd body ρ = (fi ρ).bind fun ds => forGo bd body ds ρ := rfl
@[simp] theorem ev_sApp (i : Nat) (f : FE) (ρ : Rho) : sApp i f ρ = (f ρ).bind fun d => match ρ[i]? with
  | some (.ow ds) => if ds.length < sizeLine then some (.nx (ρ.set i (.ow (ds ++ [d])))) else none
  | _ => none := rfl
@[simp] theorem ev_sExt (i : Nat) (f : FE) (ρ : Rho) : sExt i f ρ = (f ρ).bind fun d => match ρ[i]?, d with
  | some (.ow ds), .list es => if ds.length + es.length ≤ sizeLine then some (.nx (ρ.set i (.ow (ds ++ es)))) else none
  | _, _ => none := rfl
@[simp] theorem ev_sFrz (i : Nat) (g : FS) (ρ : Rho) : sFrz i g ρ = match ρ[i]? with
  | some (.ow ds) => g (ρ.set i (.im (.list ds)))
  | _ => none := rfl
@[simp] theorem ow_im (d : D) : Sl.isOw (.im d) = false := rfl
@[simp] theorem ow_no : Sl.isOw .no = false := rfl
@[simp] theorem ev_sNew (i : Nat) (ρ : Rho) : sNew i ρ = if ρ.any Sl.isOw = true then none else some (.nx (ρ.set i (.ow []))) := rfl
theorem forGo_cons {bd : D → Rho → Option Rho} {body : FS} {d : D} {ds : List D} {ρ ρ1 ρ2 : Rho} (h1 : bd d ρ = some ρ1) (h2 : body ρ1 = some (.nx ρ2)) : forGo bd body (d :: ds) ρ = forGo bd body ds ρ2 := by
  simp [forGo, h1, h2]
/-- how many steps -/
theorem steps_len (came : List Nat) : (∀ t : Tm, (steps came t).length ≤ sz t) ∧ ∀ ts : List Tm, (stepsL came ts).length ≤ szs ts := by
  have key : ∀ n, (∀ t : Tm, sz t ≤ n → (steps came t).length ≤ sz t) ∧ ∀ ts : List Tm, szs ts ≤ n → (stepsL came ts).length ≤ szs ts := by
    intro n
    induction n with
    | zero =>
      refine ⟨fun t h => by have := sz_pos t; omega, fun ts h => ?_⟩
      cases ts with
      | nil => simp [stepsL]
      | cons t ts => simp only [szs] at h; have := sz_pos t; omega
    | succ n ih =>
      have one : ∀ t : Tm, sz t ≤ n + 1 → (steps came t).length ≤ sz t := fun t h => by
        cases t with
        | rest => simp [steps]
        | say w => simp [steps, sz]
        | wait e => simp only [steps, sz]; split <;> simp
        | thn t ps => simp only [sz] at h; simp only [steps, List.length_map, sz]; have := ih.1 t (by omega); omega
        | both ts => simp only [sz] at h; simp only [steps, List.length_map, sz]; have := ih.2 ts (by omega); omega
        | first ts => simp only [sz] at h; simp only [steps, List.length_map, sz]; have := ih.2 ts (by omega); omega
        | within k t => simp only [sz] at h; simp only [steps, List.length_map, sz]; have := ih.1 t (by omega); omega
        | last t p => simp only [sz] at h; simp only [steps, List.length_map, sz]; have := ih.1 t (by omega); omega
        | shield t => simp only [sz] at h; simp only [steps, List.length_map, sz]; have := ih.1 t (by omega); omega
        | keep t => simp only [sz] at h; simp only [steps, List.length_map, sz]; have := ih.1 t (by omega); omega
      refine ⟨one, fun ts => ?_⟩
      induction ts with
      | nil => intro _; simp [stepsL]
      | cons t ts iht =>
        intro h
        simp only [szs] at h ⊢
        have := sz_pos t
        have := one t (by omega)
        have := iht (by omega)
        simp only [stepsL, List.length_append, List.length_map]
        omega
  exact ⟨fun t => (key _).1 t (Nat.le_refl _), fun ts => (key _).2 ts (Nat.le_refl _)⟩
structure SpB (n : Nat) (c : Fns) : Prop extends SpA n c where
  rebuilt : ∀ t p, t.isR = false → (∀ w, t ≠ .say w) → (∀ w, t ≠ .wait w) → (∀ ts, t ≠ .both ts) → (∀ ts, t ≠ .first ts) → 4 * sz t + 1 ≤ n → sz t + sz p ≤ 1000 → c .frebuilt [enc t, enc p] = some (enc (Tm.rebuilt t p))
  steps : ∀ t came, 4 * sz t + 2 ≤ n → sz t ≤ 400 → c .fstepsin [enc t, encC came] = some (.list ((Tm.steps came t).map encS))
  tick : ∀ t, 4 * sz t + 2 ≤ n → sz t ≤ 400 → c .fticked [enc t] = some (enc (Tm.tick t))
section
variable {n : Nat} {c : Fns}
theorem ev_rebuilt (S : SpA n c) (t p : Tm) (hr : t.isR = false) (h1 : ∀ w, t ≠ .say w) (h2 : ∀ w, t ≠ .wait w) (h3 : ∀ ts, t ≠ .both ts) (h4 : ∀ ts, t ≠ .first ts) (h : 4 * sz t + 1 ≤ n + 1) (hz : sz t + sz p ≤ 1000) :
    bodyF 3 (g_frebuilt c) [enc t, enc p] = some (enc (Tm.rebuilt t p)) := by
  cases t with
  | rest => simp [isR] at hr
  | say w => exact absurd rfl (h1 w)
  | wait w => exact absurd rfl (h2 w)
  | both w => exact absurd rfl (h3 w)
  | first w => exact absurd rfl (h4 w)
  | thn t ps =>
    simp only [sz] at h hz
    have e := S.joined p ps (by omega) (by omega)
    simp [g_frebuilt, bodyF, enc, Tm.rebuilt, e]
  | within k t =>
    simp only [sz] at h hz
    have e := S.timed k p (by omega)
    simp [g_frebuilt, bodyF, enc, Tm.rebuilt, e]
  | last t q =>
    simp only [sz] at h hz
    have e := S.lasted p q (by omega) (by omega)
    simp [g_frebuilt, bodyF, enc, Tm.rebuilt, e]
  | shield t =>
    simp only [sz] at h hz
    have e := S.kept p (by omega)
    simp [g_frebuilt, bodyF, enc, Tm.rebuilt, e]
  | keep t =>
    simp only [sz] at h hz
    have e := S.kept p (by omega)
    simp [g_frebuilt, bodyF, enc, Tm.rebuilt, e]
theorem ev_tick (S : SpB n c) (t : Tm) (h : 4 * sz t + 2 ≤ n + 1) (hz : sz t ≤ 400) : bodyF 4 (g_fticked c) [enc t] = some (enc (Tm.tick t)) := by
  cases t with
  | rest => simp [g_fticked, bodyF, enc, Tm.tick, chk_ok]
  | say w => simp [g_fticked, bodyF, enc, Tm.tick, chk_ok]
  | wait w => simp [g_fticked, bodyF, enc, Tm.tick, chk_ok]
  | both ts =>
    simp only [sz] at h hz
    have h2 := S.gathered (ts.map Tm.tick) (by omega) (by have := sz_tickL ts; rw [tickL_map] at this; omega)
    simp [g_fticked, bodyF, enc, Tm.tick, chk_ok]
    rw [lc_enc (g := Tm.tick) (fun t ht => ⟨_, rfl, by have := sz_mem ht; simp [S.tick t (by omega) (by omega)]⟩)]
    simp [h2, tickL_map]
  | first ts =>
    simp only [sz] at h hz
    have h2 := S.raced (ts.map Tm.tick) (by have := sz_tickL ts; rw [tickL_map] at this; omega) (by have := sz_tickL ts; rw [tickL_map] at this; omega)
    simp [g_fticked, bodyF, enc, Tm.tick, chk_ok]
    rw [lc_enc (g := Tm.tick) (fun t ht => ⟨_, rfl, by have := sz_mem ht; simp [S.tick t (by omega) (by omega)]⟩)]
    simp [h2, tickL_map]
  | within k t =>
    simp only [sz] at h hz
    have h1 := S.tick t (by omega) (by omega)
    have hs := sz_tick t
    have h2 := S.off (Tm.tick t) (by omega) (by omega)
    by_cases hk : 1 < k
    · have h3 := S.timed (k - 1) (Tm.tick t) (by omega)
      have e : ((k - 1 : Nat) : Int) = (k : Int) - 1 := by omega
      rw [e] at h3
      have d : decide ((1 : Int) < (k : Int)) = true := decide_eq_true (by omega)
      simp [g_fticked, bodyF, enc, Tm.tick, chk_ok, h1, h3, hk, d]
    · have d : decide ((1 : Int) < (k : Int)) = false := decide_eq_false (by omega)
      simp [g_fticked, bodyF, enc, Tm.tick, chk_ok, h1, h2, hk, d]
  | thn t ps =>
    have h' := h
    have hz' := hz
    simp only [sz] at h hz
    have h1 := S.tick t (by omega) (by omega)
    have hs := sz_tick t
    have h2 := S.rebuilt (.thn t ps) (Tm.tick t) rfl (by simp) (by simp) (by simp) (by simp) (by omega) (by simp only [sz]; omega)
    simp only [enc, Tm.rebuilt] at h2
    simp [g_fticked, bodyF, enc, Tm.tick, chk_ok, h1, h2]
  | last t p =>
    have h' := h
    have hz' := hz
    simp only [sz] at h hz
    have h1 := S.tick t (by omega) (by omega)
    have hs := sz_tick t
    have h2 := S.rebuilt (.last t p) (Tm.tick t) rfl (by simp) (by simp) (by simp) (by simp) (by omega) (by simp only [sz]; omega)
    simp only [enc, Tm.rebuilt] at h2
    simp [g_fticked, bodyF, enc, Tm.tick, chk_ok, h1, h2]
  | shield t =>
    have h' := h
    have hz' := hz
    simp only [sz] at h hz
    have h1 := S.tick t (by omega) (by omega)
    have hs := sz_tick t
    have h2 := S.rebuilt (.shield t) (Tm.tick t) rfl (by simp) (by simp) (by simp) (by simp) (by omega) (by simp only [sz]; omega)
    simp only [enc, Tm.rebuilt] at h2
    simp [g_fticked, bodyF, enc, Tm.tick, chk_ok, h1, h2]
  | keep t =>
    have h' := h
    have hz' := hz
    simp only [sz] at h hz
    have h1 := S.tick t (by omega) (by omega)
    have hs := sz_tick t
    have h2 := S.rebuilt (.keep t) (Tm.tick t) rfl (by simp) (by simp) (by simp) (by simp) (by omega) (by simp only [sz]; omega)
    simp only [enc, Tm.rebuilt] at h2
    simp [g_fticked, bodyF, enc, Tm.tick, chk_ok, h1, h2]
end
end LT
/-! # Ev5 -/
namespace LT
open PySem PySem.Spec PyProof.Rows L2 Tm
/-! ## steps_in's loops -/
def kdB (b : Bool) : Kd := if b = true then .both else .first
def gB (b : Bool) (ts : List Tm) : Tm := if b = true then gath ts else race ts
def stBody (c : Fns) : FS := (sSeq (sSet 8 (cLst (cStar (cSl (cV 0) (cPt (cK (.int 1))) (cPt (bin2 addH (cV 4) (cK (.int 1))))) (cCons (cV 7) (cStar (cSl (cV 0) (cPt (bin2 addH (cV 4) (cK (.int 2)))) cNo) cNil)))))
    (sApp 3 (cTup (cCons (cV 6) (cCons (cIf (cmpB eqH (cV 2) (cK (.str (kS .both)))) (cCall 1 (c .fgathered) (cCons (cV 8) cNil)) (cCall 1 (c .fraced) (cCons (cV 8) cNil))) cNil)))))
def stLoop (c : Fns) : FS := (sFor (itL (cCall 2 (c .fstepsin) (cCons (cV 5) (cCons (cV 1) cNil)))) (bdT [6, 7]) (stBody c))
theorem encs_app : ∀ as bs : List Tm, encs (as ++ bs) = encs as ++ encs bs
  | [], _ => rfl
  | a :: as, bs => by simp [encs, encs_app as bs]
section
variable {n : Nat} {c : Fns}
theorem st_body (S : SpB n c) (b : Bool) (pre post : List Tm) (t : Tm) (C x5 x6 x7 x8 : Sl) (acc : List D) (l : D) (u : Tm) (hz : szs (pre ++ u :: post) ≤ 400) (hn : 4 * szs (pre ++ u :: post) + 2 ≤ n) (ha : acc.length ≤ 10000) :
    ∃ y8, stBody c [.im (.tuple (.str (kS (kdB b)) :: encs (pre ++ t :: post))), C, .im (.str (kS (kdB b))), .ow acc, .im (.int (pre.length : Int)), x5, .im l, .im (enc u), x8] =
      some (.nx [.im (.tuple (.str (kS (kdB b)) :: encs (pre ++ t :: post))), C, .im (.str (kS (kdB b))), .ow (acc ++ [.tuple [l, enc (gB b (pre ++ u :: post))]]), .im (.int (pre.length : Int)), x5, .im l, .im (enc u), y8]) := by
  have hA : cutL (.str (kS (kdB b)) :: encs (pre ++ t :: post)) (some 1) (some ((pre.length : Int) + 1)) = encs pre := by
    rw [cutA (by simp), encs_app, List.take_left' (by simp)]
  have hB : cutL (.str (kS (kdB b)) :: encs (pre ++ t :: post)) (some ((pre.length : Int) + 2)) none = encs post := by
    rw [cutB (by simp), encs_app]
    rw [show pre.length + 1 = (encs pre ++ [enc t]).length by simp, show encs pre ++ encs (t :: post) = (encs pre ++ [enc t]) ++ encs post by simp [encs]]
    exact List.drop_left
  have hl := szs_len (pre ++ u :: post)
  have hc : chkLen (encs pre ++ (enc u :: encs post)) = some (encs (pre ++ u :: post)) := by
    rw [show encs pre ++ (enc u :: encs post) = encs (pre ++ u :: post) by rw [encs_app]; rfl]
    exact chk_ok (by simp at hl ⊢; omega)
  have hs : acc.length < sizeLine := by rw [sizeLine_eq]; omega
  refine ⟨.im (.list (encs (pre ++ u :: post))), ?_⟩
  have hp : 1 ≤ n := by omega
  have e1 := S.gathered (pre ++ u :: post) hp (by omega)
  have e2 := S.raced (pre ++ u :: post) hn (by omega)
  cases b <;> simp [stBody, kdB, gB, hA, hB, hc, chk_ok, hs, e1, e2, hA, hB] <;> simp [kdB] at hA hB <;> simp [hA, hB, hc, e1, e2, hs, chk_ok]
theorem st_inner (S : SpB n c) (b : Bool) (pre post : List Tm) (t : Tm) (C x5 : Sl) : ∀ (ss : List (Lb × Tm)) (acc : List D) (x6 x7 x8 : Sl), (∀ s ∈ ss, szs (pre ++ s.2 :: post) ≤ 400 ∧ 4 * szs (pre ++ s.2 :: post) + 2 ≤ n) → acc.length + ss.length ≤ 10000 →
    ∃ y6 y7 y8, forGo (bdT [6, 7]) (stBody c) (ss.map encS) [.im (.tuple (.str (kS (kdB b)) :: encs (pre ++ t :: post))), C, .im (.str (kS (kdB b))), .ow acc, .im (.int (pre.length : Int)), x5, x6, x7, x8] =
      some (.nx [.im (.tuple (.str (kS (kdB b)) :: encs (pre ++ t :: post))), C, .im (.str (kS (kdB b))), .ow (acc ++ ss.map fun s => encS (s.1, gB b (pre ++ s.2 :: post))), .im (.int (pre.length : Int)), x5, y6, y7, y8])
  | [], acc, x6, x7, x8, _, _ => ⟨x6, x7, x8, by simp [forGo]⟩
  | s :: ss, acc, x6, x7, x8, hz, ha => by
    have h := hz s List.mem_cons_self
    simp only [List.length_cons] at ha
    obtain ⟨y8, e⟩ := st_body S b pre post t C x5 (.im (encL s.1)) (.im (enc s.2)) x8 acc (encL s.1) s.2 h.1 h.2 (by omega)
    obtain ⟨z6, z7, z8, e2⟩ := st_inner S b pre post t C x5 ss (acc ++ [.tuple [encL s.1, enc (gB b (pre ++ s.2 :: post))]]) (.im (encL s.1)) (.im (enc s.2)) y8 (fun u hu => hz u (List.mem_cons_of_mem _ hu)) (by simp; omega)
    refine ⟨z6, z7, z8, ?_⟩
    rw [List.map_cons, forGo_cons (ρ1 := [.im (.tuple (.str (kS (kdB b)) :: encs (pre ++ t :: post))), C, .im (.str (kS (kdB b))), .ow acc, .im (.int (pre.length : Int)), x5, .im (encL s.1), .im (enc s.2), x8]) (by simp [encS]) e, e2]
    simp [encS]
theorem st_outer (S : SpB n c) (b : Bool) (came : List Nat) : ∀ (post pre : List Tm) (acc : List D) (x4 x5 x6 x7 x8 : Sl), szs (pre ++ post) ≤ 400 → 4 * szs (pre ++ post) + 2 ≤ n → acc.length + szs post ≤ 10000 →
    ∃ y4 y5 y6 y7 y8, forGo (bdT [4, 5]) (stLoop c) (enF pre.length (encs post)) [.im (.tuple (.str (kS (kdB b)) :: encs (pre ++ post))), .im (encC came), .im (.str (kS (kdB b))), .ow acc, x4, x5, x6, x7, x8] =
      some (.nx [.im (.tuple (.str (kS (kdB b)) :: encs (pre ++ post))), .im (encC came), .im (.str (kS (kdB b))), .ow (acc ++ (stepsL came post).map fun s => encS (s.1, gB b (pre ++ s.2))), y4, y5, y6, y7, y8])
  | [], pre, acc, x4, x5, x6, x7, x8, _, _, _ => ⟨x4, x5, x6, x7, x8, by simp [forGo, encs, enF, stepsL]⟩
  | t :: post, pre, acc, x4, x5, x6, x7, x8, hz, hn, ha => by
    have hz' := hz
    have hn' := hn
    rw [szs_app] at hz hn
    simp only [szs] at hz hn ha
    have hs := S.steps t came (by omega) (by omega)
    have hle := (steps_len came).1 t
    obtain ⟨z6, z7, z8, e⟩ := st_inner S b pre post t (.im (encC came)) (.im (enc t)) (steps came t) acc x6 x7 x8 (fun s hs => by
      have := sz_steps came t s hs
      rw [szs_app]
      simp only [szs]
      omega) (by omega)
    have e0 : stLoop c [.im (.tuple (.str (kS (kdB b)) :: encs (pre ++ t :: post))), .im (encC came), .im (.str (kS (kdB b))), .ow acc, .im (.int (pre.length : Int)), .im (enc t), x6, x7, x8] = some (.nx [.im (.tuple (.str (kS (kdB b)) :: encs (pre ++ t :: post))), .im (encC came), .im (.str (kS (kdB b))), .ow (acc ++ (steps came t).map fun s => encS (s.1, gB b (pre ++ s.2 :: post))), .im (.int (pre.length : Int)), .im (enc t), z6, z7, z8]) := by
      rw [← e]
      simp [stLoop, hs]
    have hr : pre ++ t :: post = (pre ++ [t]) ++ post := by simp
    obtain ⟨w4, w5, w6, w7, w8, e2⟩ := st_outer S b came post (pre ++ [t]) (acc ++ (steps came t).map fun s => encS (s.1, gB b (pre ++ s.2 :: post))) (.im (.int (pre.length : Int))) (.im (enc t)) z6 z7 z8 (by rw [← hr]; exact hz') (by rw [← hr]; exact hn') (by simp; omega)
    refine ⟨w4, w5, w6, w7, w8, ?_⟩
    rw [← hr] at e2
    simp only [encs, enF]
    rw [forGo_cons (ρ1 := [.im (.tuple (.str (kS (kdB b)) :: encs (pre ++ t :: post))), .im (encC came), .im (.str (kS (kdB b))), .ow acc, .im (.int (pre.length : Int)), .im (enc t), x6, x7, x8]) (by simp) e0]
    rw [show pre.length + 1 = (pre ++ [t]).length by simp, e2]
    simp [stepsL, Function.comp_def]
theorem came_mem (came : List Nat) (e : Nat) : niH (.int (e : Int)) (encC came) = some (!decide (e ∈ came)) := by
  unfold encC
  rw [niH_int, any_came]
theorem came_mem' (came : List Nat) (e : Nat) : inH (.int (e : Int)) (encC came) = some (decide (e ∈ came)) := by
  unfold encC
  rw [inH_int, any_came]
theorem ev_steps (S : SpB n c) (t : Tm) (came : List Nat) (h : 4 * sz t + 2 ≤ n + 1) (hz : sz t ≤ 400) : bodyF 9 (g_fstepsin c) [enc t, encC came] = some (.list ((Tm.steps came t).map encS)) := by
  cases t with
  | rest => simp [g_fstepsin, bodyF, enc, Tm.steps, chk_ok]
  | say w => simp [g_fstepsin, bodyF, enc, Tm.steps, chk_ok, encS, encL]
  | wait e =>
    have h1 := came_mem came e
    by_cases hm : e ∈ came <;> simp [g_fstepsin, bodyF, enc, Tm.steps, chk_ok, encS, encL, h1, hm]
  | both ts =>
    simp only [sz] at h hz
    obtain ⟨y4, y5, y6, y7, y8, e⟩ := st_outer S true came ts [] [] .no .no .no .no .no (by simpa using (show szs ts ≤ 400 by omega)) (by simpa using (show 4 * szs ts + 2 ≤ n by omega)) (by simpa using (show szs ts ≤ 10000 by omega))
    have e' : forGo (bdT [4, 5]) (stLoop c) (enF 0 (encs ts)) [.im (.tuple (.str (kS .both) :: encs ts)), .im (encC came), .im (.str (kS .both)), .ow [], .no, .no, .no, .no, .no] = some (.nx [.im (.tuple (.str (kS .both) :: encs ts)), .im (encC came), .im (.str (kS .both)), .ow ((stepsL came ts).map fun s => encS (s.1, gath s.2)), y4, y5, y6, y7, y8]) := e
    simp only [stLoop, stBody] at e'
    simp [g_fstepsin, bodyF, enc, Tm.steps, chk_ok]
    rw [e']
    simp [Function.comp_def]
  | first ts =>
    simp only [sz] at h hz
    obtain ⟨y4, y5, y6, y7, y8, e⟩ := st_outer S false came ts [] [] .no .no .no .no .no (by simpa using (show szs ts ≤ 400 by omega)) (by simpa using (show 4 * szs ts + 2 ≤ n by omega)) (by simpa using (show szs ts ≤ 10000 by omega))
    have e' : forGo (bdT [4, 5]) (stLoop c) (enF 0 (encs ts)) [.im (.tuple (.str (kS .first) :: encs ts)), .im (encC came), .im (.str (kS .first)), .ow [], .no, .no, .no, .no, .no] = some (.nx [.im (.tuple (.str (kS .first) :: encs ts)), .im (encC came), .im (.str (kS .first)), .ow ((stepsL came ts).map fun s => encS (s.1, race s.2)), y4, y5, y6, y7, y8]) := e
    simp only [stLoop, stBody] at e'
    simp [g_fstepsin, bodyF, enc, Tm.steps, chk_ok]
    rw [e']
    simp [Function.comp_def]
  | thn t ps =>
    simp only [sz] at h hz
    have h1 := S.steps t came (by omega) (by omega)
    simp [g_fstepsin, bodyF, enc, Tm.steps, chk_ok, h1]
    rw [lc_map (f := fun s => encS (s.1, joinB ps s.2)) (fun s hs => ⟨_, by simp [encS]; rfl, ?_⟩)]
    · simp [Function.comp_def]
    · have := sz_steps came t s hs
      have e := S.rebuilt (.thn t ps) s.2 rfl (by simp) (by simp) (by simp) (by simp) (by simp only [sz]; omega) (by simp only [sz]; omega)
      simp only [enc, Tm.rebuilt] at e
      simp [e, chk_ok, encS]
  | within k t =>
    simp only [sz] at h hz
    have h1 := S.steps t came (by omega) (by omega)
    simp [g_fstepsin, bodyF, enc, Tm.steps, chk_ok, h1]
    rw [lc_map (f := fun s => encS (s.1, Tm.timed k s.2)) (fun s hs => ⟨_, by simp [encS]; rfl, ?_⟩)]
    · simp [Function.comp_def]
    · have := sz_steps came t s hs
      have e := S.rebuilt (.within k t) s.2 rfl (by simp) (by simp) (by simp) (by simp) (by simp only [sz]; omega) (by simp only [sz]; omega)
      simp only [enc, Tm.rebuilt] at e
      simp [e, chk_ok, encS]
  | last t p =>
    simp only [sz] at h hz
    have h1 := S.steps t came (by omega) (by omega)
    simp [g_fstepsin, bodyF, enc, Tm.steps, chk_ok, h1]
    rw [lc_map (f := fun s => encS (s.1, Tm.lastd s.2 p)) (fun s hs => ⟨_, by simp [encS]; rfl, ?_⟩)]
    · simp [Function.comp_def]
    · have := sz_steps came t s hs
      have e := S.rebuilt (.last t p) s.2 rfl (by simp) (by simp) (by simp) (by simp) (by simp only [sz]; omega) (by simp only [sz]; omega)
      simp only [enc, Tm.rebuilt] at e
      simp [e, chk_ok, encS]
  | shield t =>
    simp only [sz] at h hz
    have h1 := S.steps t came (by omega) (by omega)
    simp [g_fstepsin, bodyF, enc, Tm.steps, chk_ok, h1]
    rw [lc_map (f := fun s => encS (s.1, Tm.kept s.2)) (fun s hs => ⟨_, by simp [encS]; rfl, ?_⟩)]
    · simp [Function.comp_def]
    · have := sz_steps came t s hs
      have e := S.rebuilt (.shield t) s.2 rfl (by simp) (by simp) (by simp) (by simp) (by simp only [sz]; omega) (by simp only [sz]; omega)
      simp only [enc, Tm.rebuilt] at e
      simp [e, chk_ok, encS]
  | keep t =>
    simp only [sz] at h hz
    have h1 := S.steps t came (by omega) (by omega)
    simp [g_fstepsin, bodyF, enc, Tm.steps, chk_ok, h1]
    rw [lc_map (f := fun s => encS (s.1, Tm.kept s.2)) (fun s hs => ⟨_, by simp [encS]; rfl, ?_⟩)]
    · simp [Function.comp_def]
    · have := sz_steps came t s hs
      have e := S.rebuilt (.keep t) s.2 rfl (by simp) (by simp) (by simp) (by simp) (by simp only [sz]; omega) (by simp only [sz]; omega)
      simp only [enc, Tm.rebuilt] at e
      simp [e, chk_ok, encS]
end
end LT
/-! # Ev6 -/
namespace LT
open PySem PySem.Spec PyProof.Rows L2 Tm
namespace Tm
mutual
/-- a plan: each limit is one tick at least -/
def okP : Tm → Bool
  | thn p ps => okP p && okPs ps
  | both ps => okPs ps
  | first ps => okPs ps
  | within k p => decide (1 ≤ k) && okP p
  | last p q => okP p && okP q
  | shield p => okP p
  | keep p => okP p
  | _ => true
def okPs : List Tm → Bool
  | [] => true
  | p :: ps => okP p && okPs ps
end
mutual
/-- a term: no shield where it acts -/
def okT : Tm → Bool
  | shield _ => false
  | thn t ps => okT t && okPs ps
  | both ts => okTs ts
  | first ts => okTs ts
  | within k t => decide (1 ≤ k) && okT t
  | last t p => okT t && okP p
  | keep t => okT t
  | _ => true
def okTs : List Tm → Bool
  | [] => true
  | t :: ts => okT t && okTs ts
end
theorem okTs_iff : ∀ {ts : List Tm}, okTs ts = true ↔ ∀ t ∈ ts, okT t = true
  | [] => by simp [okTs]
  | t :: ts => by simp [okTs, okTs_iff]
theorem okPs_iff : ∀ {ts : List Tm}, okPs ts = true ↔ ∀ t ∈ ts, okP t = true
  | [] => by simp [okPs]
  | t :: ts => by simp [okPs, okPs_iff]
theorem ok_gath {ts : List Tm} (h : okTs ts = true) : okT (gath ts) = true := by
  have hf : okTs (ts.filter fun t => !t.isR) = true := okTs_iff.mpr fun t ht => okTs_iff.mp h t (List.mem_filter.mp ht).1
  rcases gath_cases ts with ⟨h1, h2⟩ | ⟨t, h0, h1, h2⟩ | ⟨a, b, l, h1, h2⟩
  · rw [h1]; rfl
  · rw [h1]; rw [h2] at hf; simpa [okTs] using hf
  · rw [h1]; rw [h2] at hf; exact hf
theorem ok_kept {t : Tm} (h : okT t = true) : okT (kept t) = true := by cases t <;> simp_all [kept, okT]
theorem ok_timed {k : Nat} {t : Tm} (hk : 1 ≤ k) (h : okT t = true) : okT (timed k t) = true := by unfold timed; split <;> simp_all [okT]
mutual
theorem ok_begun : ∀ p : Tm, okP p = true → okT (begun p) = true
  | rest, _ => rfl
  | say _, _ => rfl
  | wait _, _ => rfl
  | thn p ps, h => by
    simp only [okP, Bool.and_eq_true] at h
    simp only [begun]; exact ok_join ps _ h.2 (ok_begun p h.1)
  | both ps, h => by simp only [okP] at h; simp only [begun]; exact ok_gath (ok_begunL ps h)
  | first ps, h => by
    simp only [okP] at h
    simp only [begun]
    split
    · exact ok_gath (ok_offBL ps h)
    · exact ok_begunL ps h
  | within n p, h => by
    simp only [okP, Bool.and_eq_true, decide_eq_true_eq] at h
    simp only [begun]; exact ok_timed h.1 (ok_begun p h.2)
  | last p q, h => by
    simp only [okP, Bool.and_eq_true] at h
    simp only [begun]
    split
    · exact ok_kept (ok_begun q h.2)
    · simp only [okT]; rw [ok_begun p h.1, h.2]; rfl
  | shield p, h => by simp only [okP] at h; simp only [begun]; exact ok_kept (ok_begun p h)
  | keep p, h => by simp only [okP] at h; simp only [begun]; exact ok_kept (ok_begun p h)
theorem ok_begunL : ∀ ps : List Tm, okPs ps = true → okTs (begunL ps) = true
  | [], _ => rfl
  | p :: ps, h => by
    simp only [okPs, Bool.and_eq_true] at h
    simp only [begunL, okTs]; rw [ok_begun p h.1, ok_begunL ps h.2]; rfl
theorem ok_join : ∀ (ps : List Tm) (t : Tm), okPs ps = true → okT t = true → okT (joinB ps t) = true
  | [], t, _, h => h
  | q :: qs, t, hp, h => by
    have hp' := hp
    simp only [okPs, Bool.and_eq_true] at hp
    simp only [joinB]
    split
    · exact ok_join qs _ hp.2 (ok_begun q hp.1)
    · simp only [okT]; rw [h, hp']; rfl
theorem ok_offB : ∀ p : Tm, okP p = true → okT (offB p) = true
  | rest, _ => rfl
  | say _, _ => rfl
  | wait _, _ => rfl
  | thn p ps, h => by
    simp only [okP, Bool.and_eq_true] at h
    simp only [offB]
    split
    · exact ok_offJ ps h.2
    · exact ok_offB p h.1
  | both ps, h => by simp only [okP] at h; simp only [offB]; exact ok_gath (ok_offBL ps h)
  | first ps, h => by simp only [okP] at h; simp only [offB]; exact ok_gath (ok_offBL ps h)
  | within n p, h => by simp only [okP, Bool.and_eq_true] at h; simp only [offB]; exact ok_offB p h.2
  | last p q, h => by
    simp only [okP, Bool.and_eq_true] at h
    simp only [offB]
    split
    · exact ok_kept (ok_begun q h.2)
    · simp only [okT]; rw [ok_offB p h.1, h.2]; rfl
  | shield p, h => by simp only [okP] at h; simp only [offB]; exact ok_kept (ok_begun p h)
  | keep p, h => by simp only [okP] at h; simp only [offB]; exact ok_kept (ok_begun p h)
theorem ok_offBL : ∀ ps : List Tm, okPs ps = true → okTs (offBL ps) = true
  | [], _ => rfl
  | p :: ps, h => by
    simp only [okPs, Bool.and_eq_true] at h
    simp only [offBL, okTs]; rw [ok_offB p h.1, ok_offBL ps h.2]; rfl
theorem ok_offJ : ∀ ps : List Tm, okPs ps = true → okT (offJ ps) = true
  | [], _ => rfl
  | q :: qs, h => by
    simp only [okPs, Bool.and_eq_true] at h
    simp only [offJ]
    split
    · exact ok_offJ qs h.2
    · exact ok_offB q h.1
end
theorem ok_lastd {t p : Tm} (h : okT t = true) (hp : okP p = true) : okT (lastd t p) = true := by
  unfold lastd
  split
  · exact ok_kept (ok_begun p hp)
  · simp only [okT]; rw [h, hp]; rfl
mutual
theorem ok_off : ∀ t : Tm, okT t = true → okT (off t) = true
  | rest, _ => rfl
  | say _, _ => rfl
  | wait _, _ => rfl
  | thn t ps, h => by simp only [okT, Bool.and_eq_true] at h; exact ok_off t h.1
  | both ts, h => ok_gath (ok_offL ts h)
  | first ts, h => ok_gath (ok_offL ts h)
  | within k t, h => by simp only [okT, Bool.and_eq_true] at h; exact ok_off t h.2
  | last t p, h => by simp only [okT, Bool.and_eq_true] at h; exact ok_lastd (ok_off t h.1) h.2
  | shield _, h => h
  | keep _, h => h
theorem ok_offL : ∀ ts : List Tm, okTs ts = true → okTs (offL ts) = true
  | [], _ => rfl
  | t :: ts, h => by
    simp only [okTs, Bool.and_eq_true] at h
    simp only [offL, okTs]
    rw [ok_off t h.1, ok_offL ts h.2]
    rfl
end
theorem ok_race {ts : List Tm} (h : okTs ts = true) : okT (race ts) = true := by
  unfold race
  split
  · exact ok_gath (ok_offL ts h)
  · exact h
mutual
theorem ok_steps (came : List Nat) : ∀ t : Tm, okT t = true → ∀ s ∈ steps came t, okT s.2 = true
  | rest, _, s, h => by simp [steps] at h
  | say _, _, s, h => by simp [steps] at h; rw [h]; rfl
  | wait _, _, s, h => by
    simp only [steps] at h
    split at h
    · simp at h; rw [h]; rfl
    · cases h
  | thn t ps, ok, s, h => by
    simp only [okT, Bool.and_eq_true] at ok
    obtain ⟨u, hu, rfl⟩ := List.mem_map.mp h
    exact ok_join ps _ ok.2 (ok_steps came t ok.1 u hu)
  | both ts, ok, s, h => by
    obtain ⟨u, hu, rfl⟩ := List.mem_map.mp h
    exact ok_gath (ok_stepsL came ts ok u hu)
  | first ts, ok, s, h => by
    obtain ⟨u, hu, rfl⟩ := List.mem_map.mp h
    exact ok_race (ok_stepsL came ts ok u hu)
  | within k t, ok, s, h => by
    simp only [okT, Bool.and_eq_true, decide_eq_true_eq] at ok
    obtain ⟨u, hu, rfl⟩ := List.mem_map.mp h
    exact ok_timed ok.1 (ok_steps came t ok.2 u hu)
  | last t p, ok, s, h => by
    simp only [okT, Bool.and_eq_true] at ok
    obtain ⟨u, hu, rfl⟩ := List.mem_map.mp h
    exact ok_lastd (ok_steps came t ok.1 u hu) ok.2
  | shield t, ok, s, h => by simp [okT] at ok
  | keep t, ok, s, h => by
    obtain ⟨u, hu, rfl⟩ := List.mem_map.mp h
    exact ok_kept (ok_steps came t ok u hu)
theorem ok_stepsL (came : List Nat) : ∀ ts : List Tm, okTs ts = true → ∀ s ∈ stepsL came ts, okTs s.2 = true
  | [], _, s, h => by simp [stepsL] at h
  | t :: ts, ok, s, h => by
    simp only [okTs, Bool.and_eq_true] at ok
    simp only [stepsL] at h
    rcases List.mem_append.mp h with h | h
    · obtain ⟨u, hu, rfl⟩ := List.mem_map.mp h
      simp only [okTs]
      rw [ok_steps came t ok.1 u hu, ok.2]
      rfl
    · obtain ⟨u, hu, rfl⟩ := List.mem_map.mp h
      simp only [okTs]
      rw [ok_stepsL came ts ok.2 u hu, ok.1]
      rfl
end
mutual
theorem ok_tick : ∀ t : Tm, okT t = true → okT (tick t) = true
  | rest, _ => rfl
  | say _, _ => rfl
  | wait _, _ => rfl
  | thn t ps, h => by simp only [okT, Bool.and_eq_true] at h; exact ok_join ps _ h.2 (ok_tick t h.1)
  | both ts, h => ok_gath (ok_tickL ts h)
  | first ts, h => ok_race (ok_tickL ts h)
  | within k t, h => by
    simp only [okT, Bool.and_eq_true, decide_eq_true_eq] at h
    simp only [tick]
    split
    · exact ok_timed (by omega) (ok_tick t h.2)
    · exact ok_off _ (ok_tick t h.2)
  | last t p, h => by simp only [okT, Bool.and_eq_true] at h; exact ok_lastd (ok_tick t h.1) h.2
  | shield _, h => by simp [okT] at h
  | keep t, h => ok_kept (ok_tick t h)
theorem ok_tickL : ∀ ts : List Tm, okTs ts = true → okTs (tickL ts) = true
  | [], _ => rfl
  | t :: ts, h => by
    simp only [okTs, Bool.and_eq_true] at h
    simp only [tickL, okTs]
    rw [ok_tick t h.1, ok_tickL ts h.2]
    rfl
end
end Tm
structure SpL (n : Nat) (c : Fns) : Prop where
  Lall : ∀ ts, 1 ≤ n → szs ts ≤ 1000 → c .fLall [.list (encs ts)] = some (enc (gath ts))
  Lkeep : ∀ t, 1 ≤ n → c .fLkeep [enc t] = some (enc (Tm.kept t))
  Ljoin : ∀ t ps, okPs ps = true → 4 * szs ps + 2 ≤ n → sz t + szs ps ≤ 1000 → c .fLjoin [enc t, .tuple (encs ps)] = some (enc (joinB ps t))
  Lrace : ∀ ts, okTs ts = true → 4 * szs ts + 2 ≤ n → szs ts ≤ 1000 → c .fLrace [.list (encs ts)] = some (enc (race ts))
  LholdW : ∀ (k : Nat) t, 1 ≤ n → c .fLhold [.tuple [.str (kS .within), .int k], enc t] = some (enc (Tm.timed k t))
  LholdL : ∀ p t, okP p = true → 4 * sz p + 2 ≤ n → sz p ≤ 1000 → c .fLhold [.tuple [.str (kS .last), enc p], enc t] = some (enc (lastd t p))
  LholdS : ∀ t, 2 ≤ n → c .fLhold [.tuple [.str (kS .shield)], enc t] = some (enc (Tm.kept t))
  Lbegin : ∀ p, okP p = true → 4 * sz p + 1 ≤ n → sz p ≤ 1000 → c .fLbegin [enc p] = some (enc (Tm.begun p))
  Loff : ∀ t, okT t = true → 4 * sz t + 1 ≤ n → sz t ≤ 1000 → c .fLoff [enc t] = some (enc (Tm.off t))
section
variable {n : Nat} {c : Fns}
theorem ev_Lkeep (t : Tm) : bodyF 1 (g_fLkeep c) [enc t] = some (enc (Tm.kept t)) := by
  cases t <;> simp [g_fLkeep, bodyF, Tm.kept, enc, chk_ok]
theorem ev_Lall (ts : List Tm) (hz : szs ts ≤ 1000) : bodyF 3 (g_fLall c) [.list (encs ts)] = some (enc (gath ts)) := by
  have hl : (ts.filter fun t => !t.isR).length ≤ 1000 := Nat.le_trans (szs_len _) (Nat.le_trans (szs_filter _ _) hz)
  simp only [g_fLall, bodyF]
  simp
  rw [lc_filter (p := fun t => !t.isR) (fun t _ => ⟨_, rfl, by simp [chk_ok], by simp⟩)]
  simp
  rcases gath_cases ts with ⟨h1, h2⟩ | ⟨t, h0, h1, h2⟩ | ⟨a, b, l, h1, h2⟩
  · rw [h1, h2]
    simp [encs, enc, chk_ok]
  · rw [h1, h2]
    simp [encs, chk_ok]
  · rw [h1, h2]
    rw [h2] at hl
    simp at hl
    have e : decide ((1 : Int) < (l.length : Int) + 1 + 1) = true := decide_eq_true (by omega)
    simp [encs, enc, e, chk_ok]
    rw [chk_ok (by simp; omega)]
    simp
theorem ev_Ljoin (S : SpL n c) (t : Tm) (ps : List Tm) (ok : okPs ps = true) (h : 4 * szs ps + 2 ≤ n + 1) (hz : sz t + szs ps ≤ 1000) : bodyF 2 (g_fLjoin c) [enc t, .tuple (encs ps)] = some (enc (joinB ps t)) := by
  cases ps with
  | nil => simp [g_fLjoin, bodyF, encs, joinB, chk_ok]
  | cons q qs =>
    simp only [szs] at h hz
    have := sz_pos q
    simp only [okPs, Bool.and_eq_true] at ok
    have h1 := S.Lbegin q ok.1 (by omega) (by omega)
    have h2 := S.Ljoin (Tm.begun q) qs ok.2 (by omega) (by have := sz_begun q; omega)
    cases r : t.isR with
    | true => simp [g_fLjoin, bodyF, encs, joinB, chk_ok, r, h1, h2]
    | false =>
      have hl := szs_len qs
      simp [g_fLjoin, bodyF, encs, joinB, chk_ok, r, enc]
      rw [chk_ok (by simp; omega)]
      simp
theorem ev_LholdW (k : Nat) (t : Tm) : bodyF 2 (g_fLhold c) [.tuple [.str (kS .within), .int k], enc t] = some (enc (Tm.timed k t)) := by
  cases h : t.isR with
  | true => have e := isR_iff.mp h; subst e; simp [g_fLhold, bodyF, Tm.timed, enc, chk_ok, isR]
  | false => simp [g_fLhold, bodyF, h, Tm.timed, enc, chk_ok]
theorem ev_LholdL (S : SpL n c) (p t : Tm) (ok : okP p = true) (h : 4 * sz p + 2 ≤ n + 1) (hz : sz p ≤ 1000) : bodyF 2 (g_fLhold c) [.tuple [.str (kS .last), enc p], enc t] = some (enc (lastd t p)) := by
  have h1 := S.Lbegin p ok (by omega) (by omega)
  have h2 := S.Lkeep (Tm.begun p) (by have := sz_pos p; omega)
  cases r : t.isR <;> simp [g_fLhold, bodyF, enc, lastd, chk_ok, h1, h2, r]
theorem ev_LholdS (S : SpL n c) (t : Tm) (h : 1 ≤ n) : bodyF 2 (g_fLhold c) [.tuple [.str (kS .shield)], enc t] = some (enc (Tm.kept t)) := by
  have h2 := S.Lkeep t h
  simp [g_fLhold, bodyF, enc, chk_ok, h2]
theorem ev_Lbegin (S : SpL n c) (p : Tm) (ok : okP p = true) (h : 4 * sz p + 1 ≤ n + 1) (hz : sz p ≤ 1000) : bodyF 3 (g_fLbegin c) [enc p] = some (enc (Tm.begun p)) := by
  cases p with
  | rest => simp [g_fLbegin, bodyF, enc, Tm.begun, chk_ok]
  | say w => simp [g_fLbegin, bodyF, enc, Tm.begun, chk_ok]
  | wait e => simp [g_fLbegin, bodyF, enc, Tm.begun, chk_ok]
  | thn p ps =>
    simp only [sz] at h hz
    simp only [okP, Bool.and_eq_true] at ok
    have h1 := S.Lbegin p ok.1 (by omega) (by omega)
    have h2 := S.Ljoin (Tm.begun p) ps ok.2 (by omega) (by have := sz_begun p; omega)
    simp [g_fLbegin, bodyF, enc, Tm.begun, chk_ok, h1, h2]
  | both ps =>
    simp only [sz] at h hz
    have h2 := S.Lall (ps.map Tm.begun) (by omega) (by have := sz_begunL ps; rw [begunL_map] at this; omega)
    simp [g_fLbegin, bodyF, enc, Tm.begun, chk_ok]
    rw [lc_enc (g := Tm.begun) (fun t ht => ⟨_, rfl, by have := sz_mem ht; simp [S.Lbegin t (okPs_iff.mp ok t ht) (by omega) (by omega)]⟩)]
    simp [h2, begunL_map]
  | first ps =>
    simp only [sz] at h hz
    have h2 := S.Lrace (ps.map Tm.begun) (by rw [← begunL_map]; exact ok_begunL ps ok) (by have := sz_begunL ps; rw [begunL_map] at this; omega) (by have := sz_begunL ps; rw [begunL_map] at this; omega)
    rw [begun_first]
    simp [g_fLbegin, bodyF, enc, chk_ok]
    rw [lc_enc (g := Tm.begun) (fun t ht => ⟨_, rfl, by have := sz_mem ht; simp [S.Lbegin t (okPs_iff.mp ok t ht) (by omega) (by omega)]⟩)]
    simp [h2, begunL_map]
  | within k p =>
    simp only [sz] at h hz
    simp only [okP, Bool.and_eq_true] at ok
    have h1 := S.Lbegin p ok.2 (by omega) (by omega)
    have h2 := S.LholdW k (Tm.begun p) (by omega)
    simp [g_fLbegin, bodyF, enc, Tm.begun, chk_ok, h1, h2]
  | last p q =>
    simp only [sz] at h hz
    simp only [okP, Bool.and_eq_true] at ok
    have h1 := S.Lbegin p ok.1 (by omega) (by omega)
    have h2 := S.LholdL q (Tm.begun p) ok.2 (by omega) (by omega)
    rw [begun_last]
    simp [g_fLbegin, bodyF, enc, chk_ok, h1, h2]
  | shield p =>
    simp only [sz] at h hz
    have h1 := S.Lbegin p ok (by omega) (by omega)
    have h2 := S.LholdS (Tm.begun p) (by omega)
    simp [g_fLbegin, bodyF, enc, Tm.begun, chk_ok, h1, h2]
  | keep p =>
    simp only [sz] at h hz
    have h1 := S.Lbegin p ok (by omega) (by omega)
    have h2 := S.LholdS (Tm.begun p) (by omega)
    simp [g_fLbegin, bodyF, enc, Tm.begun, chk_ok, h1, h2]
theorem ev_Loff (S : SpL n c) (t : Tm) (ok : okT t = true) (h : 4 * sz t + 1 ≤ n + 1) (hz : sz t ≤ 1000) : bodyF 2 (g_fLoff c) [enc t] = some (enc (Tm.off t)) := by
  cases t with
  | rest => simp [g_fLoff, bodyF, enc, Tm.off, chk_ok]
  | say w => simp [g_fLoff, bodyF, enc, Tm.off, chk_ok]
  | wait e => simp [g_fLoff, bodyF, enc, Tm.off, chk_ok]
  | thn p ps =>
    simp only [sz] at h hz
    simp only [okT, Bool.and_eq_true] at ok
    have h1 := S.Loff p ok.1 (by omega) (by omega)
    simp [g_fLoff, bodyF, enc, Tm.off, chk_ok, h1]
  | both ps =>
    simp only [sz] at h hz
    have h2 := S.Lall (ps.map Tm.off) (by omega) (by have := sz_offL ps; rw [offL_map] at this; omega)
    simp [g_fLoff, bodyF, enc, Tm.off, chk_ok]
    rw [lc_enc (g := Tm.off) (fun t ht => ⟨_, rfl, by have := sz_mem ht; simp [S.Loff t (okTs_iff.mp ok t ht) (by omega) (by omega)]⟩)]
    simp [h2, offL_map]
  | first ps =>
    simp only [sz] at h hz
    have h2 := S.Lall (ps.map Tm.off) (by omega) (by have := sz_offL ps; rw [offL_map] at this; omega)
    simp [g_fLoff, bodyF, enc, Tm.off, chk_ok]
    rw [lc_enc (g := Tm.off) (fun t ht => ⟨_, rfl, by have := sz_mem ht; simp [S.Loff t (okTs_iff.mp ok t ht) (by omega) (by omega)]⟩)]
    simp [h2, offL_map]
  | within k p =>
    simp only [sz] at h hz
    simp only [okT, Bool.and_eq_true] at ok
    have h1 := S.Loff p ok.2 (by omega) (by omega)
    simp [g_fLoff, bodyF, enc, Tm.off, chk_ok, h1]
  | last p q =>
    simp only [sz] at h hz
    simp only [okT, Bool.and_eq_true] at ok
    have h1 := S.Loff p ok.1 (by omega) (by omega)
    have h2 := S.LholdL q (Tm.off p) ok.2 (by omega) (by omega)
    simp [g_fLoff, bodyF, enc, Tm.off, chk_ok, h1, h2]
  | shield p => simp [okT] at ok
  | keep p => simp [g_fLoff, bodyF, enc, Tm.off, chk_ok]
theorem ev_Lrace (S : SpL n c) (ts : List Tm) (ok : okTs ts = true) (h : 4 * szs ts + 2 ≤ n + 1) (hz : szs ts ≤ 1000) : bodyF 2 (g_fLrace c) [.list (encs ts)] = some (enc (race ts)) := by
  have hl := szs_len ts
  cases r : ts.any isR with
  | true =>
    have hp : 1 ≤ szs ts := by
      cases ts with
      | nil => simp at r
      | cons t ts => simp only [szs]; have := sz_pos t; omega
    have h2 := S.Lall (ts.map Tm.off) (by omega) (by have := sz_offL ts; rw [offL_map] at this; omega)
    simp [g_fLrace, bodyF, enc, race, chk_ok, r]
    rw [lc_enc (g := Tm.off) (fun t ht => ⟨_, rfl, by have := sz_mem ht; simp [S.Loff t (okTs_iff.mp ok t ht) (by omega) (by omega)]⟩)]
    simp [h2, offL_map]
  | false =>
    simp [g_fLrace, bodyF, enc, race, chk_ok, r]
    rw [chk_ok (by simp; omega)]
    simp
end
end LT
/-! # Ev7 -/
namespace LT
open PySem PySem.Spec PyProof.Rows L2 Tm
structure SpM (n : Nat) (c : Fns) : Prop extends SpL n c where
  Laround : ∀ t p, okT t = true → t.isR = false → (∀ w, t ≠ .say w) → (∀ w, t ≠ .wait w) → (∀ ts, t ≠ .both ts) → (∀ ts, t ≠ .first ts) → 4 * sz t + 1 ≤ n → sz t + sz p ≤ 1000 → c .fLaround [enc t, enc p] = some (enc (Tm.rebuilt t p))
  Lsteps : ∀ t came, okT t = true → 4 * sz t + 2 ≤ n → sz t ≤ 400 → c .fLsteps [enc t, encC came] = some (.list ((Tm.steps came t).map encS))
  Ltick : ∀ t, okT t = true → 4 * sz t + 2 ≤ n → sz t ≤ 400 → c .fLtick [enc t] = some (enc (Tm.tick t))
@[simp] theorem ev_R2 (f g : FE) (ρ : Rho) : itR2 f g ρ = (f ρ).bind fun x => (g ρ).bind fun y => match x, y with
  | .int i, .int j => if ((-1000 ≤ i) ∧ i ≤ 1000) ∧ (-1000 ≤ j) ∧ j ≤ 1000 then some (rangeD i (j - i).toNat) else none
  | _, _ => none := rfl
theorem cutA' {x : D} {xs : List D} {i : Nat} (h : i ≤ xs.length) : cutL (x :: xs) (some 1) (some (1 + (i : Int))) = xs.take i := by
  rw [Int.add_comm]; exact cutA h
theorem cutB' {x : D} {xs : List D} {i : Nat} (h : i < xs.length) : cutL (x :: xs) (some (1 + (i : Int) + 1)) none = xs.drop (i + 1) := by
  rw [show (1 : Int) + (i : Int) + 1 = (i : Int) + 2 by omega]; exact cutB h
section
variable {n : Nat} {c : Fns}
theorem ev_Laround (S : SpL n c) (t p : Tm) (ok : okT t = true) (hr : t.isR = false) (h1 : ∀ w, t ≠ .say w) (h2 : ∀ w, t ≠ .wait w) (h3 : ∀ ts, t ≠ .both ts) (h4 : ∀ ts, t ≠ .first ts) (h : 4 * sz t + 1 ≤ n + 1) (hz : sz t + sz p ≤ 1000) :
    bodyF 2 (g_fLaround c) [enc t, enc p] = some (enc (Tm.rebuilt t p)) := by
  cases t with
  | rest => simp [isR] at hr
  | say w => exact absurd rfl (h1 w)
  | wait w => exact absurd rfl (h2 w)
  | both w => exact absurd rfl (h3 w)
  | first w => exact absurd rfl (h4 w)
  | thn t ps =>
    simp only [sz] at h hz
    simp only [okT, Bool.and_eq_true] at ok
    have e := S.Ljoin p ps ok.2 (by omega) (by omega)
    simp [g_fLaround, bodyF, enc, Tm.rebuilt, e, chk_ok]
  | within k t =>
    simp only [sz] at h hz
    have e := S.LholdW k p (by omega)
    simp [g_fLaround, bodyF, enc, Tm.rebuilt, e, chk_ok]
  | last t q =>
    simp only [sz] at h hz
    simp only [okT, Bool.and_eq_true] at ok
    have e := S.LholdL q p ok.2 (by omega) (by omega)
    simp [g_fLaround, bodyF, enc, Tm.rebuilt, e, chk_ok]
  | shield t =>
    simp only [sz] at h hz
    have := sz_pos t
    have e := S.LholdS p (by omega)
    simp [g_fLaround, bodyF, enc, Tm.rebuilt, e, chk_ok]
  | keep t =>
    simp only [sz] at h hz
    have := sz_pos t
    have e := S.LholdS p (by omega)
    simp [g_fLaround, bodyF, enc, Tm.rebuilt, e, chk_ok]
theorem ev_Ltick (S : SpM n c) (t : Tm) (ok : okT t = true) (h : 4 * sz t + 2 ≤ n + 1) (hz : sz t ≤ 400) : bodyF 4 (g_fLtick c) [enc t] = some (enc (Tm.tick t)) := by
  cases t with
  | rest => simp [g_fLtick, bodyF, enc, Tm.tick, chk_ok]
  | say w => simp [g_fLtick, bodyF, enc, Tm.tick, chk_ok]
  | wait w => simp [g_fLtick, bodyF, enc, Tm.tick, chk_ok]
  | both ts =>
    simp only [sz] at h hz
    have h2 := S.Lall (ts.map Tm.tick) (by omega) (by have := sz_tickL ts; rw [tickL_map] at this; omega)
    simp [g_fLtick, bodyF, enc, Tm.tick, chk_ok]
    rw [lc_enc (g := Tm.tick) (fun t ht => ⟨_, rfl, by have := sz_mem ht; simp [S.Ltick t (okTs_iff.mp ok t ht) (by omega) (by omega)]⟩)]
    simp [h2, tickL_map]
  | first ts =>
    simp only [sz] at h hz
    have h2 := S.Lrace (ts.map Tm.tick) (by rw [← tickL_map]; exact ok_tickL ts ok) (by have := sz_tickL ts; rw [tickL_map] at this; omega) (by have := sz_tickL ts; rw [tickL_map] at this; omega)
    simp [g_fLtick, bodyF, enc, Tm.tick, chk_ok]
    rw [lc_enc (g := Tm.tick) (fun t ht => ⟨_, rfl, by have := sz_mem ht; simp [S.Ltick t (okTs_iff.mp ok t ht) (by omega) (by omega)]⟩)]
    simp [h2, tickL_map]
  | within k t =>
    simp only [sz] at h hz
    simp only [okT, Bool.and_eq_true, decide_eq_true_eq] at ok
    have h1 := S.Ltick t ok.2 (by omega) (by omega)
    have hs := sz_tick t
    have h2 := S.Loff (Tm.tick t) (ok_tick t ok.2) (by omega) (by omega)
    by_cases hk : 1 < k
    · have h3 := S.LholdW (k - 1) (Tm.tick t) (by omega)
      have e : ((k - 1 : Nat) : Int) = (k : Int) - 1 := by omega
      rw [e] at h3
      have d : ((k : Int) == 1) = false := beq_eq_false_iff_ne.mpr (by omega)
      have d2 : ¬ k = 1 := by omega
      simp [g_fLtick, bodyF, enc, Tm.tick, chk_ok, h1, h3, hk, d, d2]
    · by_cases hk1 : k = 1
      · subst hk1
        simp [g_fLtick, bodyF, enc, Tm.tick, chk_ok, h1, h2]
      · omega
  | thn t ps =>
    have h' := h
    simp only [sz] at h hz
    have ok' := ok
    simp only [okT, Bool.and_eq_true] at ok
    have h1 := S.Ltick t ok.1 (by omega) (by omega)
    have hs := sz_tick t
    have h2 := S.Laround (.thn t ps) (Tm.tick t) ok' rfl (by simp) (by simp) (by simp) (by simp) (by omega) (by simp only [sz]; omega)
    simp only [enc, Tm.rebuilt] at h2
    simp [g_fLtick, bodyF, enc, Tm.tick, chk_ok, h1, h2]
  | last t p =>
    have h' := h
    simp only [sz] at h hz
    have ok' := ok
    simp only [okT, Bool.and_eq_true] at ok
    have h1 := S.Ltick t ok.1 (by omega) (by omega)
    have hs := sz_tick t
    have h2 := S.Laround (.last t p) (Tm.tick t) ok' rfl (by simp) (by simp) (by simp) (by simp) (by omega) (by simp only [sz]; omega)
    simp only [enc, Tm.rebuilt] at h2
    simp [g_fLtick, bodyF, enc, Tm.tick, chk_ok, h1, h2]
  | shield t => simp [okT] at ok
  | keep t =>
    have h' := h
    simp only [sz] at h hz
    have h1 := S.Ltick t ok (by omega) (by omega)
    have hs := sz_tick t
    have h2 := S.Laround (.keep t) (Tm.tick t) ok rfl (by simp) (by simp) (by simp) (by simp) (by omega) (by simp only [sz]; omega)
    simp only [enc, Tm.rebuilt] at h2
    simp [g_fLtick, bodyF, enc, Tm.tick, chk_ok, h1, h2]
/-! ### _law_steps' loops -/
def sLBody (c : Fns) : FS := (sSeq (sSet 6 (bin2 addH (bin2 addH (cB listH (cSl (cV 0) (cPt (cK (.int 1))) (cPt (cV 3)))) (cLst (cCons (cV 5) cNil))) (cB listH (cSl (cV 0) (cPt (bin2 addH (cV 3) (cK (.int 1)))) cNo))))
    (sApp 2 (cTup (cCons (cV 4) (cCons (cIf (cmpB eqH (bin2 atH (cV 0) (cK (.int 0))) (cK (.str (kS .both)))) (cCall 1 (c .fLall) (cCons (cV 6) cNil)) (cCall 1 (c .fLrace) (cCons (cV 6) cNil))) cNil)))))
def sLLoop (c : Fns) : FS := (sFor (itL (cCall 2 (c .fLsteps) (cCons (bin2 atH (cV 0) (cV 3)) (cCons (cV 1) cNil)))) (bdT [4, 5]) (sLBody c))
theorem sL_body (S : SpM n c) (b : Bool) (pre post : List Tm) (t : Tm) (C x6 : Sl) (acc : List D) (l : D) (u : Tm) (ok : okTs (pre ++ u :: post) = true) (hz : szs (pre ++ u :: post) ≤ 400) (hn : 4 * szs (pre ++ u :: post) + 2 ≤ n) (ha : acc.length ≤ 10000) :
    ∃ y6, sLBody c [.im (.tuple (.str (kS (kdB b)) :: encs (pre ++ t :: post))), C, .ow acc, .im (.int (1 + (pre.length : Int))), .im l, .im (enc u), x6] =
      some (.nx [.im (.tuple (.str (kS (kdB b)) :: encs (pre ++ t :: post))), C, .ow (acc ++ [.tuple [l, enc (gB b (pre ++ u :: post))]]), .im (.int (1 + (pre.length : Int))), .im l, .im (enc u), y6]) := by
  have hA : cutL (.str (kS (kdB b)) :: encs (pre ++ t :: post)) (some 1) (some (1 + (pre.length : Int))) = encs pre := by
    rw [cutA' (by simp), encs_app, List.take_left' (by simp)]
  have hB : cutL (.str (kS (kdB b)) :: encs (pre ++ t :: post)) (some (1 + (pre.length : Int) + 1)) none = encs post := by
    rw [cutB' (by simp), encs_app]
    rw [show pre.length + 1 = (encs pre ++ [enc t]).length by simp, show encs pre ++ encs (t :: post) = (encs pre ++ [enc t]) ++ encs post by simp [encs]]
    exact List.drop_left
  have hl := szs_len (pre ++ u :: post)
  have hc1 : chkLen (encs pre ++ [enc u]) = some (encs pre ++ [enc u]) := chk_ok (by simp at hl ⊢; omega)
  have hc : chkLen (encs pre ++ [enc u] ++ encs post) = some (encs (pre ++ u :: post)) := by
    rw [show encs pre ++ [enc u] ++ encs post = encs (pre ++ u :: post) by rw [encs_app]; simp [encs]]
    exact chk_ok (by simp at hl ⊢; omega)
  have hc2 : chkLen (encs pre ++ (enc u :: encs post)) = some (encs (pre ++ u :: post)) := by
    rw [show encs pre ++ (enc u :: encs post) = encs (pre ++ u :: post) by rw [encs_app]; rfl]
    exact chk_ok (by simp at hl ⊢; omega)
  have hs : acc.length < sizeLine := by rw [sizeLine_eq]; omega
  refine ⟨.im (.list (encs (pre ++ u :: post))), ?_⟩
  have hp : 1 ≤ n := by omega
  have e1 := S.Lall (pre ++ u :: post) hp (by omega)
  have e2 := S.Lrace (pre ++ u :: post) ok hn (by omega)
  cases b <;> simp [sLBody, kdB, gB, hA, hB, hc, chk_ok, hs, e1, e2, hA, hB] <;> simp [kdB] at hA hB <;> simp [hA, hB, hc, hc1, hc2, e1, e2, hs, chk_ok]
theorem sL_inner (S : SpM n c) (b : Bool) (pre post : List Tm) (t : Tm) (C : Sl) : ∀ (ss : List (Lb × Tm)) (acc : List D) (x4 x5 x6 : Sl), (∀ s ∈ ss, okTs (pre ++ s.2 :: post) = true ∧ szs (pre ++ s.2 :: post) ≤ 400 ∧ 4 * szs (pre ++ s.2 :: post) + 2 ≤ n) → acc.length + ss.length ≤ 10000 →
    ∃ y4 y5 y6, forGo (bdT [4, 5]) (sLBody c) (ss.map encS) [.im (.tuple (.str (kS (kdB b)) :: encs (pre ++ t :: post))), C, .ow acc, .im (.int (1 + (pre.length : Int))), x4, x5, x6] =
      some (.nx [.im (.tuple (.str (kS (kdB b)) :: encs (pre ++ t :: post))), C, .ow (acc ++ ss.map fun s => encS (s.1, gB b (pre ++ s.2 :: post))), .im (.int (1 + (pre.length : Int))), y4, y5, y6])
  | [], acc, x4, x5, x6, _, _ => ⟨x4, x5, x6, by simp [forGo]⟩
  | s :: ss, acc, x4, x5, x6, hz, ha => by
    have h := hz s List.mem_cons_self
    simp only [List.length_cons] at ha
    obtain ⟨y6, e⟩ := sL_body S b pre post t C x6 acc (encL s.1) s.2 h.1 h.2.1 h.2.2 (by omega)
    obtain ⟨z4, z5, z6, e2⟩ := sL_inner S b pre post t C ss (acc ++ [.tuple [encL s.1, enc (gB b (pre ++ s.2 :: post))]]) (.im (encL s.1)) (.im (enc s.2)) y6 (fun u hu => hz u (List.mem_cons_of_mem _ hu)) (by simp; omega)
    refine ⟨z4, z5, z6, ?_⟩
    rw [List.map_cons, forGo_cons (ρ1 := [.im (.tuple (.str (kS (kdB b)) :: encs (pre ++ t :: post))), C, .ow acc, .im (.int (1 + (pre.length : Int))), .im (encL s.1), .im (enc s.2), x6]) (by simp [encS]) e, e2]
    simp [encS]
theorem sL_outer (S : SpM n c) (b : Bool) (came : List Nat) : ∀ (post pre : List Tm) (acc : List D) (x3 x4 x5 x6 : Sl), okTs (pre ++ post) = true → szs (pre ++ post) ≤ 400 → 4 * szs (pre ++ post) + 2 ≤ n → acc.length + szs post ≤ 10000 →
    ∃ y3 y4 y5 y6, forGo (bdN 3) (sLLoop c) ((List.range' pre.length post.length).map fun (i : Nat) => PyData.int (1 + (i : Int))) [.im (.tuple (.str (kS (kdB b)) :: encs (pre ++ post))), .im (encC came), .ow acc, x3, x4, x5, x6] =
      some (.nx [.im (.tuple (.str (kS (kdB b)) :: encs (pre ++ post))), .im (encC came), .ow (acc ++ (stepsL came post).map fun s => encS (s.1, gB b (pre ++ s.2))), y3, y4, y5, y6])
  | [], pre, acc, x3, x4, x5, x6, _, _, _, _ => ⟨x3, x4, x5, x6, by simp [forGo, stepsL]⟩
  | t :: post, pre, acc, x3, x4, x5, x6, ok, hz, hn, ha => by
    have hz' := hz
    have hn' := hn
    have okt : okT t = true := okTs_iff.mp ok t (by simp)
    rw [szs_app] at hz hn
    simp only [szs] at hz hn ha
    have hs := S.Lsteps t came okt (by omega) (by omega)
    have hle := (steps_len came).1 t
    obtain ⟨z4, z5, z6, e⟩ := sL_inner S b pre post t (.im (encC came)) (steps came t) acc x4 x5 x6 (fun s hs => by
      have := sz_steps came t s hs
      rw [szs_app]
      simp only [szs]
      refine ⟨okTs_iff.mpr fun u hu => ?_, by omega, by omega⟩
      rcases List.mem_append.mp hu with hu | hu
      · exact okTs_iff.mp ok u (List.mem_append_left _ hu)
      · rcases List.mem_cons.mp hu with e | hu
        · rw [e]; exact ok_steps came t okt s hs
        · exact okTs_iff.mp ok u (List.mem_append_right _ (List.mem_cons_of_mem _ hu))) (by omega)
    have hat : atH (.tuple (.str (kS (kdB b)) :: encs (pre ++ t :: post))) (.int (1 + (pre.length : Int))) = some (enc t) := by
      have q := atH_nat (xs := .str (kS (kdB b)) :: encs (pre ++ t :: post)) (i := 1 + pre.length) (x := enc t) (by
        rw [Nat.add_comm, List.getElem?_cons_succ, encs_app]
        rw [List.getElem?_append_right (by simp)]
        simp [encs])
      rw [show ((1 + pre.length : Nat) : Int) = 1 + (pre.length : Int) by omega] at q
      exact q
    have e0 : sLLoop c [.im (.tuple (.str (kS (kdB b)) :: encs (pre ++ t :: post))), .im (encC came), .ow acc, .im (.int (1 + (pre.length : Int))), x4, x5, x6] = some (.nx [.im (.tuple (.str (kS (kdB b)) :: encs (pre ++ t :: post))), .im (encC came), .ow (acc ++ (steps came t).map fun s => encS (s.1, gB b (pre ++ s.2 :: post))), .im (.int (1 + (pre.length : Int))), z4, z5, z6]) := by
      rw [← e]
      simp [sLLoop, hs, hat]
    have hr : pre ++ t :: post = (pre ++ [t]) ++ post := by simp
    obtain ⟨w3, w4, w5, w6, e2⟩ := sL_outer S b came post (pre ++ [t]) (acc ++ (steps came t).map fun s => encS (s.1, gB b (pre ++ s.2 :: post))) (.im (.int (1 + (pre.length : Int)))) z4 z5 z6 (by rw [← hr]; exact ok) (by rw [← hr]; exact hz') (by rw [← hr]; exact hn') (by simp; omega)
    refine ⟨w3, w4, w5, w6, ?_⟩
    rw [← hr] at e2
    simp only [List.length_cons, List.range'_succ, List.map_cons]
    rw [forGo_cons (ρ1 := [.im (.tuple (.str (kS (kdB b)) :: encs (pre ++ t :: post))), .im (encC came), .ow acc, .im (.int (1 + (pre.length : Int))), x4, x5, x6]) (by simp) e0]
    rw [show pre.length + 1 = (pre ++ [t]).length by simp, e2]
    simp [stepsL, Function.comp_def]
/-- for label, later in steps: found.append((label, around(term, later))) -/
theorem sL_one (F : Tm → Tm) (T : D) (C x3 : Sl) : ∀ (ss : List (Lb × Tm)) (acc : List D) (x4 x5 x6 : Sl), (∀ s ∈ ss, c .fLaround [T, enc s.2] = some (enc (F s.2))) → acc.length + ss.length ≤ 10000 →
    ∃ y4 y5, forGo (bdT [4, 5]) (sApp 2 (cTup (cCons (cV 4) (cCons (cCall 2 (c .fLaround) (cCons (cV 0) (cCons (cV 5) cNil))) cNil)))) (ss.map encS) [.im T, C, .ow acc, x3, x4, x5, x6] =
      some (.nx [.im T, C, .ow (acc ++ ss.map fun s => encS (s.1, F s.2)), x3, y4, y5, x6])
  | [], acc, x4, x5, x6, _, _ => ⟨x4, x5, by simp [forGo]⟩
  | s :: ss, acc, x4, x5, x6, hz, ha => by
    have h := hz s List.mem_cons_self
    simp only [List.length_cons] at ha
    have hs : acc.length < sizeLine := by rw [sizeLine_eq]; omega
    obtain ⟨z4, z5, e2⟩ := sL_one F T C x3 ss (acc ++ [encS (s.1, F s.2)]) (.im (encL s.1)) (.im (enc s.2)) x6 (fun u hu => hz u (List.mem_cons_of_mem _ hu)) (by simp; omega)
    refine ⟨z4, z5, ?_⟩
    rw [List.map_cons, forGo_cons (ρ1 := [.im T, C, .ow acc, x3, .im (encL s.1), .im (enc s.2), x6]) (ρ2 := [.im T, C, .ow (acc ++ [encS (s.1, F s.2)]), x3, .im (encL s.1), .im (enc s.2), x6]) (by simp [encS]) (by simp [h, chk_ok, hs, encS]), e2]
    simp
theorem ev_Lsteps (S : SpM n c) (t : Tm) (came : List Nat) (ok : okT t = true) (h : 4 * sz t + 2 ≤ n + 1) (hz : sz t ≤ 400) : bodyF 7 (g_fLsteps c) [enc t, encC came] = some (.list ((Tm.steps came t).map encS)) := by
  cases t with
  | rest => simp [g_fLsteps, bodyF, enc, Tm.steps, chk_ok]
  | say w => simp [g_fLsteps, bodyF, enc, Tm.steps, chk_ok, encS, encL]
  | wait e =>
    have h1 := came_mem' came e
    by_cases hm : e ∈ came <;> simp [g_fLsteps, bodyF, enc, Tm.steps, chk_ok, encS, encL, h1, hm]
  | both ts =>
    simp only [sz] at h hz
    have hl := szs_len ts
    obtain ⟨y3, y4, y5, y6, e⟩ := sL_outer S true came ts [] [] .no .no .no .no ok (by simpa using (show szs ts ≤ 400 by omega)) (by simpa using (show 4 * szs ts + 2 ≤ n by omega)) (by simpa using (show szs ts ≤ 10000 by omega))
    have e' : forGo (bdN 3) (sLLoop c) ((List.range' 0 ts.length).map fun (i : Nat) => PyData.int (1 + (i : Int))) [.im (.tuple (.str (kS .both) :: encs ts)), .im (encC came), .ow [], .no, .no, .no, .no] = some (.nx [.im (.tuple (.str (kS .both) :: encs ts)), .im (encC came), .ow ((stepsL came ts).map fun s => encS (s.1, gath s.2)), y3, y4, y5, y6]) := e
    simp only [sLLoop, sLBody] at e'
    have hb : (-1000 : Int) ≤ (ts.length : Int) + 1 ∧ (ts.length : Int) + 1 ≤ 1000 := by omega
    have hr : rangeD 1 ts.length = (List.range' 0 ts.length).map fun (i : Nat) => PyData.int (1 + (i : Int)) := by unfold rangeD; rw [List.range_eq_range']
    simp [g_fLsteps, bodyF, enc, Tm.steps, chk_ok, hb, hr, e', Function.comp_def]
  | first ts =>
    simp only [sz] at h hz
    have hl := szs_len ts
    obtain ⟨y3, y4, y5, y6, e⟩ := sL_outer S false came ts [] [] .no .no .no .no ok (by simpa using (show szs ts ≤ 400 by omega)) (by simpa using (show 4 * szs ts + 2 ≤ n by omega)) (by simpa using (show szs ts ≤ 10000 by omega))
    have e' : forGo (bdN 3) (sLLoop c) ((List.range' 0 ts.length).map fun (i : Nat) => PyData.int (1 + (i : Int))) [.im (.tuple (.str (kS .first) :: encs ts)), .im (encC came), .ow [], .no, .no, .no, .no] = some (.nx [.im (.tuple (.str (kS .first) :: encs ts)), .im (encC came), .ow ((stepsL came ts).map fun s => encS (s.1, race s.2)), y3, y4, y5, y6]) := e
    simp only [sLLoop, sLBody] at e'
    have hb : (-1000 : Int) ≤ (ts.length : Int) + 1 ∧ (ts.length : Int) + 1 ≤ 1000 := by omega
    have hr : rangeD 1 ts.length = (List.range' 0 ts.length).map fun (i : Nat) => PyData.int (1 + (i : Int)) := by unfold rangeD; rw [List.range_eq_range']
    simp [g_fLsteps, bodyF, enc, Tm.steps, chk_ok, hb, hr, e', Function.comp_def]
  | thn t ps =>
    simp only [sz] at h hz
    have hle := (steps_len came).1 t
    have ok' := ok
    simp only [okT, Bool.and_eq_true] at ok
    have h1 := S.Lsteps t came ok.1 (by omega) (by omega)
    obtain ⟨y4, y5, e⟩ := sL_one (c := c) (fun u => joinB ps u) (enc (.thn t ps)) (.im (encC came)) .no (Tm.steps came t) [] .no .no .no (fun s hs => by
      have := sz_steps came t s hs
      exact S.Laround (.thn t ps) s.2 ok' rfl (by simp) (by simp) (by simp) (by simp) (by simp only [sz]; omega) (by simp only [sz]; omega)) (by simp; omega)
    simp only [enc] at e
    simp [g_fLsteps, bodyF, enc, Tm.steps, chk_ok, h1, e, Function.comp_def]
  | within k t =>
    simp only [sz] at h hz
    have hle := (steps_len came).1 t
    have ok' := ok
    simp only [okT, Bool.and_eq_true] at ok
    have h1 := S.Lsteps t came ok.2 (by omega) (by omega)
    obtain ⟨y4, y5, e⟩ := sL_one (c := c) (fun u => Tm.timed k u) (enc (.within k t)) (.im (encC came)) .no (Tm.steps came t) [] .no .no .no (fun s hs => by
      have := sz_steps came t s hs
      exact S.Laround (.within k t) s.2 ok' rfl (by simp) (by simp) (by simp) (by simp) (by simp only [sz]; omega) (by simp only [sz]; omega)) (by simp; omega)
    simp only [enc] at e
    simp [g_fLsteps, bodyF, enc, Tm.steps, chk_ok, h1, e, Function.comp_def]
  | last t p =>
    simp only [sz] at h hz
    have hle := (steps_len came).1 t
    have ok' := ok
    simp only [okT, Bool.and_eq_true] at ok
    have h1 := S.Lsteps t came ok.1 (by omega) (by omega)
    obtain ⟨y4, y5, e⟩ := sL_one (c := c) (fun u => Tm.lastd u p) (enc (.last t p)) (.im (encC came)) .no (Tm.steps came t) [] .no .no .no (fun s hs => by
      have := sz_steps came t s hs
      exact S.Laround (.last t p) s.2 ok' rfl (by simp) (by simp) (by simp) (by simp) (by simp only [sz]; omega) (by simp only [sz]; omega)) (by simp; omega)
    simp only [enc] at e
    simp [g_fLsteps, bodyF, enc, Tm.steps, chk_ok, h1, e, Function.comp_def]
  | shield t => simp [okT] at ok
  | keep t =>
    simp only [sz] at h hz
    have hle := (steps_len came).1 t
    have h1 := S.Lsteps t came ok (by omega) (by omega)
    obtain ⟨y4, y5, e⟩ := sL_one (c := c) (fun u => Tm.kept u) (enc (.keep t)) (.im (encC came)) .no (Tm.steps came t) [] .no .no .no (fun s hs => by
      have := sz_steps came t s hs
      exact S.Laround (.keep t) s.2 ok rfl (by simp) (by simp) (by simp) (by simp) (by simp only [sz]; omega) (by simp only [sz]; omega)) (by simp; omega)
    simp only [enc] at e
    simp [g_fLsteps, bodyF, enc, Tm.steps, chk_ok, h1, e, Function.comp_def]
end
end LT
/-! # Ev8 -/
namespace LT
open PySem PySem.Spec PyProof.Rows L2 Tm
/-! ## the keys of terms, labels, standings -/
mutual
def keyT : Tm → NestedKey
  | .rest => .tup [.text (kS .rest)]
  | .say w => .tup [.text (kS .say), .num w]
  | .wait e => .tup [.text (kS .wait), .num e]
  | .thn t ps => .tup (.text (kS .thn) :: keyT t :: keyTs ps)
  | .both ts => .tup (.text (kS .both) :: keyTs ts)
  | .first ts => .tup (.text (kS .first) :: keyTs ts)
  | .within n t => .tup [.text (kS .within), .num n, keyT t]
  | .last t p => .tup [.text (kS .last), keyT t, keyT p]
  | .shield t => .tup [.text (kS .shield), keyT t]
  | .keep t => .tup [.text (kS .keep), keyT t]
def keyTs : List Tm → List NestedKey
  | [] => []
  | t :: ts => keyT t :: keyTs ts
end
mutual
theorem kD_enc : ∀ t : Tm, kD (enc t) = some (keyT t)
  | .rest => rfl
  | .say _ => rfl
  | .wait _ => rfl
  | .thn t ps => by simp [enc, keyT, kD, kDs, kD_enc t, kDs_encs ps]
  | .both ts => by simp [enc, keyT, kD, kDs, kDs_encs ts]
  | .first ts => by simp [enc, keyT, kD, kDs, kDs_encs ts]
  | .within n t => by simp [enc, keyT, kD, kDs, kD_enc t]
  | .last t p => by simp [enc, keyT, kD, kDs, kD_enc t, kD_enc p]
  | .shield t => by simp [enc, keyT, kD, kDs, kD_enc t]
  | .keep t => by simp [enc, keyT, kD, kDs, kD_enc t]
theorem kDs_encs : ∀ ts : List Tm, kDs (encs ts) = some (keyTs ts)
  | [] => rfl
  | t :: ts => by simp [encs, keyTs, kDs, kD_enc t, kDs_encs ts]
end
mutual
theorem keyT_inj : ∀ t u : Tm, keyT t = keyT u → t = u
  | .rest, u, h => by cases u <;> simp [keyT] at h ⊢
  | .say _, u, h => by cases u <;> simp [keyT] at h ⊢; omega
  | .wait _, u, h => by cases u <;> simp [keyT] at h ⊢; omega
  | .thn t ps, u, h => by
    cases u with
    | thn t' ps' =>
      simp [keyT] at h
      rw [keyT_inj t t' h.1, keyTs_inj ps ps' h.2]
    | _ => simp [keyT] at h
  | .both ps, u, h => by
    cases u with
    | both ps' =>
      simp [keyT] at h
      rw [keyTs_inj ps ps' h]
    | _ => simp [keyT] at h
  | .first ps, u, h => by
    cases u with
    | first ps' =>
      simp [keyT] at h
      rw [keyTs_inj ps ps' h]
    | _ => simp [keyT] at h
  | .within n t, u, h => by
    cases u with
    | within n' t' =>
      simp [keyT] at h
      rw [keyT_inj t t' h.2, show n = n' by omega]
    | _ => simp [keyT] at h
  | .last t p, u, h => by
    cases u with
    | last t' p' =>
      simp [keyT] at h
      rw [keyT_inj t t' h.1, keyT_inj p p' h.2]
    | _ => simp [keyT] at h
  | .shield t, u, h => by
    cases u with
    | shield t' =>
      simp [keyT] at h
      rw [keyT_inj t t' h]
    | _ => simp [keyT] at h
  | .keep t, u, h => by
    cases u with
    | keep t' =>
      simp [keyT] at h
      rw [keyT_inj t t' h]
    | _ => simp [keyT] at h
theorem keyTs_inj : ∀ ts us : List Tm, keyTs ts = keyTs us → ts = us
  | [], us, h => by cases us <;> simp [keyTs] at h ⊢
  | t :: ts, us, h => by
    cases us with
    | nil => simp [keyTs] at h
    | cons u us =>
      simp [keyTs] at h
      rw [keyT_inj t u h.1, keyTs_inj ts us h.2]
end
theorem cmp_heads {a b : Kd} (h : a ≠ b) (xs ys : List NestedKey) : cmpK (.tup (.text (kS a) :: xs)) (.tup (.text (kS b) :: ys)) = true := by
  simp only [cmpK, cmpKs]
  rw [if_neg (by simpa using h)]
theorem cmp_same (a : Kd) (xs ys : List NestedKey) : cmpK (.tup (.text (kS a) :: xs)) (.tup (.text (kS a) :: ys)) = cmpKs xs ys := by
  simp [cmpK, cmpKs]
theorem cmpKs_c {x y : NestedKey} {xs ys : List NestedKey} (h1 : cmpK x y = true) (h2 : cmpKs xs ys = true) : cmpKs (x :: xs) (y :: ys) = true := by
  simp only [cmpKs]
  split
  · exact h2
  · exact h1
theorem cmp_num (i j : Int) : cmpK (.num i) (.num j) = true := by simp [cmpK]
theorem cmpKs_n (xs : List NestedKey) : cmpKs xs [] = true := by cases xs <;> simp [cmpKs]
theorem cmpKs_n' (xs : List NestedKey) : cmpKs [] xs = true := by simp [cmpKs]
mutual
theorem cmp_tm : ∀ t u : Tm, cmpK (keyT t) (keyT u) = true
  | .rest, u => by cases u <;> simp only [keyT] <;> first | exact cmp_heads (by decide) _ _ | (rw [cmp_same]; exact cmpKs_n _)
  | .say w, u => by cases u <;> simp only [keyT] <;> first | exact cmp_heads (by decide) _ _ | (rw [cmp_same]; exact cmpKs_c (cmp_num _ _) (cmpKs_n _))
  | .wait w, u => by cases u <;> simp only [keyT] <;> first | exact cmp_heads (by decide) _ _ | (rw [cmp_same]; exact cmpKs_c (cmp_num _ _) (cmpKs_n _))
  | .thn t ps, u => by
    cases u with
    | thn t' ps' => simp only [keyT]; rw [cmp_same]; exact cmpKs_c (cmp_tm t t') (cmp_tms ps ps')
    | _ => simp only [keyT]; exact cmp_heads (by decide) _ _
  | .both ps, u => by
    cases u with
    | both ps' => simp only [keyT]; rw [cmp_same]; exact cmp_tms ps ps'
    | _ => simp only [keyT]; exact cmp_heads (by decide) _ _
  | .first ps, u => by
    cases u with
    | first ps' => simp only [keyT]; rw [cmp_same]; exact cmp_tms ps ps'
    | _ => simp only [keyT]; exact cmp_heads (by decide) _ _
  | .within n t, u => by
    cases u with
    | within n' t' => simp only [keyT]; rw [cmp_same]; exact cmpKs_c (cmp_num _ _) (cmpKs_c (cmp_tm t t') (cmpKs_n _))
    | _ => simp only [keyT]; exact cmp_heads (by decide) _ _
  | .last t p, u => by
    cases u with
    | last t' p' => simp only [keyT]; rw [cmp_same]; exact cmpKs_c (cmp_tm t t') (cmpKs_c (cmp_tm p p') (cmpKs_n _))
    | _ => simp only [keyT]; exact cmp_heads (by decide) _ _
  | .shield t, u => by
    cases u with
    | shield t' => simp only [keyT]; rw [cmp_same]; exact cmpKs_c (cmp_tm t t') (cmpKs_n _)
    | _ => simp only [keyT]; exact cmp_heads (by decide) _ _
  | .keep t, u => by
    cases u with
    | keep t' => simp only [keyT]; rw [cmp_same]; exact cmpKs_c (cmp_tm t t') (cmpKs_n _)
    | _ => simp only [keyT]; exact cmp_heads (by decide) _ _
theorem cmp_tms : ∀ ts us : List Tm, cmpKs (keyTs ts) (keyTs us) = true
  | [], us => by simp only [keyTs]; exact cmpKs_n' _
  | t :: ts, us => by
    cases us with
    | nil => simp only [keyTs]; exact cmpKs_n _
    | cons u us => simp only [keyTs]; exact cmpKs_c (cmp_tm t u) (cmp_tms ts us)
end
/-! depth -/
namespace Tm
mutual
def dp : Tm → Nat
  | rest => 1
  | say _ => 1
  | wait _ => 1
  | thn t ps => 1 + max (dp t) (dps ps)
  | both ts => 1 + dps ts
  | first ts => 1 + dps ts
  | within _ t => 1 + dp t
  | last t p => 1 + max (dp t) (dp p)
  | shield t => 1 + dp t
  | keep t => 1 + dp t
def dps : List Tm → Nat
  | [] => 0
  | t :: ts => max (dp t) (dps ts)
end
theorem dp_pos (t : Tm) : 1 ≤ dp t := by cases t <;> simp only [dp] <;> omega
theorem dps_le {k : Nat} : ∀ {ts : List Tm}, dps ts ≤ k ↔ ∀ t ∈ ts, dp t ≤ k
  | [] => by simp [dps]
  | t :: ts => by simp only [dps, List.mem_cons, forall_eq_or_imp]; rw [← dps_le]; omega
theorem dps_filter (f : Tm → Bool) (ts : List Tm) : dps (ts.filter f) ≤ dps ts := dps_le.mpr fun t ht => dps_le.mp (Nat.le_refl _) t (List.mem_filter.mp ht).1
theorem dp_gath (ts : List Tm) : dp (gath ts) ≤ 1 + dps ts := by
  have := dps_filter (fun t => !t.isR) ts
  rcases gath_cases ts with ⟨h1, h2⟩ | ⟨t, h0, h1, h2⟩ | ⟨a, b, l, h1, h2⟩
  · rw [h1]; simp only [dp]; omega
  · rw [h1]; rw [h2] at this; simp only [dps] at this; omega
  · rw [h1]; rw [h2] at this; simp only [dp]; omega
theorem dp_kept (t : Tm) : dp (kept t) ≤ 1 + dp t := by cases t <;> simp only [kept, dp] <;> omega
theorem dp_timed (n : Nat) (t : Tm) : dp (timed n t) ≤ 1 + dp t := by
  unfold timed
  split <;> simp only [dp] <;> omega
mutual
theorem dp_begun : ∀ p : Tm, dp (begun p) ≤ dp p
  | rest => Nat.le_refl _
  | say _ => Nat.le_refl _
  | wait _ => Nat.le_refl _
  | thn p ps => by
    have := dp_begun p
    have := dp_join ps (begun p)
    simp only [begun, dp]
    omega
  | both ps => by
    have := dp_begunL ps
    have := dp_gath (begunL ps)
    simp only [begun, dp]
    omega
  | first ps => by
    have := dp_begunL ps
    have := dp_offBL ps
    have := dp_gath (offBL ps)
    simp only [begun]
    split <;> (try simp only [dp]) <;> omega
  | within n p => by
    have := dp_begun p
    have := dp_timed n (begun p)
    simp only [begun, dp]
    omega
  | last p q => by
    have := dp_begun p
    have := dp_begun q
    have := dp_kept (begun q)
    simp only [begun]
    split <;> (try simp only [dp]) <;> omega
  | shield p => by
    have := dp_begun p
    have := dp_kept (begun p)
    simp only [begun, dp]
    omega
  | keep p => by
    have := dp_begun p
    have := dp_kept (begun p)
    simp only [begun, dp]
    omega
theorem dp_begunL : ∀ ps : List Tm, dps (begunL ps) ≤ dps ps
  | [] => Nat.le_refl _
  | p :: ps => by
    have := dp_begun p
    have := dp_begunL ps
    simp only [begunL, dps]
    omega
theorem dp_join : ∀ (ps : List Tm) (t : Tm), dp (joinB ps t) ≤ 1 + max (dp t) (dps ps)
  | [], t => by simp only [joinB, dps]; omega
  | q :: qs, t => by
    have := dp_begun q
    have := dp_join qs (begun q)
    simp only [joinB]
    split <;> (try simp only [dp, dps]) <;> (try simp only [dps]) <;> omega
theorem dp_offB : ∀ p : Tm, dp (offB p) ≤ dp p
  | rest => Nat.le_refl _
  | say _ => Nat.le_refl _
  | wait _ => Nat.le_refl _
  | thn p ps => by
    have := dp_offB p
    have := dp_offJ ps
    simp only [offB, dp]
    split <;> omega
  | both ps => by
    have := dp_offBL ps
    have := dp_gath (offBL ps)
    simp only [offB, dp]
    omega
  | first ps => by
    have := dp_offBL ps
    have := dp_gath (offBL ps)
    simp only [offB, dp]
    omega
  | within n p => by
    have := dp_offB p
    simp only [offB, dp]
    omega
  | last p q => by
    have := dp_offB p
    have := dp_begun q
    have := dp_kept (begun q)
    simp only [offB]
    split <;> (try simp only [dp]) <;> omega
  | shield p => by
    have := dp_begun p
    have := dp_kept (begun p)
    simp only [offB, dp]
    omega
  | keep p => by
    have := dp_begun p
    have := dp_kept (begun p)
    simp only [offB, dp]
    omega
theorem dp_offBL : ∀ ps : List Tm, dps (offBL ps) ≤ dps ps
  | [] => Nat.le_refl _
  | p :: ps => by
    have := dp_offB p
    have := dp_offBL ps
    simp only [offBL, dps]
    omega
theorem dp_offJ : ∀ ps : List Tm, dp (offJ ps) ≤ 1 + dps ps
  | [] => by simp only [offJ, dp, dps]; omega
  | q :: qs => by
    have := dp_offB q
    have := dp_offJ qs
    simp only [offJ, dps]
    split <;> omega
end
theorem dp_lastd (t p : Tm) : dp (lastd t p) ≤ 1 + max (dp t) (dp p) := by
  have := dp_begun p
  have := dp_kept (begun p)
  unfold lastd
  split <;> (try simp only [dp]) <;> omega
mutual
theorem dp_off : ∀ t : Tm, dp (off t) ≤ dp t
  | rest => Nat.le_refl _
  | say _ => Nat.le_refl _
  | wait _ => Nat.le_refl _
  | thn t ps => by
    have := dp_off t
    simp only [off, dp]
    omega
  | both ts => by
    have := dp_offL ts
    have := dp_gath (offL ts)
    simp only [off, dp]
    omega
  | first ts => by
    have := dp_offL ts
    have := dp_gath (offL ts)
    simp only [off, dp]
    omega
  | within n t => by
    have := dp_off t
    simp only [off, dp]
    omega
  | last t p => by
    have := dp_off t
    have := dp_lastd (off t) p
    simp only [off, dp]
    omega
  | shield _ => Nat.le_refl _
  | keep _ => Nat.le_refl _
theorem dp_offL : ∀ ts : List Tm, dps (offL ts) ≤ dps ts
  | [] => Nat.le_refl _
  | t :: ts => by
    have := dp_off t
    have := dp_offL ts
    simp only [offL, dps]
    omega
end
theorem dp_race (ts : List Tm) : dp (race ts) ≤ 1 + dps ts := by
  have := dp_offL ts
  have := dp_gath (offL ts)
  unfold race
  split <;> (try simp only [dp]) <;> omega
mutual
theorem dp_steps (came : List Nat) : ∀ (t : Tm) (s : Lb × Tm), s ∈ steps came t → dp s.2 ≤ dp t
  | rest, s, h => by simp [steps] at h
  | say w, s, h => by simp [steps] at h; rw [h]; exact Nat.le_refl _
  | wait e, s, h => by
    simp only [steps] at h
    split at h
    · simp at h; rw [h]; exact Nat.le_refl _
    · cases h
  | thn t ps, s, h => by
    obtain ⟨u, hu, rfl⟩ := List.mem_map.mp h
    have := dp_steps came t u hu
    have := dp_join ps u.2
    simp only [dp]
    omega
  | both ts, s, h => by
    obtain ⟨u, hu, rfl⟩ := List.mem_map.mp h
    have := dp_stepsL came ts u hu
    have := dp_gath u.2
    simp only [dp]
    omega
  | first ts, s, h => by
    obtain ⟨u, hu, rfl⟩ := List.mem_map.mp h
    have := dp_stepsL came ts u hu
    have := dp_race u.2
    simp only [dp]
    omega
  | within n t, s, h => by
    obtain ⟨u, hu, rfl⟩ := List.mem_map.mp h
    have := dp_steps came t u hu
    have := dp_timed n u.2
    simp only [dp]
    omega
  | last t p, s, h => by
    obtain ⟨u, hu, rfl⟩ := List.mem_map.mp h
    have := dp_steps came t u hu
    have := dp_lastd u.2 p
    simp only [dp]
    omega
  | shield t, s, h => by
    obtain ⟨u, hu, rfl⟩ := List.mem_map.mp h
    have := dp_steps came t u hu
    have := dp_kept u.2
    simp only [dp]
    omega
  | keep t, s, h => by
    obtain ⟨u, hu, rfl⟩ := List.mem_map.mp h
    have := dp_steps came t u hu
    have := dp_kept u.2
    simp only [dp]
    omega
theorem dp_stepsL (came : List Nat) : ∀ (ts : List Tm) (s : Lb × List Tm), s ∈ stepsL came ts → dps s.2 ≤ dps ts
  | [], s, h => by simp [stepsL] at h
  | t :: ts, s, h => by
    simp only [stepsL] at h
    rcases List.mem_append.mp h with h | h
    · obtain ⟨u, hu, rfl⟩ := List.mem_map.mp h
      have := dp_steps came t u hu
      simp only [dps]
      omega
    · obtain ⟨u, hu, rfl⟩ := List.mem_map.mp h
      have := dp_stepsL came ts u hu
      simp only [dps]
      omega
end
mutual
theorem dp_tick : ∀ t : Tm, dp (tick t) ≤ dp t
  | rest => Nat.le_refl _
  | say _ => Nat.le_refl _
  | wait _ => Nat.le_refl _
  | thn t ps => by
    have := dp_tick t
    have := dp_join ps (tick t)
    simp only [tick, dp]
    omega
  | both ts => by
    have := dp_tickL ts
    have := dp_gath (tickL ts)
    simp only [tick, dp]
    omega
  | first ts => by
    have := dp_tickL ts
    have := dp_race (tickL ts)
    simp only [tick, dp]
    omega
  | within n t => by
    have := dp_tick t
    have := dp_off (tick t)
    have := dp_timed (n - 1) (tick t)
    simp only [tick, dp]
    split <;> omega
  | last t p => by
    have := dp_tick t
    have := dp_lastd (tick t) p
    simp only [tick, dp]
    omega
  | shield t => by
    have := dp_tick t
    have := dp_kept (tick t)
    simp only [tick, dp]
    omega
  | keep t => by
    have := dp_tick t
    have := dp_kept (tick t)
    simp only [tick, dp]
    omega
theorem dp_tickL : ∀ ts : List Tm, dps (tickL ts) ≤ dps ts
  | [] => Nat.le_refl _
  | t :: ts => by
    have := dp_tick t
    have := dp_tickL ts
    simp only [tickL, dps]
    omega
end
end Tm
mutual
theorem key_dp : ∀ t : Tm, (keyT t).depth ≤ t.dp
  | .rest => by simp [keyT, NestedKey.depth, NestedKey.depthAll, Tm.dp]
  | .say _ => by simp [keyT, NestedKey.depth, NestedKey.depthAll, Tm.dp]
  | .wait _ => by simp [keyT, NestedKey.depth, NestedKey.depthAll, Tm.dp]
  | .thn t ps => by have := key_dp t; have := keys_dp ps; simp only [keyT, NestedKey.depth, NestedKey.depthAll, Tm.dp]; omega
  | .both ps => by have := keys_dp ps; simp only [keyT, NestedKey.depth, NestedKey.depthAll, Tm.dp]; omega
  | .first ps => by have := keys_dp ps; simp only [keyT, NestedKey.depth, NestedKey.depthAll, Tm.dp]; omega
  | .within _ t => by have := key_dp t; simp only [keyT, NestedKey.depth, NestedKey.depthAll, Tm.dp]; omega
  | .last t p => by have := key_dp t; have := key_dp p; simp only [keyT, NestedKey.depth, NestedKey.depthAll, Tm.dp]; omega
  | .shield t => by have := key_dp t; simp only [keyT, NestedKey.depth, NestedKey.depthAll, Tm.dp]; omega
  | .keep t => by have := key_dp t; simp only [keyT, NestedKey.depth, NestedKey.depthAll, Tm.dp]; omega
theorem keys_dp : ∀ ts : List Tm, NestedKey.depthAll (keyTs ts) ≤ Tm.dps ts
  | [] => by simp [keyTs, NestedKey.depthAll, Tm.dps]
  | t :: ts => by have := key_dp t; have := keys_dp ts; simp only [keyTs, NestedKey.depthAll, Tm.dps]; omega
end
end LT
/-! # Ev9 -/
namespace LT
open PySem PySem.Spec PyProof.Rows L2 Tm
/-! ## sorted(set(..)) of coded things -/
section
variable {α : Type} {e : α → D} {k : α → NestedKey}
theorem kDs_map (h : ∀ a, kD (e a) = some (k a)) : ∀ xs : List α, kDs (xs.map e) = some (xs.map k)
  | [] => rfl
  | x :: xs => by simp [kDs, h, kDs_map h xs]
theorem datas_map (h : ∀ a, kD (e a) = some (k a)) : ∀ xs : List α, NestedKey.datas (xs.map k) = xs.map e
  | [] => rfl
  | x :: xs => by
    show NestedKey.data (k x) :: NestedKey.datas (xs.map k) = _
    rw [datas_map h xs, kD_data _ _ (h x)]
    rfl
theorem pick_keys : ∀ {ks : List NestedKey} {xs : List α}, (∀ q ∈ ks, q ∈ xs.map k) → ∃ L : List α, L.map k = ks ∧ ∀ a ∈ L, a ∈ xs
  | [], xs, _ => ⟨[], rfl, fun a h => by cases h⟩
  | q :: ks, xs, h => by
    obtain ⟨a, ha, e1⟩ := List.mem_map.mp (h q List.mem_cons_self)
    obtain ⟨L, e2, hL⟩ := pick_keys (ks := ks) (xs := xs) fun r hr => h r (List.mem_cons_of_mem _ hr)
    refine ⟨a :: L, by rw [List.map_cons, e1, e2], fun b hb => ?_⟩
    rcases List.mem_cons.mp hb with z | z
    · rw [z]; exact ha
    · exact hL b z
/-- no more than 4095 different ones -/
def Few (xs : List α) : Prop := ∀ l : List α, l.Nodup → (∀ a ∈ l, a ∈ xs) → l.length < 4096
theorem Few.short {xs : List α} (h : xs.length < 4096) : Few xs := fun l hn hs => by
  classical
  exact Nat.lt_of_le_of_lt (nodup_len hn hs) h
theorem Few.sub {xs ys : List α} (h : Few ys) (hs : ∀ a ∈ xs, a ∈ ys) : Few xs := fun l hn hl => h l hn fun a ha => hs a (hl a ha)
theorem nodup_of_mapk {L : List α} (h : (L.map k).Nodup) : L.Nodup := List.Pairwise.of_map k (fun _ _ hne e => hne (congrArg k e)) h
theorem sortSet_spec (h : ∀ a, kD (e a) = some (k a)) (hi : ∀ a b, k a = k b → a = b) {xs : List α} (hc : ∀ a ∈ xs, ∀ b ∈ xs, cmpK (k a) (k b) = true) (ht : ∀ a ∈ xs, isTupK (k a) = true ∧ (k a).depth ≤ 8) (few : Few xs) :
    ∃ L : List α, sortSetH (.list (xs.map e)) = some (.list (L.map e)) ∧ L.Nodup ∧ ∀ a, a ∈ L ↔ a ∈ xs := by
  have hmem : ∀ q ∈ sortK (dedK (xs.map k)), q ∈ xs.map k := fun q hq => mem_dedK.mp ((sortK_perm _).mem_iff.mp hq)
  obtain ⟨L, e1, hL⟩ := pick_keys hmem
  have nd : (L.map k).Nodup := by rw [e1]; exact (sortK_perm _).nodup_iff.mpr (dedK_nodup _)
  have nL := nodup_of_mapk nd
  have hall : ∀ a, a ∈ L ↔ a ∈ xs := fun a => by
    refine ⟨hL a, fun ha => ?_⟩
    have : k a ∈ L.map k := by
      rw [e1]
      exact (sortK_perm _).mem_iff.mpr (mem_dedK.mpr (List.mem_map.mpr ⟨a, ha, rfl⟩))
    obtain ⟨b, hb, eb⟩ := List.mem_map.mp this
    rw [← hi b a eb]
    exact hb
  have hlen : (dedK (xs.map k)).length < 4096 := by
    have q := few L nL hL
    have : (L.map k).length = (dedK (xs.map k)).length := by rw [e1, (sortK_perm _).length_eq]
    rw [List.length_map] at this
    omega
  have hok : setOk (xs.map k) = true := by
    simp only [setOk, Bool.and_eq_true, List.all_eq_true, decide_eq_true_eq]
    refine ⟨⟨sortOk_iff.mpr ⟨fun x hx => ?_, .inr fun x hx => ?_⟩, fun x hx => ?_⟩, hlen⟩
    · obtain ⟨a, ha, rfl⟩ := List.mem_map.mp hx
      refine ⟨by have := (ht a ha).2; omega, fun y hy => ?_⟩
      obtain ⟨b, hb, rfl⟩ := List.mem_map.mp hy
      exact hc a ha b hb
    · obtain ⟨a, ha, rfl⟩ := List.mem_map.mp hx
      exact (ht a ha).1
    · obtain ⟨a, ha, rfl⟩ := List.mem_map.mp hx
      exact ht a ha
  refine ⟨L, ?_, nL, hall⟩
  simp only [sortSetH, kDs_map h, Option.bind_some]
  rw [if_pos hok, ← e1, datas_map h]
end
/-! ## came: a sorted row of events -/
def addC (came : List Nat) (e : Nat) : List Nat := (came ++ [e]).mergeSort fun a b => decide (a ≤ b)
theorem addC_perm (came : List Nat) (e : Nat) : (addC came e).Perm (came ++ [e]) := List.mergeSort_perm _ _
theorem mem_addC {came : List Nat} {e x : Nat} : x ∈ addC came e ↔ x ∈ came ∨ x = e := by rw [(addC_perm came e).mem_iff]; simp
def numK (e : Nat) : NestedKey := .num (e : Int)
def intD (e : Nat) : D := .int (e : Int)
theorem sort_came (came : List Nat) (e : Nat) : sortK ((came ++ [e]).map numK) = (addC came e).map numK := by
  refine (sortK_eq ?_ ((addC_perm came e).map numK)).symm
  have h := List.pairwise_mergeSort (le := fun a b : Nat => decide (a ≤ b)) (fun a b c h1 h2 => by simp at h1 h2 ⊢; omega) (fun a b => by simp; omega) (came ++ [e])
  refine List.pairwise_map.mpr (h.imp fun {a b} q => ?_)
  rw [numK, numK, ltK_num]
  simp at q ⊢
  omega
theorem came_ok (cs : List Nat) : sortOk (cs.map numK) = true := by
  refine sortOk_iff.mpr ⟨fun x hx => ?_, .inl fun x hx => ?_⟩
  · obtain ⟨a, ha, rfl⟩ := List.mem_map.mp hx
    refine ⟨by simp [numK, NestedKey.depth], fun y hy => ?_⟩
    obtain ⟨b, hb, rfl⟩ := List.mem_map.mp hy
    exact cmp_num _ _
  · obtain ⟨a, ha, rfl⟩ := List.mem_map.mp hx
    rfl
theorem sortH_came (came : List Nat) (e : Nat) : sortH (.list (came.map intD ++ [.int (e : Int)])) = some (.list ((addC came e).map intD)) := by
  have h1 : came.map intD ++ [.int (e : Int)] = (came ++ [e]).map intD := by simp [intD]
  rw [h1]
  have hk : ∀ a, kD (intD a) = some (numK a) := fun a => rfl
  simp only [sortH, kDs_map hk, Option.bind_some]
  rw [if_pos (came_ok _), sort_came, datas_map hk]
theorem sortH_camet (came : List Nat) (e : Nat) : sortH (.tuple (came.map intD ++ [.int (e : Int)])) = some (.list ((addC came e).map intD)) := sortH_came came e
theorem encC_eq (came : List Nat) : encC came = .tuple (came.map intD) := rfl
/-! ## standings -/
structure St where
  t : Tm
  came : List Nat
  gone : Nat
def encSt (s : St) : D := .tuple [enc s.t, encC s.came, .int (s.gone : Int)]
def keySt (s : St) : NestedKey := .tup [keyT s.t, .tup (s.came.map numK), .num (s.gone : Int)]
theorem kD_st (s : St) : kD (encSt s) = some (keySt s) := by
  have hk : ∀ a, kD (intD a) = some (numK a) := fun a => rfl
  simp [encSt, keySt, kD, kDs, kD_enc, encC_eq, kDs_map hk]
theorem numK_inj : ∀ {a b : List Nat}, a.map numK = b.map numK → a = b
  | [], [], _ => rfl
  | [], _ :: _, h => by simp at h
  | _ :: _, [], h => by simp at h
  | x :: a, y :: b, h => by
    simp only [List.map_cons, List.cons.injEq] at h
    have : x = y := by have q := h.1; unfold numK at q; injection q with q; omega
    rw [this, numK_inj h.2]
theorem keySt_inj (s u : St) (h : keySt s = keySt u) : s = u := by
  obtain ⟨t, c, g⟩ := s
  obtain ⟨t', c', g'⟩ := u
  simp only [keySt, NestedKey.tup.injEq, List.cons.injEq, NestedKey.num.injEq, and_true] at h
  obtain ⟨h1, h2, h3⟩ := h
  rw [keyT_inj t t' h1, numK_inj h2, show g = g' by omega]
theorem cmp_nums : ∀ a b : List Nat, cmpKs (a.map numK) (b.map numK) = true
  | [], b => cmpKs_n' _
  | x :: a, [] => cmpKs_n _
  | x :: a, y :: b => cmpKs_c (cmp_num _ _) (cmp_nums a b)
theorem cmp_st (s u : St) : cmpK (keySt s) (keySt u) = true := by
  simp only [keySt, cmpK]
  exact cmpKs_c (cmp_tm _ _) (cmpKs_c (by simp only [cmpK]; exact cmp_nums _ _) (cmpKs_c (cmp_num _ _) (cmpKs_n _)))
theorem nums_dp : ∀ cs : List Nat, NestedKey.depthAll (cs.map numK) = 0
  | [] => by simp [NestedKey.depthAll]
  | c :: cs => by simp [NestedKey.depthAll, numK, NestedKey.depth, nums_dp cs]
theorem st_dp (s : St) (h : s.t.dp ≤ 7) : (keySt s).depth ≤ 8 := by
  have := key_dp s.t
  simp only [keySt, NestedKey.depth, NestedKey.depthAll, nums_dp]
  omega
theorem sortSt (xs : List St) (hd : ∀ s ∈ xs, s.t.dp ≤ 7) (few : Few xs) : ∃ L : List St, sortSetH (.list (xs.map encSt)) = some (.list (L.map encSt)) ∧ L.Nodup ∧ ∀ a, a ∈ L ↔ a ∈ xs :=
  sortSet_spec kD_st keySt_inj (fun a _ b _ => cmp_st a b) (fun a ha => ⟨rfl, st_dp a (hd a ha)⟩) few
def keyL : Lb → NestedKey
  | .come e => .tup [.text (kS .come), .num e]
  | .off => .tup [.text (kS .off), .num 0]
  | .say w => .tup [.text (kS .say), .num w]
  | .take e => .tup [.text (kS .take), .num e]
  | .tick => .tup [.text (kS .tick), .num 0]
theorem kD_L (l : Lb) : kD (encL l) = some (keyL l) := by cases l <;> rfl
theorem keyL_inj (l m : Lb) (h : keyL l = keyL m) : l = m := by
  cases l <;> cases m <;> simp [keyL] at h ⊢ <;> omega
theorem cmp_L (l m : Lb) : cmpK (keyL l) (keyL m) = true := by
  cases l <;> cases m <;> simp only [keyL] <;> first | exact cmp_heads (by decide) _ _ | (rw [cmp_same]; exact cmpKs_c (cmp_num _ _) (cmpKs_n _))
theorem sortLb (xs : List Lb) (few : Few xs) : ∃ L : List Lb, sortSetH (.list (xs.map encL)) = some (.list (L.map encL)) ∧ L.Nodup ∧ ∀ a, a ∈ L ↔ a ∈ xs :=
  sortSet_spec kD_L keyL_inj (fun a _ b _ => cmp_L a b) (fun a _ => by cases a <;> exact ⟨rfl, by simp [keyL, NestedKey.depth, NestedKey.depthAll]⟩) few
/-- encL tells labels apart -/
theorem eqv_L (l m : Lb) : PyData.eqv (encL l) (encL m) = decide (l = m) := by
  have e : ∀ a b : Nat, ((a : Int) == (b : Int)) = decide (a = b) := fun a b => by
    by_cases h : a = b
    · subst h; simp
    · rw [decide_eq_false h]; exact beq_eq_false_iff_ne.mpr (by omega)
  cases l <;> cases m <;> simp [encL, e]
theorem dp_L (l : Lb) : (encL l).depth ≤ 64 := by cases l <;> simp [encL]
/-! ## moves -/
/-- what a standing moves to -/
def moves (s : St) (l : Lb) : List St := if s.t.isR = true then [] else match l with
  | .come e => if e ∈ s.came then [] else [⟨s.t, addC s.came e, s.gone⟩]
  | .tick => [⟨tick s.t, s.came, s.gone⟩]
  | .off => if s.gone = 0 then [⟨Tm.off s.t, s.came, 1⟩] else []
  | l => ((steps s.came s.t).filter fun u => decide (u.1 = l)).map fun u => ⟨u.2, s.came, s.gone⟩
theorem sz_moves (s : St) (l : Lb) : ∀ u ∈ moves s l, sz u.t ≤ sz s.t ∧ dp u.t ≤ dp s.t := by
  intro u hu
  unfold moves at hu
  split at hu
  · cases hu
  · have key : ∀ l', u ∈ ((steps s.came s.t).filter fun u => decide (u.1 = l')).map (fun u => (⟨u.2, s.came, s.gone⟩ : St)) → sz u.t ≤ sz s.t ∧ dp u.t ≤ dp s.t := fun l' h => by
      obtain ⟨v, hv, rfl⟩ := List.mem_map.mp h
      have := (List.mem_filter.mp hv).1
      exact ⟨sz_steps _ _ v this, dp_steps _ _ v this⟩
    split at hu
    · split at hu
      · cases hu
      · rw [List.mem_singleton.mp hu]; exact ⟨Nat.le_refl _, Nat.le_refl _⟩
    · rw [List.mem_singleton.mp hu]; exact ⟨sz_tick _, dp_tick _⟩
    · split at hu
      · rw [List.mem_singleton.mp hu]; exact ⟨sz_off _, dp_off _⟩
      · cases hu
    · exact key _ hu
theorem moves_len (s : St) (l : Lb) : (moves s l).length ≤ sz s.t := by
  have h1 := sz_pos s.t
  have h2 := (steps_len s.came).1 s.t
  have key : ∀ l', (((steps s.came s.t).filter fun u => decide (u.1 = l')).map (fun u => (⟨u.2, s.came, s.gone⟩ : St))).length ≤ sz s.t := fun l' => by
    rw [List.length_map]
    exact Nat.le_trans (List.length_filter_le _ _) h2
  unfold moves
  split
  · exact Nat.zero_le _
  · split
    · split <;> simp <;> omega
    · simpa using h1
    · split <;> simp <;> omega
    · exact key _
theorem moves_ok (s : St) (l : Lb) (ok : okT s.t = true) : ∀ u ∈ moves s l, okT u.t = true := by
  intro u hu
  unfold moves at hu
  split at hu
  · cases hu
  · have key : ∀ l', u ∈ ((steps s.came s.t).filter fun u => decide (u.1 = l')).map (fun u => (⟨u.2, s.came, s.gone⟩ : St)) → okT u.t = true := fun l' h => by
      obtain ⟨v, hv, rfl⟩ := List.mem_map.mp h
      exact ok_steps _ _ ok v (List.mem_filter.mp hv).1
    split at hu
    · split at hu
      · cases hu
      · rw [List.mem_singleton.mp hu]; exact ok
    · rw [List.mem_singleton.mp hu]; exact ok_tick _ ok
    · split at hu
      · rw [List.mem_singleton.mp hu]; exact ok_off _ ok
      · cases hu
    · exact key _ hu
end LT
/-! # Ev10 -/
namespace LT
open PySem PySem.Spec PyProof.Rows L2 Tm
/-- the labels a standing admits -/
def labels (s : St) (evs : List Nat) : List Lb := if s.t.isR = true then [] else
  ((evs.filter fun e => decide (e ∉ s.came)).map .come ++ [.tick] ++ (if s.gone = 0 then [.off] else [])) ++ (steps s.came s.t).map (·.1)
structure SpC (n : Nat) (c : Fns) : Prop where
  moves : ∀ s l, 4 * sz s.t + 3 ≤ n → sz s.t ≤ 400 → dp s.t ≤ 7 → s.came.length ≤ 100 → ∃ L : List St, c .fmovesin [encSt s, encL l] = some (.list (L.map encSt)) ∧ L.length ≤ 400 ∧ ∀ u, u ∈ L ↔ u ∈ LT.moves s l
  labels : ∀ s (evs : List Nat), 4 * sz s.t + 3 ≤ n → sz s.t ≤ 400 → evs.length ≤ 10 → ∃ L : List Lb, c .flabelsof [encSt s, .list (evs.map intD)] = some (.list (L.map encL)) ∧ L.Nodup ∧ ∀ u, u ∈ L ↔ u ∈ LT.labels s evs
  Lnext : ∀ s l, okT s.t = true → s.gone ≤ 1 → 4 * sz s.t + 3 ≤ n → sz s.t ≤ 400 → dp s.t ≤ 7 → s.came.length ≤ 100 → ∃ L : List St, c .fLnext [encSt s, encL l] = some (.list (L.map encSt)) ∧ L.length ≤ 400 ∧ ∀ u, u ∈ L ↔ u ∈ LT.moves s l
  Llabels : ∀ s (evs : List Nat), okT s.t = true → s.gone ≤ 1 → 4 * sz s.t + 3 ≤ n → sz s.t ≤ 400 → evs.length ≤ 10 → ∃ L : List Lb, c .fLlabels [encSt s, .list (evs.map intD)] = some (.list (L.map encL)) ∧ L.Nodup ∧ ∀ u, u ∈ L ↔ u ∈ LT.labels s evs
theorem nodup_len' {α : Type} {l m : List α} (hn : l.Nodup) (h : ∀ x ∈ l, x ∈ m) : l.length ≤ m.length := by
  classical
  exact nodup_len hn h
@[simp] theorem eqv_Lx (l m : Lb) : PyData.eqv (encL l) (encL m) = decide (l = m) := eqv_L l m
@[simp] theorem eqH_L (x : D) (l : Lb) : eqH x (encL l) = some (PyData.eqv x (encL l)) := eqH_r (dp_L l)
theorem lab_case (s : St) (l : Lb) (h1 : ∀ e, l ≠ .come e) (h2 : l ≠ .tick) (h3 : l ≠ .off) (hr : s.t.isR = false) : moves s l = ((steps s.came s.t).filter fun u => decide (u.1 = l)).map fun u => ⟨u.2, s.came, s.gone⟩ := by
  unfold moves
  rw [if_neg (by rw [hr]; simp)]
  split
  · exact absurd rfl (h1 _)
  · exact absurd rfl h2
  · exact absurd rfl h3
  · rfl
section
variable {n : Nat} {c : Fns}
theorem ev_moves (S : SpB n c) (s : St) (l : Lb) (h : 4 * sz s.t + 3 ≤ n + 1) (hz : sz s.t ≤ 400) (hd : dp s.t ≤ 7) (hcl : s.came.length ≤ 100) :
    ∃ L : List St, bodyF 7 (g_fmovesin c) [encSt s, encL l] = some (.list (L.map encSt)) ∧ L.length ≤ 400 ∧ ∀ u, u ∈ L ↔ u ∈ moves s l := by
  have hs := S.steps s.t s.came (by omega) hz
  have ht := S.tick s.t (by omega) hz
  have ho := S.off s.t (by omega) (by omega)
  cases hr : s.t.isR with
  | true => exact ⟨[], by simp [g_fmovesin, bodyF, encSt, hr, chk_ok], by simp, fun u => by simp [moves, hr]⟩
  | false =>
    have gen : ∀ k w, l ≠ .tick → l ≠ .off → (∀ e, l ≠ .come e) → encL l = .tuple [.str (kS k), .int w] → k ≠ .come → k ≠ .tick → k ≠ .off → ∃ L : List St, bodyF 7 (g_fmovesin c) [encSt s, encL l] = some (.list (L.map encSt)) ∧ L.length ≤ 400 ∧ ∀ u, u ∈ L ↔ u ∈ moves s l := by
      intro k w a1 a2 a3 e k1 k2 k3
      have hl := (steps_len s.came).1 s.t
      have hm := lab_case s l a3 a1 a2 hr
      obtain ⟨L, e1, e2, e3⟩ := sortSt (moves s l) (fun u hu => Nat.le_trans (sz_moves s l u hu).2 hd) (Few.short (Nat.lt_of_le_of_lt (moves_len s l) (by omega)))
      refine ⟨L, ?_, Nat.le_trans (nodup_len' e2 fun u hu => (e3 u).mp hu) (Nat.le_trans (moves_len s l) hz), e3⟩
      rw [hm, List.map_map] at e1
      have lc : lcGo (bdT [5, 6]) (cmpB eqH (cV 5) (cV 1)) (cTup (cCons (cV 6) (cCons (cV 3) (cCons (cV 4) cNil)))) [.im (encSt s), .im (encL l), .im (enc s.t), .im (encC s.came), .im (.int (s.gone : Int)), .no, .no] ((steps s.came s.t).map encS) = some (((steps s.came s.t).filter fun u => decide (u.1 = l)).map (encSt ∘ fun u => (⟨u.2, s.came, s.gone⟩ : St))) := by
        refine lc_fmap (fun u hu => ⟨_, by simp [encS]; rfl, by simp, by simp [chk_ok, encSt]⟩)
      rw [e] at lc ⊢
      simp only [encSt] at lc ⊢
      simp [g_fmovesin, bodyF, hr, chk_ok, k1, k2, k3, hs, lc, e1]
    cases l with
    | come e =>
      have hm := came_mem s.came e
      by_cases hc : e ∈ s.came
      · exact ⟨[], by simp [g_fmovesin, bodyF, encSt, hr, chk_ok, encL, hm, hc], by simp, fun u => by simp [moves, hr, hc]⟩
      · refine ⟨[⟨s.t, addC s.came e, s.gone⟩], ?_, by simp, fun u => by simp [moves, hr, hc]⟩
        have hcm := sortH_came s.came e
        have hk : chkLen (s.came.map intD ++ [.int (e : Int)]) = some (s.came.map intD ++ [.int (e : Int)]) := chk_ok (by simp; omega)
        rw [encC_eq] at hm
        simp [g_fmovesin, bodyF, encSt, hr, chk_ok, encL, hm, hc, encC_eq, hk, hcm]
    | tick => exact ⟨[⟨tick s.t, s.came, s.gone⟩], by simp [g_fmovesin, bodyF, encSt, hr, chk_ok, encL, ht], by simp, fun u => by simp [moves, hr]⟩
    | off =>
      by_cases hg : s.gone = 0
      · exact ⟨[⟨Tm.off s.t, s.came, 1⟩], by simp [g_fmovesin, bodyF, encSt, hr, chk_ok, encL, ho, hg], by simp, fun u => by simp [moves, hr, hg]⟩
      · have hg' : ((s.gone : Int) == 0) = false := beq_eq_false_iff_ne.mpr (by omega)
        exact ⟨[], by simp [g_fmovesin, bodyF, encSt, hr, chk_ok, encL, hg, hg'], by simp, fun u => by simp [moves, hr, hg]⟩
    | say w => exact gen .say w (by simp) (by simp) (by simp) rfl (by decide) (by decide) (by decide)
    | take w => exact gen .take w (by simp) (by simp) (by simp) rfl (by decide) (by decide) (by decide)
theorem ev_Lnext (S : SpM n c) (s : St) (l : Lb) (ok : okT s.t = true) (hg1 : s.gone ≤ 1) (h : 4 * sz s.t + 3 ≤ n + 1) (hz : sz s.t ≤ 400) (hd : dp s.t ≤ 7) (hcl : s.came.length ≤ 100) :
    ∃ L : List St, bodyF 7 (g_fLnext c) [encSt s, encL l] = some (.list (L.map encSt)) ∧ L.length ≤ 400 ∧ ∀ u, u ∈ L ↔ u ∈ moves s l := by
  have hs := S.Lsteps s.t s.came ok (by omega) hz
  have ht := S.Ltick s.t ok (by omega) hz
  have ho := S.Loff s.t ok (by omega) (by omega)
  cases hr : s.t.isR with
  | true => exact ⟨[], by simp [g_fLnext, bodyF, encSt, hr, chk_ok], by simp, fun u => by simp [moves, hr]⟩
  | false =>
    have gen : ∀ k w, l ≠ .tick → l ≠ .off → (∀ e, l ≠ .come e) → encL l = .tuple [.str (kS k), .int w] → k ≠ .come → k ≠ .tick → k ≠ .off → ∃ L : List St, bodyF 7 (g_fLnext c) [encSt s, encL l] = some (.list (L.map encSt)) ∧ L.length ≤ 400 ∧ ∀ u, u ∈ L ↔ u ∈ moves s l := by
      intro k w a1 a2 a3 e k1 k2 k3
      have hl := (steps_len s.came).1 s.t
      have hm := lab_case s l a3 a1 a2 hr
      obtain ⟨L, e1, e2, e3⟩ := sortSt (moves s l) (fun u hu => Nat.le_trans (sz_moves s l u hu).2 hd) (Few.short (Nat.lt_of_le_of_lt (moves_len s l) (by omega)))
      refine ⟨L, ?_, Nat.le_trans (nodup_len' e2 fun u hu => (e3 u).mp hu) (Nat.le_trans (moves_len s l) hz), e3⟩
      rw [hm, List.map_map] at e1
      have lc : lcGo (bdT [5, 6]) (cmpB eqH (cV 5) (cV 1)) (cTup (cCons (cV 6) (cCons (cV 3) (cCons (cV 4) cNil)))) [.im (encSt s), .im (encL l), .im (enc s.t), .im (encC s.came), .im (.int (s.gone : Int)), .no, .no] ((steps s.came s.t).map encS) = some (((steps s.came s.t).filter fun u => decide (u.1 = l)).map (encSt ∘ fun u => (⟨u.2, s.came, s.gone⟩ : St))) := by
        refine lc_fmap (fun u hu => ⟨_, by simp [encS]; rfl, by simp, by simp [chk_ok, encSt]⟩)
      rw [e] at lc ⊢
      simp only [encSt] at lc ⊢
      simp [g_fLnext, bodyF, hr, chk_ok, k1, k2, k3, k1.symm, k2.symm, k3.symm, hs, lc, e1]
    cases l with
    | come e =>
      have hm := came_mem' s.came e
      by_cases hc : e ∈ s.came
      · exact ⟨[], by simp [g_fLnext, bodyF, encSt, hr, chk_ok, encL, hm, hc], by simp, fun u => by simp [moves, hr, hc]⟩
      · refine ⟨[⟨s.t, addC s.came e, s.gone⟩], ?_, by simp, fun u => by simp [moves, hr, hc]⟩
        have hcm := sortH_camet s.came e
        have hk : chkLen (s.came.map intD ++ [.int (e : Int)]) = some (s.came.map intD ++ [.int (e : Int)]) := chk_ok (by simp; omega)
        rw [encC_eq] at hm
        simp [g_fLnext, bodyF, encSt, hr, chk_ok, encL, hm, hc, encC_eq, hk, hcm]
    | tick => exact ⟨[⟨tick s.t, s.came, s.gone⟩], by simp [g_fLnext, bodyF, encSt, hr, chk_ok, encL, ht], by simp, fun u => by simp [moves, hr]⟩
    | off =>
      by_cases hg : s.gone = 0
      · exact ⟨[⟨Tm.off s.t, s.came, 1⟩], by simp [g_fLnext, bodyF, encSt, hr, chk_ok, encL, ho, hg], by simp, fun u => by simp [moves, hr, hg]⟩
      · have hg' : s.gone = 1 := by omega
        exact ⟨[], by simp [g_fLnext, bodyF, encSt, hr, chk_ok, encL, hg'], by simp, fun u => by simp [moves, hr, hg]⟩
    | say w => exact gen .say w (by simp) (by simp) (by simp) rfl (by decide) (by decide) (by decide)
    | take w => exact gen .take w (by simp) (by simp) (by simp) rfl (by decide) (by decide) (by decide)
theorem labels_few (s : St) (evs : List Nat) (hz : sz s.t ≤ 400) (he : evs.length ≤ 10) : (labels s evs).length ≤ 412 := by
  have hl := (steps_len s.came).1 s.t
  have hf := List.length_filter_le (fun e => decide (e ∉ s.came)) evs
  unfold labels
  split
  · simp
  · split <;> simp at hf ⊢ <;> omega
theorem ev_labels (S : SpB n c) (s : St) (evs : List Nat) (h : 4 * sz s.t + 3 ≤ n + 1) (hz : sz s.t ≤ 400) (he : evs.length ≤ 10) :
    ∃ L : List Lb, bodyF 9 (g_flabelsof c) [encSt s, .list (evs.map intD)] = some (.list (L.map encL)) ∧ L.Nodup ∧ ∀ u, u ∈ L ↔ u ∈ labels s evs := by
  have hs := S.steps s.t s.came (by omega) hz
  cases hr : s.t.isR with
  | true => exact ⟨[], by simp [g_flabelsof, bodyF, encSt, hr, chk_ok], by simp, fun u => by simp [labels, hr]⟩
  | false =>
    obtain ⟨L, e1, e2, e3⟩ := sortLb (labels s evs) (Few.short (Nat.lt_of_le_of_lt (labels_few s evs hz he) (by omega)))
    refine ⟨L, ?_, e2, e3⟩
    have hl := (steps_len s.came).1 s.t
    have hfl := List.length_filter_le (fun e => decide (e ∉ s.came)) evs
    have lc1 : lcGo (bdN 6) (cmpB niH (cV 6) (cV 3)) (cTup (cCons (cK (.str (kS .come))) (cCons (cV 6) cNil))) [.im (encSt s), .im (.list (evs.map intD)), .im (enc s.t), .im (encC s.came), .im (.int (s.gone : Int)), .no, .no, .no, .no] (evs.map intD) = some ((evs.filter fun e => decide (e ∉ s.came)).map fun e => encL (.come e)) := by
      refine lc_fmap (fun u hu => ⟨_, by simp [intD]; rfl, by simp [came_mem], by simp [chk_ok, encL]⟩)
    have lc2 : ∀ (f : D) , lcGo (bdT [7, 8]) bYes (cV 7) [.im (encSt s), .im (.list (evs.map intD)), .im (enc s.t), .im (encC s.came), .im (.int (s.gone : Int)), .im f, .no, .no, .no] ((steps s.came s.t).map encS) = some ((steps s.came s.t).map fun u => encL u.1) := by
      intro f
      refine lc_map (fun u hu => ⟨_, by simp [encS]; rfl, by simp⟩)
    have hA : ((evs.filter fun e => decide (e ∉ s.came)).map fun e => encL (.come e)).length ≤ 10 := by rw [List.length_map]; omega
    have hB : ((steps s.came s.t).map fun u => encL u.1).length ≤ 400 := by rw [List.length_map]; omega
    have hx : (labels s evs).map encL = ((evs.filter fun e => decide (e ∉ s.came)).map fun e => encL (.come e)) ++ [encL .tick] ++ (if s.gone = 0 then [encL .off] else []) ++ (steps s.came s.t).map fun u => encL u.1 := by
      unfold labels
      rw [if_neg (by rw [hr]; simp)]
      by_cases hg : s.gone = 0 <;> simp [hg, Function.comp_def]
    rw [hx] at e1
    simp only [encSt] at lc1 lc2 ⊢
    generalize ((evs.filter fun e => decide (e ∉ s.came)).map fun e => encL (.come e)) = A at lc1 hA e1
    generalize ((steps s.came s.t).map fun u => encL u.1) = B at lc2 hB e1
    have z1 : A.length + 1 ≤ sizeLine := by rw [sizeLine_eq]; omega
    have z2 : A.length + 1 < sizeLine := by rw [sizeLine_eq]; omega
    by_cases hg : s.gone = 0
    · simp [hg, encL] at e1
      have z3 : chkLen (A ++ .tuple [.str (kS .tick), .int 0] :: .tuple [.str (kS .off), .int 0] :: B) = some (A ++ .tuple [.str (kS .tick), .int 0] :: .tuple [.str (kS .off), .int 0] :: B) := chk_ok (by simp; omega)
      rw [hg] at lc1 lc2
      (try simp at lc1)
      (try simp at lc2)
      simp [g_flabelsof, bodyF, hr, chk_ok, hs, hg, sCat, lc1, z1, z2, lc2, z3, e1]
    · have hg' : ((s.gone : Int) == 0) = false := beq_eq_false_iff_ne.mpr (by omega)
      simp [hg, encL] at e1
      have z3 : chkLen (A ++ .tuple [.str (kS .tick), .int 0] :: B) = some (A ++ .tuple [.str (kS .tick), .int 0] :: B) := chk_ok (by simp; omega)
      (try simp at lc1)
      (try simp at lc2)
      simp [g_flabelsof, bodyF, hr, chk_ok, hs, hg, hg', sCat, lc1, z1, z2, lc2, z3, e1]
theorem ev_Llabels (S : SpM n c) (s : St) (evs : List Nat) (ok : okT s.t = true) (hg1 : s.gone ≤ 1) (h : 4 * sz s.t + 3 ≤ n + 1) (hz : sz s.t ≤ 400) (he : evs.length ≤ 10) :
    ∃ L : List Lb, bodyF 9 (g_fLlabels c) [encSt s, .list (evs.map intD)] = some (.list (L.map encL)) ∧ L.Nodup ∧ ∀ u, u ∈ L ↔ u ∈ labels s evs := by
  have hs := S.Lsteps s.t s.came ok (by omega) hz
  cases hr : s.t.isR with
  | true => exact ⟨[], by simp [g_fLlabels, bodyF, encSt, hr, chk_ok], by simp, fun u => by simp [labels, hr]⟩
  | false =>
    obtain ⟨L, e1, e2, e3⟩ := sortLb (labels s evs) (Few.short (Nat.lt_of_le_of_lt (labels_few s evs hz he) (by omega)))
    refine ⟨L, ?_, e2, e3⟩
    have hl := (steps_len s.came).1 s.t
    have hfl := List.length_filter_le (fun e => decide (e ∉ s.came)) evs
    have lc1 : lcGo (bdN 6) (cmpB niH (cV 6) (cV 3)) (cTup (cCons (cK (.str (kS .come))) (cCons (cV 6) cNil))) [.im (encSt s), .im (.list (evs.map intD)), .im (enc s.t), .im (encC s.came), .im (.int (s.gone : Int)), .no, .no, .no, .no] (evs.map intD) = some ((evs.filter fun e => decide (e ∉ s.came)).map fun e => encL (.come e)) := by
      refine lc_fmap (fun u hu => ⟨_, by simp [intD]; rfl, by simp [came_mem], by simp [chk_ok, encL]⟩)
    have lc2 : ∀ (f : D) , lcGo (bdT [7, 8]) bYes (cV 7) [.im (encSt s), .im (.list (evs.map intD)), .im (enc s.t), .im (encC s.came), .im (.int (s.gone : Int)), .im f, .no, .no, .no] ((steps s.came s.t).map encS) = some ((steps s.came s.t).map fun u => encL u.1) := by
      intro f
      refine lc_map (fun u hu => ⟨_, by simp [encS]; rfl, by simp⟩)
    have hA : ((evs.filter fun e => decide (e ∉ s.came)).map fun e => encL (.come e)).length ≤ 10 := by rw [List.length_map]; omega
    have hB : ((steps s.came s.t).map fun u => encL u.1).length ≤ 400 := by rw [List.length_map]; omega
    have hx : (labels s evs).map encL = ((evs.filter fun e => decide (e ∉ s.came)).map fun e => encL (.come e)) ++ [encL .tick] ++ (if s.gone = 0 then [encL .off] else []) ++ (steps s.came s.t).map fun u => encL u.1 := by
      unfold labels
      rw [if_neg (by rw [hr]; simp)]
      by_cases hg : s.gone = 0 <;> simp [hg, Function.comp_def]
    rw [hx] at e1
    simp only [encSt] at lc1 lc2 ⊢
    generalize ((evs.filter fun e => decide (e ∉ s.came)).map fun e => encL (.come e)) = A at lc1 hA e1
    generalize ((steps s.came s.t).map fun u => encL u.1) = B at lc2 hB e1
    have z0 : ∀ x, chkLen (A ++ [x]) = some (A ++ [x]) := fun x => chk_ok (by simp; omega)
    have z1 : ∀ x y, chkLen (A ++ [x, y]) = some (A ++ [x, y]) := fun x y => chk_ok (by simp; omega)
    have z3 : ∀ x y, chkLen (A ++ x :: y :: B) = some (A ++ x :: y :: B) := fun x y => chk_ok (by simp; omega)
    have z4 : ∀ x, chkLen (A ++ x :: B) = some (A ++ x :: B) := fun x => chk_ok (by simp; omega)
    by_cases hg : s.gone = 0
    · simp [hg, encL] at e1
      rw [hg] at lc1 lc2
      (try simp at lc1)
      (try simp at lc2)
      simp [g_fLlabels, bodyF, hr, chk_ok, hs, hg, mulLH, repL, lc1, z0, z1, lc2, z3, e1]
    · have hg' : s.gone = 1 := by omega
      simp [hg, encL] at e1
      rw [hg'] at lc1 lc2
      (try simp at lc1)
      (try simp at lc2)
      simp [g_fLlabels, bodyF, hr, chk_ok, hs, hg', mulLH, repL, lc1, z0, lc2, z4, e1]
end
end LT
/-! # Ev11 -/
namespace LT
open PySem PySem.Spec PyProof.Rows L2 Tm
/-! ## plans that need_plan takes; leaves -/
def vP : Nat → Tm → Bool
  | 0, _ => false
  | _ + 1, .rest => true
  | _ + 1, .say w => decide (w < 8)
  | _ + 1, .wait e => decide (e < 4)
  | d + 1, .thn p ps => decide (1 ≤ ps.length ∧ ps.length ≤ 11) && (vP d p && ps.all (vP d))
  | d + 1, .both ps => decide (2 ≤ ps.length ∧ ps.length ≤ 12) && ps.all (vP d)
  | d + 1, .first ps => decide (2 ≤ ps.length ∧ ps.length ≤ 12) && ps.all (vP d)
  | d + 1, .within k p => decide (1 ≤ k ∧ k ≤ 3) && vP d p
  | d + 1, .last p q => vP d p && vP d q
  | d + 1, .shield p => vP d p
  | _ + 1, .keep _ => false
namespace Tm
def parts : Tm → List Tm
  | thn p ps => p :: ps
  | both ps => ps
  | first ps => ps
  | within _ p => [p]
  | last p q => [p, q]
  | shield p => [p]
  | keep p => [p]
  | _ => []
mutual
def leaves : Tm → List Tm
  | thn p ps => leaves p ++ leavesL ps
  | both ps => leavesL ps
  | first ps => leavesL ps
  | within _ p => leaves p
  | last p q => leaves p ++ leaves q
  | shield p => leaves p
  | keep p => leaves p
  | t => [t]
def leavesL : List Tm → List Tm
  | [] => []
  | p :: ps => leaves p ++ leavesL ps
end
mutual
theorem leaves_len : ∀ t : Tm, (leaves t).length ≤ sz t
  | rest => by simp [leaves, sz]
  | say _ => by simp [leaves, sz]
  | wait _ => by simp [leaves, sz]
  | thn p ps => by have := leaves_len p; have := leavesL_len ps; simp only [leaves, List.length_append, sz]; omega
  | both ps => by have := leavesL_len ps; simp only [leaves, sz]; omega
  | first ps => by have := leavesL_len ps; simp only [leaves, sz]; omega
  | within _ p => by have := leaves_len p; simp only [leaves, sz]; omega
  | last p q => by have := leaves_len p; have := leaves_len q; simp only [leaves, List.length_append, sz]; omega
  | shield p => by have := leaves_len p; simp only [leaves, sz]; omega
  | keep p => by have := leaves_len p; simp only [leaves, sz]; omega
theorem leavesL_len : ∀ ts : List Tm, (leavesL ts).length ≤ szs ts
  | [] => by simp [leavesL, szs]
  | p :: ps => by have := leaves_len p; have := leavesL_len ps; simp only [leavesL, List.length_append, szs]; omega
end
theorem leavesL_app : ∀ as bs : List Tm, leavesL (as ++ bs) = leavesL as ++ leavesL bs
  | [], _ => rfl
  | a :: as, bs => by simp only [List.cons_append, leavesL]; rw [leavesL_app as bs]; simp
theorem leavesL_parts (t : Tm) (h : parts t ≠ []) : leavesL (parts t) = leaves t := by
  cases t <;> simp [parts, leaves, leavesL] at h ⊢
theorem leaves_tip (t : Tm) (h : parts t = []) (hv : ∀ ps, t ≠ both ps ∧ t ≠ first ps) : leaves t = [t] := by
  cases t <;> simp [parts, leaves] at h ⊢
  · exact absurd rfl (hv _).1
  · exact absurd rfl (hv _).2
theorem sz_parts (t : Tm) : szs (parts t) < sz t := by
  cases t <;> simp only [parts, szs, sz] <;> omega
end Tm
theorem vP_multi {d : Nat} {ts : List Tm} (h : vP d (.both ts) = true ∨ vP d (.first ts) = true) : ts ≠ [] := by
  cases d with
  | zero => simp [vP] at h
  | succ d =>
    intro e
    subst e
    simp [vP] at h
theorem vP_parts {d : Nat} {t : Tm} (h : vP d t = true) : ∀ p ∈ parts t, vP (d - 1) p = true := by
  cases d with
  | zero => simp [vP] at h
  | succ d =>
    intro p hp
    cases t <;> simp [vP, parts] at h hp ⊢
    case thn q qs => rcases hp with e | hp; (· rw [e]; exact h.2.1); exact h.2.2 p hp
    case both qs => exact h.2 p hp
    case first qs => exact h.2 p hp
    case within k q => rw [hp]; exact h.2
    case last a b => rcases hp with e | e <;> rw [e] <;> simp [h]
    case shield q => rw [hp]; exact h
theorem vP_okP : ∀ (d : Nat) (t : Tm), vP d t = true → okP t = true
  | 0, t, h => by simp [vP] at h
  | d + 1, t, h => by
    cases t with
    | thn p ps =>
      simp [vP] at h
      simp only [okP]
      rw [vP_okP d p h.2.1, okPs_iff.mpr fun q hq => vP_okP d q (h.2.2 q hq)]
      rfl
    | both ps =>
      simp [vP] at h
      simp only [okP]
      exact okPs_iff.mpr fun q hq => vP_okP d q (h.2 q hq)
    | first ps =>
      simp [vP] at h
      simp only [okP]
      exact okPs_iff.mpr fun q hq => vP_okP d q (h.2 q hq)
    | within k p =>
      simp [vP] at h
      simp only [okP]
      rw [vP_okP d p h.2, decide_eq_true h.1.1]
      rfl
    | last p q =>
      simp [vP] at h
      simp only [okP]
      rw [vP_okP d p h.1, vP_okP d q h.2]
      rfl
    | shield p =>
      simp [vP] at h
      simp only [okP]
      exact vP_okP d p h
    | keep p => simp [vP] at h
    | _ => rfl
def vL : Lb → Bool
  | .come e => decide (e < 4)
  | .take e => decide (e < 4)
  | .say w => decide (w < 8)
  | _ => true
structure SpP (n : Nat) (c : Fns) : Prop where
  isint : ∀ i : Int, 1 ≤ n → c .fisinteger [.int i] = some (.bool true)
  isin : ∀ i a b : Int, 2 ≤ n → a ≤ i → i ≤ b → c .fisin [.int i, .int a, .int b] = some (.bool true)
  islist : ∀ (xs : List D) (a b : Int), 1 ≤ n → a ≤ xs.length → xs.length ≤ b → c .fislist [.tuple xs, .int a, .int b] = some (.bool true)
  isplan : ∀ (d : Nat) p, vP d p = true → 4 * sz p + 3 ≤ n → c .fisplan [enc p, .int d, .bool false] = some (.bool true)
  partsof : ∀ p, 1 ≤ n → sz p ≤ 1000 → c .fpartsof [enc p] = some (.tuple (encs (parts p)))
  leavesin : ∀ (d : Nat) p, vP d p = true → 4 * sz p + 2 ≤ n → sz p ≤ 1000 → c .fleavesin [enc p] = some (.list (encs (leaves p)))
  needplan : ∀ p, vP 8 p = true → (leaves p).length ≤ 12 → 4 * sz p + 4 ≤ n → sz p ≤ 1000 → ∃ r, c .fneedplan [enc p] = some r
  needrow : ∀ row : List Lb, row.length ≤ 40 → (∀ l ∈ row, vL l = true) → 4 ≤ n → ∃ r, c .fneedrow [.tuple (row.map encL)] = some r
  Lparts : ∀ p, 1 ≤ n → sz p ≤ 1000 → c .fLparts [enc p] = some (.tuple (encs (parts p)))
  Lleaves : ∀ (d : Nat) p, vP d p = true → 4 * sz p + 2 ≤ n → sz p ≤ 1000 → c .fLleaves [enc p] = some (.list (encs (leaves p)))
theorem bools_true {α : Type} : ∀ xs : List α, boolsD (xs.map fun _ => PyData.bool true) = some (xs.map fun _ => true)
  | [] => rfl
  | x :: xs => by simp [boolsD, bools_true xs]
theorem all_true {α : Type} (xs : List α) : allH (.list (xs.map fun _ => PyData.bool true)) = some (.bool true) := by
  simp [allH, bools_true]
@[simp] theorem ev_isHi (i : Int) : isH .int (.int i) = some (.bool true) := rfl
@[simp] theorem ev_isHb (i : Int) : isH .bool (.int i) = some (.bool false) := rfl
@[simp] theorem ev_isHt (xs : List D) : isH .tuple (.tuple xs) = some (.bool true) := rfl
@[simp] theorem ev_isHs (x : Str) : isH .str (.str x) = some (.bool true) := rfl
section
variable {n : Nat} {c : Fns}
theorem ev_isint (i : Int) : bodyF 1 (g_fisinteger c) [.int i] = some (.bool true) := by simp [g_fisinteger, bodyF]
theorem ev_isin (S : SpP n c) (i a b : Int) (hn : 1 ≤ n) (h1 : a ≤ i) (h2 : i ≤ b) : bodyF 3 (g_fisin c) [.int i, .int a, .int b] = some (.bool true) := by
  have := S.isint i hn
  simp [g_fisin, bodyF, this, decide_eq_true h1, decide_eq_true h2]
theorem ev_islist (xs : List D) (a b : Int) (h1 : a ≤ xs.length) (h2 : (xs.length : Int) ≤ b) : bodyF 3 (g_fislist c) [.tuple xs, .int a, .int b] = some (.bool true) := by
  simp [g_fislist, bodyF, decide_eq_true h1, decide_eq_true h2]
theorem ev_parts (p : Tm) (hz : sz p ≤ 1000) : bodyF 1 (g_fpartsof c) [enc p] = some (.tuple (encs (parts p))) := by
  cases p <;> simp [g_fpartsof, bodyF, enc, parts, encs, chk_ok]
theorem ev_Lparts (p : Tm) (hz : sz p ≤ 1000) : bodyF 1 (g_fLparts c) [enc p] = some (.tuple (encs (parts p))) := by
  cases p <;> simp [g_fLparts, bodyF, enc, parts, encs, chk_ok]
theorem lv_loop (P : D) : ∀ (ps : List Tm) (acc : List D) (x : Sl), (∀ p ∈ ps, c .fleavesin [enc p] = some (.list (encs (leaves p)))) → acc.length + szs ps ≤ 100000 →
    ∃ y, forGo (bdN 2) (sExt 1 (cCall 1 (c .fleavesin) (cCons (cV 2) cNil))) (encs ps) [.im P, .ow acc, x] = some (.nx [.im P, .ow (acc ++ encs (leavesL ps)), y])
  | [], acc, x, _, _ => ⟨x, by simp [forGo, encs, leavesL]⟩
  | p :: ps, acc, x, h, ha => by
    have h1 := h p List.mem_cons_self
    have hl := leaves_len p
    simp only [szs] at ha
    obtain ⟨y, e⟩ := lv_loop P ps (acc ++ encs (leaves p)) (.im (enc p)) (fun q hq => h q (List.mem_cons_of_mem _ hq)) (by simp; omega)
    refine ⟨y, ?_⟩
    have z : acc.length + (leaves p).length ≤ sizeLine := by rw [sizeLine_eq]; omega
    simp only [encs]
    rw [forGo_cons (ρ1 := [.im P, .ow acc, .im (enc p)]) (ρ2 := [.im P, .ow (acc ++ encs (leaves p)), .im (enc p)]) (by simp) (by simp [h1, z]), e]
    simp [leavesL, encs_app]
theorem ev_leaves (S : SpP n c) (d : Nat) (p : Tm) (hv : vP d p = true) (h : 4 * sz p + 2 ≤ n + 1) (hz : sz p ≤ 1000) : bodyF 3 (g_fleavesin c) [enc p] = some (.list (encs (leaves p))) := by
  have hp := S.partsof p (by have := sz_pos p; omega) hz
  have hs := sz_parts p
  by_cases he : parts p = []
  · rw [he] at hp
    rw [leaves_tip p he fun ps => ⟨fun e => vP_multi (.inl (e ▸ hv)) (by rw [e] at he; exact he), fun e => vP_multi (.inr (e ▸ hv)) (by rw [e] at he; exact he)⟩]
    simp [g_fleavesin, bodyF, hp, encs, chk_ok]
  · obtain ⟨y, e⟩ := lv_loop (c := c) (enc p) (parts p) [] .no (fun q hq => by
      have := sz_mem hq
      exact S.leavesin (d - 1) q (vP_parts hv q hq) (by omega) (by omega)) (by simp; omega)
    obtain ⟨q, qs, hq⟩ : ∃ q qs, parts p = q :: qs := by
      cases hh : parts p with
      | nil => exact absurd hh he
      | cons q qs => exact ⟨q, qs, rfl⟩
    rw [leavesL_parts p he] at e
    rw [hq] at hp e
    simp only [encs] at hp e
    simp [g_fleavesin, bodyF, hp, e, chk_ok]
theorem Llv_loop (P : D) : ∀ (ps : List Tm) (acc : List Tm) (x : Sl), (∀ p ∈ ps, c .fLleaves [enc p] = some (.list (encs (leaves p)))) → acc.length + szs ps ≤ 100000 →
    ∃ y, forGo (bdN 2) (sSet 1 (bin2 addH (cV 1) (cCall 1 (c .fLleaves) (cCons (cV 2) cNil)))) (encs ps) [.im P, .im (.list (encs acc)), x] = some (.nx [.im P, .im (.list (encs (acc ++ leavesL ps))), y])
  | [], acc, x, _, _ => ⟨x, by simp [forGo, encs, leavesL]⟩
  | p :: ps, acc, x, h, ha => by
    have h1 := h p List.mem_cons_self
    have hl := leaves_len p
    simp only [szs] at ha
    obtain ⟨y, e⟩ := Llv_loop P ps (acc ++ leaves p) (.im (enc p)) (fun q hq => h q (List.mem_cons_of_mem _ hq)) (by simp; omega)
    refine ⟨y, ?_⟩
    have z : chkLen (encs acc ++ encs (leaves p)) = some (encs acc ++ encs (leaves p)) := chk_ok (by simp; omega)
    simp only [encs]
    rw [forGo_cons (ρ1 := [.im P, .im (.list (encs acc)), .im (enc p)]) (ρ2 := [.im P, .im (.list (encs (acc ++ leaves p))), .im (enc p)]) (by simp) (by simp [h1, z, encs_app]), e]
    simp [leavesL]
theorem ev_Lleaves (S : SpP n c) (d : Nat) (p : Tm) (hv : vP d p = true) (h : 4 * sz p + 2 ≤ n + 1) (hz : sz p ≤ 1000) : bodyF 3 (g_fLleaves c) [enc p] = some (.list (encs (leaves p))) := by
  have hp := S.Lparts p (by have := sz_pos p; omega) hz
  have hs := sz_parts p
  by_cases he : parts p = []
  · rw [he] at hp
    rw [leaves_tip p he fun ps => ⟨fun e => vP_multi (.inl (e ▸ hv)) (by rw [e] at he; exact he), fun e => vP_multi (.inr (e ▸ hv)) (by rw [e] at he; exact he)⟩]
    simp [g_fLleaves, bodyF, hp, encs, chk_ok, forGo]
  · obtain ⟨y, e⟩ := Llv_loop (c := c) (enc p) (parts p) [] .no (fun q hq => by
      have := sz_mem hq
      exact S.Lleaves (d - 1) q (vP_parts hv q hq) (by omega) (by omega)) (by simp; omega)
    obtain ⟨q, qs, hq⟩ : ∃ q qs, parts p = q :: qs := by
      cases hh : parts p with
      | nil => exact absurd hh he
      | cons q qs => exact ⟨q, qs, rfl⟩
    rw [List.nil_append, leavesL_parts p he] at e
    rw [hq] at hp e
    simp only [encs] at hp e
    simp [g_fLleaves, bodyF, hp, e, chk_ok]
theorem ev_isplan (S : SpP n c) (d : Nat) (p : Tm) (hv : vP d p = true) (h : 4 * sz p + 3 ≤ n + 1) : bodyF 6 (g_fisplan c) [enc p, .int d, .bool false] = some (.bool true) := by
  have hp := sz_pos p
  cases d with
  | zero => simp [vP] at hv
  | succ d =>
    have hd : ((d : Int) + 1 == 0) = false := beq_eq_false_iff_ne.mpr (by omega)
    have hd1 : (d : Int) + 1 - 1 = (d : Int) := by omega
    have il : ∀ xs : List D, 1 ≤ xs.length → xs.length ≤ 13 → c .fislist [.tuple xs, .int 1, .int 13] = some (.bool true) := fun xs h1 h2 => S.islist xs 1 13 (by omega) (by omega) (by omega)
    cases p with
    | rest => simp [g_fisplan, bodyF, enc, hd, il, chk_ok]
    | say w =>
      simp [vP] at hv
      have i1 := S.isin w 0 7 (by omega) (by omega) (by omega)
      simp [g_fisplan, bodyF, enc, hd, il, chk_ok, i1]
    | wait w =>
      simp [vP] at hv
      have i1 := S.isin w 0 3 (by omega) (by omega) (by omega)
      simp [g_fisplan, bodyF, enc, hd, il, chk_ok, i1]
    | thn p ps =>
      simp [vP] at hv
      simp only [sz] at h
      have i0 := il (.str (kS .thn) :: enc p :: encs ps) (by simp) (by simp; omega)
      have g1 : decide ((1 : Int) < (ps.length : Int) + 1) = true := decide_eq_true (by omega)
      simp [g_fisplan, bodyF, enc, hd, i0, chk_ok, g1, hd1]
      rw [show enc p :: encs ps = (p :: ps).map enc by rw [← encs_map]; rfl, lc_map (f := fun _ => .bool true) (fun q hq => ⟨_, rfl, ?_⟩)]
      · simp only [Option.map_some, Option.bind_some, Function.comp_apply, all_true]
      · rcases List.mem_cons.mp hq with e | hq
        · have := S.isplan d p hv.2.1 (by omega)
          simp [e, this, hd1]
        · have := sz_mem hq
          have := S.isplan d q (hv.2.2 q hq) (by omega)
          simp [this, hd1]
    | both ps =>
      simp [vP] at hv
      simp only [sz] at h
      have i0 := il (.str (kS .both) :: encs ps) (by simp) (by simp; omega)
      have g1 : decide ((1 : Int) < (ps.length : Int)) = true := decide_eq_true (by omega)
      simp [g_fisplan, bodyF, enc, hd, i0, chk_ok, g1, hd1]
      rw [encs_map, lc_map (f := fun _ => .bool true) (fun q hq => ⟨_, rfl, ?_⟩)]
      · simp only [Option.map_some, Option.bind_some, Function.comp_apply, all_true]
      · have := sz_mem hq
        have := S.isplan d q (hv.2 q hq) (by omega)
        simp [this, hd1]
    | first ps =>
      simp [vP] at hv
      simp only [sz] at h
      have i0 := il (.str (kS .first) :: encs ps) (by simp) (by simp; omega)
      have g1 : decide ((1 : Int) < (ps.length : Int)) = true := decide_eq_true (by omega)
      simp [g_fisplan, bodyF, enc, hd, i0, chk_ok, g1, hd1]
      rw [encs_map, lc_map (f := fun _ => .bool true) (fun q hq => ⟨_, rfl, ?_⟩)]
      · simp only [Option.map_some, Option.bind_some, Function.comp_apply, all_true]
      · have := sz_mem hq
        have := S.isplan d q (hv.2 q hq) (by omega)
        simp [this, hd1]
    | within k p =>
      simp [vP] at hv
      simp only [sz] at h
      have i1 := S.isin k 1 3 (by omega) (by omega) (by omega)
      have i2 := S.isplan d p hv.2 (by omega)
      simp [g_fisplan, bodyF, enc, hd, il, chk_ok, i1, i2, hd1]
    | last p q =>
      simp [vP] at hv
      simp only [sz] at h
      have i1 := S.isplan d p hv.1 (by omega)
      have i2 := S.isplan d q hv.2 (by omega)
      simp [g_fisplan, bodyF, enc, hd, il, chk_ok, i1, i2, hd1]
    | shield p =>
      simp [vP] at hv
      simp only [sz] at h
      have i1 := S.isplan d p hv (by omega)
      simp [g_fisplan, bodyF, enc, hd, il, chk_ok, i1, hd1]
    | keep p => simp [vP] at hv
theorem ev_needplan (S : SpP n c) (p : Tm) (hv : vP 8 p = true) (hl : (leaves p).length ≤ 12) (h : 4 * sz p + 4 ≤ n + 1) (hz : sz p ≤ 1000) : ∃ r, bodyF 1 (g_fneedplan c) [enc p] = some r := by
  have i1 := S.isplan 8 p hv (by omega)
  have i2 := S.leavesin 8 p hv (by omega) hz
  have g1 : decide ((12 : Int) < ((leaves p).length : Int)) = false := decide_eq_false (by omega)
  simp at i1
  exact ⟨.none, by simp [g_fneedplan, bodyF, i1, i2, g1]⟩
/-! ### need_row -/
theorem ev_needrow (S : SpP n c) (row : List Lb) (hl : row.length ≤ 40) (hv : ∀ l ∈ row, vL l = true) (hn : 2 ≤ n) : ∃ r, bodyF 4 (g_fneedrow c) [.tuple (row.map encL)] = some r := by
  have i0 := S.islist (row.map encL) 0 40 (by omega) (by omega) (by simp; omega)
  have i2 : ∀ xs : List D, xs.length = 2 → c .fislist [.tuple xs, .int 2, .int 2] = some (.bool true) := fun xs h => S.islist xs 2 2 (by omega) (by omega) (by omega)
  have key : ∀ (ls : List Lb) (k : Nat) (P x1 x2 x3 : Sl), (∀ l ∈ ls, vL l = true) → ∃ y1 y2 y3, forGo (bdT [1, 2]) (sSeq (sIf (bOr (bNot (bV (cCall 3 (c .fislist) (cCons (cV 2) (cCons (cK (.int 2)) (cCons (cK (.int 2)) cNil)))))) (bOr (bNot (bV (cB (isH .str) (bin2 atH (cV 2) (cK (.int 0)))))) (cmpB niH (bin2 atH (cV 2) (cK (.int 0))) (cK (.tuple [.str (kS .come), .str (kS .off), .str (kS .say), .str (kS .take), .str (kS .tick)]))))) sNever sNil)
      (sSeq (sSet 3 (cDG (kS .say) (cK (.int 8)) (kS .take) (cK (.int 4)) (kS .come) (cK (.int 4)) (bin2 atH (cV 2) (cK (.int 0))) (cK (.int 1))))
      (sIf (bNot (bV (cCall 3 (c .fisin) (cCons (bin2 atH (cV 2) (cK (.int 1))) (cCons (cK (.int 0)) (cCons (bin2 subH (cV 3) (cK (.int 1))) cNil)))))) sNever sNil))) (enF k (ls.map encL)) [P, x1, x2, x3] = some (.nx [P, y1, y2, y3]) := by
    intro ls
    induction ls with
    | nil => intro k P x1 x2 x3 _; exact ⟨x1, x2, x3, by simp [forGo, enF]⟩
    | cons l ls ih =>
      intro k P x1 x2 x3 h
      have hl := h l List.mem_cons_self
      have one : ∃ y3, sSeq (sIf (bOr (bNot (bV (cCall 3 (c .fislist) (cCons (cV 2) (cCons (cK (.int 2)) (cCons (cK (.int 2)) cNil)))))) (bOr (bNot (bV (cB (isH .str) (bin2 atH (cV 2) (cK (.int 0)))))) (cmpB niH (bin2 atH (cV 2) (cK (.int 0))) (cK (.tuple [.str (kS .come), .str (kS .off), .str (kS .say), .str (kS .take), .str (kS .tick)]))))) sNever sNil)
          (sSeq (sSet 3 (cDG (kS .say) (cK (.int 8)) (kS .take) (cK (.int 4)) (kS .come) (cK (.int 4)) (bin2 atH (cV 2) (cK (.int 0))) (cK (.int 1))))
          (sIf (bNot (bV (cCall 3 (c .fisin) (cCons (bin2 atH (cV 2) (cK (.int 1))) (cCons (cK (.int 0)) (cCons (bin2 subH (cV 3) (cK (.int 1))) cNil)))))) sNever sNil)) [P, .im (.int (k : Int)), .im (encL l), x3] = some (.nx [P, .im (.int (k : Int)), .im (encL l), y3]) := by
        cases l with
        | come e =>
          simp [vL] at hl
          have := S.isin e 0 3 hn (by omega) (by omega)
          exact ⟨.im (.int 4), by simp [encL, i2, niH, cDG, this]⟩
        | take e =>
          simp [vL] at hl
          have := S.isin e 0 3 hn (by omega) (by omega)
          exact ⟨.im (.int 4), by simp [encL, i2, niH, cDG, this]⟩
        | say e =>
          simp [vL] at hl
          have := S.isin e 0 7 hn (by omega) (by omega)
          exact ⟨.im (.int 8), by simp [encL, i2, niH, cDG, this]⟩
        | off =>
          have := S.isin 0 0 0 hn (by omega) (by omega)
          exact ⟨.im (.int 1), by simp [encL, i2, niH, cDG, this]⟩
        | tick =>
          have := S.isin 0 0 0 hn (by omega) (by omega)
          exact ⟨.im (.int 1), by simp [encL, i2, niH, cDG, this]⟩
      obtain ⟨y3, e1⟩ := one
      obtain ⟨z1, z2, z3, e2⟩ := ih (k + 1) P (.im (.int (k : Int))) (.im (encL l)) y3 fun m hm => h m (List.mem_cons_of_mem _ hm)
      refine ⟨z1, z2, z3, ?_⟩
      simp only [List.map_cons, enF]
      rw [forGo_cons (ρ1 := [P, .im (.int (k : Int)), .im (encL l), x3]) (by simp) e1, e2]
  obtain ⟨y1, y2, y3, e⟩ := key row 0 (.im (.tuple (row.map encL))) .no .no .no hv
  exact ⟨.none, by simp [g_fneedrow, bodyF, i0, e]⟩
end
end LT
/-! # Ev12 -/
namespace LT
open PySem PySem.Spec PyProof.Rows L2 Tm
/-! ## standings -/
/-- all moves by a label -/
def movesL (S : List St) (l : Lb) : List St := S.flatMap fun s => moves s l
def stand (p : Tm) (row : List Lb) : List St := row.foldl movesL [⟨begun p, [], 0⟩]
/-- at each label few standings come -/
def FewFrom : List St → List Lb → Prop
  | _, [] => True
  | S, l :: ls => Few (movesL S l) ∧ FewFrom (movesL S l) ls
/-- what holds of all standings of a plan -/
structure StOk (z : Nat) (s : St) : Prop where
  sz : s.t.sz ≤ z
  dp : s.t.dp ≤ 7
  cm : s.came.length ≤ 4
  cn : s.came.Nodup
  cb : ∀ e ∈ s.came, e < 4
theorem StOk.moves {z : Nat} {s : St} (h : StOk z s) {l : Lb} (hl : vL l = true) : ∀ u ∈ moves s l, StOk z u := by
  intro u hu
  have hs := sz_moves s l u hu
  have hc : u.came = s.came ∨ ∃ e, l = .come e ∧ e ∉ s.came ∧ u.came = addC s.came e := by
    unfold LT.moves at hu
    split at hu
    · cases hu
    · have key : ∀ l', u ∈ ((steps s.came s.t).filter fun u => decide (u.1 = l')).map (fun u => (⟨u.2, s.came, s.gone⟩ : St)) → u.came = s.came := fun l' h => by
        obtain ⟨v, hv, rfl⟩ := List.mem_map.mp h
        rfl
      split at hu
      · split at hu
        · cases hu
        · rename_i e he
          rw [List.mem_singleton.mp hu]; exact .inr ⟨e, rfl, he, rfl⟩
      · rw [List.mem_singleton.mp hu]; exact .inl rfl
      · split at hu
        · rw [List.mem_singleton.mp hu]; exact .inl rfl
        · cases hu
      · exact .inl (key _ hu)
  have hn : u.came.Nodup ∧ ∀ e ∈ u.came, e < 4 := by
    rcases hc with e | ⟨e, rfl, he, e2⟩
    · rw [e]; exact ⟨h.cn, h.cb⟩
    · rw [e2]
      refine ⟨(addC_perm _ _).nodup_iff.mpr ?_, fun x hx => ?_⟩
      · rw [List.nodup_append]
        refine ⟨h.cn, by simp, fun a ha b hb => ?_⟩
        rw [List.mem_singleton.mp hb]
        exact fun z => he (z ▸ ha)
      · rcases mem_addC.mp hx with hx | hx
        · exact h.cb x hx
        · rw [hx]; simpa [vL] using hl
  refine ⟨Nat.le_trans hs.1 h.sz, Nat.le_trans hs.2 h.dp, ?_, hn.1, hn.2⟩
  have := nodup_len' (m := List.range 4) hn.1 fun x hx => List.mem_range.mpr (hn.2 x hx)
  simpa using this
def encRow (row : List Lb) : D := .tuple (row.map encL)
structure SpD (n : Nat) (c : Fns) : Prop extends SpB n c, SpC n c, SpP n c where
  standin : ∀ (p : Tm) (row : List Lb), sz p ≤ 400 → dp p ≤ 7 → (∀ l ∈ row, vL l = true) → FewFrom [⟨Tm.begun p, [], 0⟩] row → 4 * sz p + 4 ≤ n → ∃ L : List St, c .fstandingsin [enc p, encRow row] = some (.list (L.map encSt)) ∧ L.Nodup ∧ ∀ u, u ∈ L ↔ u ∈ stand p row
  standings : ∀ (p : Tm) (row : List Lb), sz p ≤ 400 → dp p ≤ 7 → (∀ l ∈ row, vL l = true) → FewFrom [⟨Tm.begun p, [], 0⟩] row → vP 8 p = true → (leaves p).length ≤ 12 → row.length ≤ 40 → 4 * sz p + 5 ≤ n → ∃ L : List St, c .fstandings [enc p, encRow row] = some (.list (L.map encSt)) ∧ L.Nodup ∧ ∀ u, u ∈ L ↔ u ∈ stand p row
section
variable {n : Nat} {c : Fns}
theorem in_loop (S : SpC n c) {z : Nat} (hz : z ≤ 400) (hn : 4 * z + 3 ≤ n) (p r f : Sl) (l : Lb) : ∀ (L : List St) (acc : List D) (x5 : Sl), x5.isOw = false → (∀ s ∈ L, StOk z s) → acc.length + 400 * L.length ≤ 4000000 →
    ∃ (M : List St) (y5 : Sl), y5.isOw = false ∧ forGo (bdN 5) (sExt 4 (cCall 2 (c .fmovesin) (cCons (cV 5) (cCons (cV 3) cNil)))) (L.map encSt) [p, r, f, .im (encL l), .ow acc, x5] = some (.nx [p, r, f, .im (encL l), .ow (acc ++ M.map encSt), y5]) ∧ ∀ u, u ∈ M ↔ u ∈ movesL L l
  | [], acc, x5, hx, _, _ => ⟨[], x5, hx, by simp [forGo], fun u => by simp [movesL]⟩
  | s :: L, acc, x5, hx, h, ha => by
    have hs := h s List.mem_cons_self
    have h1 := hs.sz
    have h2 := hs.cm
    obtain ⟨M1, e1, l1, m1⟩ := S.moves s l (by omega) (by omega) hs.dp (by omega)
    simp only [List.length_cons] at ha
    obtain ⟨M2, y5, hy, e2, m2⟩ := in_loop S hz hn p r f l L (acc ++ M1.map encSt) (.im (encSt s)) rfl (fun u hu => h u (List.mem_cons_of_mem _ hu)) (by simp; omega)
    refine ⟨M1 ++ M2, y5, hy, ?_, fun u => ?_⟩
    · have zz : acc.length + M1.length ≤ sizeLine := by rw [sizeLine_eq]; omega
      rw [List.map_cons, forGo_cons (ρ1 := [p, r, f, .im (encL l), .ow acc, .im (encSt s)]) (ρ2 := [p, r, f, .im (encL l), .ow (acc ++ M1.map encSt), .im (encSt s)]) (by simp) (by simp [e1, zz]), e2]
      simp
    · rw [List.mem_append, m1, m2]
      simp [movesL]
theorem movesL_congr {L S : List St} (h : ∀ u, u ∈ L ↔ u ∈ S) (l : Lb) : ∀ u, u ∈ movesL L l ↔ u ∈ movesL S l := fun u => by
  simp only [movesL, List.mem_flatMap, h]
def inBody (c : Fns) : FS := (sSeq (sNew 4)
    (sSeq (sFor (itL (cV 2)) (bdN 5) (sExt 4 (cCall 2 (c .fmovesin) (cCons (cV 5) (cCons (cV 3) cNil)))))
    (sFrz 4 (sSet 2 (cB sortSetH (cV 4))))))
theorem row_loop (S : SpC n c) {z : Nat} (hz : z ≤ 400) (hn : 4 * z + 3 ≤ n) (p r : D) : ∀ (row : List Lb) (L S0 : List St) (x3 x5 : Sl) (x4 : Sl), x3.isOw = false → x4.isOw = false → x5.isOw = false → (∀ l ∈ row, vL l = true) → (∀ s ∈ L, StOk z s) → L.length ≤ 4095 → (∀ u, u ∈ L ↔ u ∈ S0) → FewFrom S0 row → L.Nodup →
    ∃ (M : List St) (y3 y4 y5 : Sl), forGo (bdN 3) (inBody c) (row.map encL) [.im p, .im r, .im (.list (L.map encSt)), x3, x4, x5] = some (.nx [.im p, .im r, .im (.list (M.map encSt)), y3, y4, y5]) ∧ M.Nodup ∧ ∀ u, u ∈ M ↔ u ∈ row.foldl movesL S0
  | [], L, S0, x3, x5, x4, _, _, _, _, _, _, hm, _, hn => ⟨L, x3, x4, x5, by simp [forGo], hn, fun u => by simp [hm]⟩
  | l :: row, L, S0, x3, x5, x4, o3, o4, o5, hv, hL, hlen, hm, hf, _ => by
    obtain ⟨M1, y5, y5o, e1, m1⟩ := in_loop S hz hn (.im p) (.im r) (.im (.list (L.map encSt))) l L [] x5 o5 hL (by simp; omega)
    have hok : ∀ s ∈ M1, StOk z s := fun s hs => by
      obtain ⟨s0, h0, h1⟩ := List.mem_flatMap.mp ((m1 s).mp hs)
      exact (hL s0 h0).moves (hv l List.mem_cons_self) s h1
    have m2 : ∀ u, u ∈ M1 ↔ u ∈ movesL S0 l := fun u => (m1 u).trans (movesL_congr hm l u)
    obtain ⟨M2, e2, nd, m3⟩ := sortSt M1 (fun s hs => (hok s hs).dp) (hf.1.sub fun u hu => (m2 u).mp hu)
    have hlen2 : M2.length ≤ 4095 := Nat.le_of_lt_succ (hf.1 M2 nd fun u hu => (m2 u).mp ((m3 u).mp hu))
    obtain ⟨M3, z3, z4, z5, e3, nd4, m4⟩ := row_loop S hz hn p r row M2 (movesL S0 l) (.im (encL l)) y5 (.im (.list (M1.map encSt))) rfl rfl y5o (fun m hmm => hv m (List.mem_cons_of_mem _ hmm)) (fun s hs => hok s ((m3 s).mp hs)) hlen2 (fun u => (m3 u).trans (m2 u)) hf.2 nd
    refine ⟨M3, z3, z4, z5, ?_, nd4, m4⟩
    rw [List.map_cons, forGo_cons (ρ1 := [.im p, .im r, .im (.list (L.map encSt)), .im (encL l), x4, x5]) (ρ2 := [.im p, .im r, .im (.list (M2.map encSt)), .im (encL l), .im (.list (M1.map encSt)), y5]) (by simp) ?_, e3]
    simp at e1
    simp [inBody, o4, o5, e1, e2]
theorem start_ok {p : Tm} {z : Nat} (hz : sz p ≤ z) (hd : dp p ≤ 7) : StOk z ⟨Tm.begun p, [], 0⟩ := ⟨Nat.le_trans (sz_begun p) hz, Nat.le_trans (dp_begun p) hd, by simp, by simp, by simp⟩
theorem ev_standin (S : SpD n c) (p : Tm) (row : List Lb) (hz : sz p ≤ 400) (hd : dp p ≤ 7) (hv : ∀ l ∈ row, vL l = true) (hf : FewFrom [⟨Tm.begun p, [], 0⟩] row) (h : 4 * sz p + 4 ≤ n + 1) :
    ∃ L : List St, bodyF 6 (g_fstandingsin c) [enc p, encRow row] = some (.list (L.map encSt)) ∧ L.Nodup ∧ ∀ u, u ∈ L ↔ u ∈ stand p row := by
  have hb := S.begun p (by omega) (by omega)
  obtain ⟨M, y3, y4, y5, e, ndM, m⟩ := row_loop S.toSpC hz (by omega) (enc p) (encRow row) row [⟨Tm.begun p, [], 0⟩] [⟨Tm.begun p, [], 0⟩] .no .no .no rfl rfl rfl hv (fun s hs => by rw [List.mem_singleton.mp hs]; exact start_ok (Nat.le_refl _) hd) (by simp) (fun u => Iff.rfl) hf (by simp)
  refine ⟨M, ?_, ndM, m⟩
  simp only [inBody, encRow, List.map_cons, List.map_nil, encSt] at e
  simp [encC] at e
  simp [g_fstandingsin, bodyF, hb, chk_ok, encRow, e]
theorem ev_standings (S : SpD n c) (p : Tm) (row : List Lb) (hz : sz p ≤ 400) (hd : dp p ≤ 7) (hv : ∀ l ∈ row, vL l = true) (hf : FewFrom [⟨Tm.begun p, [], 0⟩] row) (vp : vP 8 p = true) (hl : (leaves p).length ≤ 12) (hr : row.length ≤ 40) (h : 4 * sz p + 5 ≤ n + 1) :
    ∃ L : List St, bodyF 2 (g_fstandings c) [enc p, encRow row] = some (.list (L.map encSt)) ∧ L.Nodup ∧ ∀ u, u ∈ L ↔ u ∈ stand p row := by
  obtain ⟨r1, e1⟩ := S.needplan p vp hl (by omega) (by omega)
  obtain ⟨r2, e2⟩ := S.needrow row hr hv (by have := sz_pos p; omega)
  obtain ⟨L, e3, nd, m⟩ := S.standin p row hz hd hv hf (by omega)
  simp only [encRow] at e3
  exact ⟨L, by simp [g_fstandings, bodyF, encRow, e1, e2, e3], nd, m⟩
/-- is_run -/
theorem ev_isrun (S : SpD n c) (p : Tm) (row : List Lb) (hz : sz p ≤ 400) (hd : dp p ≤ 7) (hv : ∀ l ∈ row, vL l = true) (hf : FewFrom [⟨Tm.begun p, [], 0⟩] row) (vp : vP 8 p = true) (hl : (leaves p).length ≤ 12) (hr : row.length ≤ 40) (h : 4 * sz p + 6 ≤ n + 1) :
    bodyF 2 (g_fisrun c) [enc p, encRow row] = some (.bool (!(stand p row).isEmpty)) := by
  obtain ⟨L, e, _, m⟩ := S.standings p row hz hd hv hf vp hl hr (by omega)
  cases L with
  | nil =>
    have : stand p row = [] := List.eq_nil_iff_forall_not_mem.mpr fun u hu => by have := (m u).mpr hu; cases this
    simp [g_fisrun, bodyF, e, chk_ok, this]
  | cons s L =>
    have hs := (m s).mp List.mem_cons_self
    cases hh : stand p row with
    | nil => rw [hh] at hs; cases hs
    | cons a b => simp [g_fisrun, bodyF, e, chk_ok]
/-- is_whole -/
theorem ev_iswhole (S : SpD n c) (p : Tm) (row : List Lb) (hz : sz p ≤ 400) (hd : dp p ≤ 7) (hv : ∀ l ∈ row, vL l = true) (hf : FewFrom [⟨Tm.begun p, [], 0⟩] row) (vp : vP 8 p = true) (hl : (leaves p).length ≤ 12) (hr : row.length ≤ 40) (h : 4 * sz p + 6 ≤ n + 1) :
    bodyF 5 (g_fiswhole c) [enc p, encRow row] = some (.bool ((stand p row).any fun s => s.t.isR)) := by
  obtain ⟨L, e, _, m⟩ := S.standings p row hz hd hv hf vp hl hr (by omega)
  have lc : lcGo (bdT [2, 3, 4]) bYes (cmp2 eqH (cV 2) (cK (.tuple [.str (kS .rest)]))) [.im (enc p), .im (encRow row), .no, .no, .no] (L.map encSt) = some (L.map fun s => .bool s.t.isR) :=
    lc_map (fun s hs => ⟨_, by simp [encSt]; rfl, by simp⟩)
  have an : ∀ L : List St, boolsD (L.map fun s => PyData.bool s.t.isR) = some (L.map fun s => s.t.isR) := fun L => by
    induction L with
    | nil => rfl
    | cons s L ih => simp [boolsD, ih]
  have eq : (L.any fun s => s.t.isR) = (stand p row).any fun s => s.t.isR := by
    rw [Bool.eq_iff_iff]
    simp only [List.any_eq_true, m]
  simp [g_fiswhole, bodyF, e, lc, anyH, an, List.any_map, Function.comp_def, eq]
mutual
theorem leaves_leaf : ∀ t : Tm, ∀ u ∈ leaves t, u = .rest ∨ (∃ w, u = .say w) ∨ ∃ e, u = .wait e
  | .rest, u, h => by simp [leaves] at h; exact .inl h
  | .say w, u, h => by simp [leaves] at h; exact .inr (.inl ⟨w, h⟩)
  | .wait e, u, h => by simp [leaves] at h; exact .inr (.inr ⟨e, h⟩)
  | .thn p ps, u, h => by
    simp only [leaves] at h
    rcases List.mem_append.mp h with h | h
    · exact leaves_leaf p u h
    · exact leavesL_leaf ps u h
  | .both ps, u, h => leavesL_leaf ps u h
  | .first ps, u, h => leavesL_leaf ps u h
  | .within _ p, u, h => leaves_leaf p u h
  | .last p q, u, h => by
    simp only [leaves] at h
    rcases List.mem_append.mp h with h | h
    · exact leaves_leaf p u h
    · exact leaves_leaf q u h
  | .shield p, u, h => leaves_leaf p u h
  | .keep p, u, h => leaves_leaf p u h
theorem leavesL_leaf : ∀ ts : List Tm, ∀ u ∈ leavesL ts, u = .rest ∨ (∃ w, u = .say w) ∨ ∃ e, u = .wait e
  | [], u, h => by simp [leavesL] at h
  | p :: ps, u, h => by
    simp only [leavesL] at h
    rcases List.mem_append.mp h with h | h
    · exact leaves_leaf p u h
    · exact leavesL_leaf ps u h
end
/-- the words of a plan -/
def words (p : Tm) : List Nat := (leaves p).filterMap fun t => match t with
  | .say w => some w
  | _ => none
theorem ev_Lspoken (S : SpP n c) (d : Nat) (p : Tm) (hv : vP d p = true) (h : 4 * sz p + 3 ≤ n + 1) (hz : sz p ≤ 1000) : bodyF 2 (g_fLspoken c) [enc p] = some (.list ((words p).map intD)) := by
  have e := S.Lleaves d p hv (by omega) hz
  have key : ∀ ls : List Tm, (∀ u ∈ ls, u = .rest ∨ (∃ w, u = .say w) ∨ ∃ e, u = .wait e) → lcGo (bdN 1) (cmpB eqH (bin2 atH (cV 1) (cK (.int 0))) (cK (.str (kS .say)))) (bin2 atH (cV 1) (cK (.int 1))) [.im (enc p), .no] (encs ls) = some ((ls.filterMap fun t => match t with
    | .say w => some w
    | _ => none).map intD) := by
    intro ls
    induction ls with
    | nil => intro _; rfl
    | cons t ls ih =>
      intro ht
      have i := ih fun u hu => ht u (List.mem_cons_of_mem _ hu)
      rcases ht t List.mem_cons_self with rfl | ⟨w, rfl⟩ | ⟨w, rfl⟩ <;> simp [encs, lcGo, enc, i, intD]
  simp [g_fLspoken, bodyF, e]
  rw [key _ (leaves_leaf p)]
  rfl
end
end LT
/-! # Ev13 -/
namespace LT
open PySem PySem.Spec PyProof.Rows L2 Tm
/-! ## next_labels, as a function of data -/
def nlGo (c : Fns) : List D → Option (List D)
  | [] => some []
  | s :: ss => match c .flabelsof [s, .list [.int 0, .int 1, .int 2, .int 3]] with
    | some (.list l) => (nlGo c ss).map (l ++ ·)
    | _ => none
def nlOk (ks : List NestedKey) : Bool := sortOk ks && ks.all (fun k => isTupK k && decide (k.depth ≤ 8)) && decide (ks.length ≤ 100000)
def nlF (c : Fns) (ds : List D) : Option D := match ds with
  | [plan, row] => match c .fstandings [plan, row] with
    | some (.list ss) => (nlGo c ss).bind fun ls => (kDs ls).bind fun ks => if nlOk ks = true then some (.tuple (NestedKey.datas (sortK (dedK ks)))) else none
    | _ => none
  | _ => none
/-! ## the first label that is wrong -/
def firstBad (p : Tm) (row : List Lb) : Option Nat := (List.range row.length).find? fun i => (stand p (row.take (i + 1))).isEmpty
theorem FewFrom.take {S : List St} : ∀ {row : List Lb} (i : Nat), FewFrom S row → FewFrom S (row.take i)
  | [], i, _ => by simp [FewFrom]
  | l :: row, 0, _ => by simp [FewFrom]
  | l :: row, i + 1, h => by
    simp only [List.take_succ_cons, FewFrom]
    exact ⟨h.1, FewFrom.take i h.2⟩
theorem cutC {xs : List D} {i : Nat} (h : i < xs.length) : cutL xs none (some ((i : Int) + 1)) = xs.take (i + 1) := by
  have b : HT.sIx xs.length xs.length (some ((i : Int) + 1)) = i + 1 := by
    have := HT.sIx_nat xs.length xs.length (i + 1)
    rw [Nat.min_eq_left (by omega)] at this
    simpa using this
  simp only [cutL, b, HT.sIx_none]
  simp
section
variable {n : Nat} {c : Fns}
theorem ev_firstwrong (S : SpD n c) (p : Tm) (row : List Lb) (hz : sz p ≤ 400) (hd : dp p ≤ 7) (hv : ∀ l ∈ row, vL l = true) (hf : FewFrom [⟨Tm.begun p, [], 0⟩] row) (vp : vP 8 p = true) (hl : (leaves p).length ≤ 12) (hr : row.length ≤ 40) (h : 4 * sz p + 5 ≤ n + 1) :
    bodyF 3 (g_ffirstwrong c) [enc p, encRow row] = some (match firstBad p row with
      | some i => .int (i : Int)
      | none => .none) := by
  obtain ⟨r1, e1⟩ := S.needplan p vp hl (by omega) (by omega)
  obtain ⟨r2, e2⟩ := S.needrow row hr hv (by have := sz_pos p; omega)
  have one : ∀ i, i < row.length → ∀ x : Sl, (sIf (cmpB eqH (cCall 2 (c .fstandingsin) (cCons (cV 0) (cCons (cSl (cV 1) cNo (cPt (bin2 addH (cV 2) (cK (.int 1))))) cNil))) (cLst cNil)) (sRet (cV 2)) sNil) [.im (enc p), .im (encRow row), .im (.int (i : Int))] =
      some (if (stand p (row.take (i + 1))).isEmpty = true then .rt (.int (i : Int)) else .nx [.im (enc p), .im (encRow row), .im (.int (i : Int))]) := by
    intro i hi x
    obtain ⟨L, e, _, m⟩ := S.standin p (row.take (i + 1)) hz hd (fun l hl => hv l (List.mem_of_mem_take hl)) (hf.take _) (by omega)
    have ht : encRow (row.take (i + 1)) = .tuple (cutL (row.map encL) none (some ((i : Int) + 1))) := by
      rw [cutC (by simpa using hi)]
      simp [encRow, List.map_take]
    rw [ht] at e
    cases L with
    | nil =>
      have : stand p (row.take (i + 1)) = [] := List.eq_nil_iff_forall_not_mem.mpr fun u hu => by have := (m u).mpr hu; cases this
      simp [encRow, e, chk_ok, this]
    | cons s L =>
      have hs := (m s).mp List.mem_cons_self
      cases hh : stand p (row.take (i + 1)) with
      | nil => rw [hh] at hs; cases hs
      | cons a b => simp [encRow, e, chk_ok]
  have key : ∀ (is : List Nat) (x : Sl), (∀ i ∈ is, i < row.length) → ∃ y : Sl, (forGo (bdN 2) (sIf (cmpB eqH (cCall 2 (c .fstandingsin) (cCons (cV 0) (cCons (cSl (cV 1) cNo (cPt (bin2 addH (cV 2) (cK (.int 1))))) cNil))) (cLst cNil)) (sRet (cV 2)) sNil) (is.map fun (i : Nat) => PyData.int (0 + (i : Int))) [.im (enc p), .im (encRow row), x] =
      match is.find? fun i => (stand p (row.take (i + 1))).isEmpty with
      | some i => some (.rt (.int (i : Int)))
      | none => some (.nx [.im (enc p), .im (encRow row), y])) := by
    intro is
    induction is with
    | nil => intro x _; exact ⟨x, by simp [forGo]⟩
    | cons i is ih =>
      intro x hi
      have o := one i (hi i List.mem_cons_self) x
      by_cases hb : (stand p (row.take (i + 1))).isEmpty = true
      · rw [if_pos hb] at o
        refine ⟨x, ?_⟩
        rw [List.map_cons, List.find?_cons_of_pos (p := fun i => (stand p (row.take (i + 1))).isEmpty) hb]
        simp only [forGo, ev_bdN, Option.bind_some, Int.zero_add]
        simp only [List.set_cons_succ, List.set_cons_zero]
        rw [o]
        rfl
      · rw [if_neg hb] at o
        obtain ⟨y, e⟩ := ih (.im (.int (i : Int))) fun j hj => hi j (List.mem_cons_of_mem _ hj)
        refine ⟨y, ?_⟩
        rw [List.map_cons, forGo_cons (ρ1 := [.im (enc p), .im (encRow row), .im (.int (i : Int))]) (by simp) o, e]
        rw [List.find?_cons_of_neg (p := fun i => (stand p (row.take (i + 1))).isEmpty) hb]
  obtain ⟨y, k⟩ := key (List.range row.length) .no fun i hi => List.mem_range.mp hi
  have hb2 : (-1000 : Int) ≤ (row.length : Int) ∧ (row.length : Int) ≤ 1000 := by omega
  have it : itR1 (cB lenH (cV 1)) [.im (enc p), .im (encRow row), .no] = some ((List.range row.length).map fun (i : Nat) => PyData.int (0 + (i : Int))) := by
    simp [itR1, encRow, hb2, rangeD]
  have e2' : c .fneedrow [encRow row] = some r2 := e2
  simp [g_ffirstwrong, bodyF, e1, e2', it]
  simp at k
  rw [k]
  unfold firstBad
  cases (List.range row.length).find? fun i => (stand p (row.take (i + 1))).isEmpty <;> simp
theorem ev_nextlabels (S : SpD n c) (p : Tm) (row : List Lb) (hz : sz p ≤ 400) (hd : dp p ≤ 7) (hv : ∀ l ∈ row, vL l = true) (hf : FewFrom [⟨Tm.begun p, [], 0⟩] row) (vp : vP 8 p = true) (hl : (leaves p).length ≤ 12) (hr : row.length ≤ 40) (h : 4 * sz p + 6 ≤ n + 1) (hst : (∀ s ∈ stand p row, sz s.t ≤ sz p)) (hsh : ∀ L : List St, L.Nodup → (∀ u, u ∈ L ↔ u ∈ stand p row) → L.length ≤ 100) :
    ∃ L : List Lb, nlF c [enc p, encRow row] = some (.tuple (L.map encL)) ∧ ∀ l, l ∈ L ↔ ∃ s ∈ stand p row, l ∈ labels s [0, 1, 2, 3] := by
  obtain ⟨L, e, ndL, m⟩ := S.standings p row hz hd hv hf vp hl hr (by omega)
  have key : ∀ ss : List St, (∀ s ∈ ss, sz s.t ≤ sz p) → ∃ M : List Lb, nlGo c (ss.map encSt) = some (M.map encL) ∧ M.length ≤ 412 * ss.length ∧ ∀ l, l ∈ M ↔ ∃ s ∈ ss, l ∈ labels s [0, 1, 2, 3] := by
    intro ss
    induction ss with
    | nil => intro _; exact ⟨[], rfl, by simp, fun l => by simp⟩
    | cons s ss ih =>
      intro hs
      have h1 := hs s List.mem_cons_self
      obtain ⟨A, a1, a2, a3⟩ := S.labels s [0, 1, 2, 3] (by omega) (by omega) (by simp)
      obtain ⟨M, b1, b2, b3⟩ := ih fun u hu => hs u (List.mem_cons_of_mem _ hu)
      have hA := Nat.le_trans (nodup_len' a2 fun u hu => (a3 u).mp hu) (labels_few s [0, 1, 2, 3] (by omega) (by simp))
      refine ⟨A ++ M, ?_, ?_, fun l => ?_⟩
      · have a1' : c .flabelsof [encSt s, .list [.int 0, .int 1, .int 2, .int 3]] = some (.list (A.map encL)) := a1
        simp only [List.map_cons, nlGo, a1', b1]
        simp
      · simp only [List.length_append, List.length_cons]; omega
      · rw [List.mem_append, a3, b3]
        simp
  have hs : ∀ s ∈ L, sz s.t ≤ sz p := fun s h => hst s ((m s).mp h)
  obtain ⟨M, b1, b2, b3⟩ := key L hs
  have hL := hsh L ndL m
  have hmem : ∀ q ∈ sortK (dedK (M.map keyL)), q ∈ M.map keyL := fun q hq => mem_dedK.mp ((sortK_perm _).mem_iff.mp hq)
  obtain ⟨R, r1, r2⟩ := pick_keys hmem
  have ok : nlOk (M.map keyL) = true := by
    simp only [nlOk, Bool.and_eq_true, List.all_eq_true, decide_eq_true_eq]
    refine ⟨⟨sortOk_iff.mpr ⟨fun x hx => ?_, .inr fun x hx => ?_⟩, fun x hx => ?_⟩, by simp; omega⟩
    · obtain ⟨a, ha, rfl⟩ := List.mem_map.mp hx
      refine ⟨by cases a <;> simp [keyL, NestedKey.depth, NestedKey.depthAll], fun y hy => ?_⟩
      obtain ⟨b, hb, rfl⟩ := List.mem_map.mp hy
      exact cmp_L a b
    · obtain ⟨a, ha, rfl⟩ := List.mem_map.mp hx
      cases a <;> rfl
    · obtain ⟨a, ha, rfl⟩ := List.mem_map.mp hx
      cases a <;> exact ⟨rfl, by simp [keyL, NestedKey.depth, NestedKey.depthAll]⟩
  refine ⟨R, ?_, fun l => ?_⟩
  · simp only [nlF, e, b1, Option.bind_some, kDs_map kD_L]
    rw [if_pos ok, ← r1, datas_map kD_L]
  · have e1 : l ∈ R ↔ l ∈ M := by
      refine ⟨r2 l, fun h => ?_⟩
      have : keyL l ∈ R.map keyL := by
        rw [r1]
        exact (sortK_perm _).mem_iff.mpr (mem_dedK.mpr (List.mem_map.mpr ⟨l, h, rfl⟩))
      obtain ⟨b, hb, eb⟩ := List.mem_map.mp this
      rw [← keyL_inj b l eb]
      exact hb
    rw [e1, b3]
    simp only [m]
end
end LT
/-! # Dn -/
namespace LT
open PySem PySem.Spec PyProof.Rows L2
/-! ## the functions, by levels -/
def gF : Fn → Fns → List D → Option D
  | .fisinteger, c => bodyF 1 (g_fisinteger c)
  | .fisin, c => bodyF 3 (g_fisin c)
  | .fislist, c => bodyF 3 (g_fislist c)
  | .fisplan, c => bodyF 6 (g_fisplan c)
  | .fpartsof, c => bodyF 1 (g_fpartsof c)
  | .fleavesin, c => bodyF 3 (g_fleavesin c)
  | .fneedplan, c => bodyF 1 (g_fneedplan c)
  | .fbegun, c => bodyF 3 (g_fbegun c)
  | .fjoined, c => bodyF 2 (g_fjoined c)
  | .fgathered, c => bodyF 3 (g_fgathered c)
  | .fraced, c => bodyF 2 (g_fraced c)
  | .ftimed, c => bodyF 2 (g_ftimed c)
  | .flasted, c => bodyF 2 (g_flasted c)
  | .fkept, c => bodyF 1 (g_fkept c)
  | .fcalledoff, c => bodyF 3 (g_fcalledoff c)
  | .frebuilt, c => bodyF 3 (g_frebuilt c)
  | .fstepsin, c => bodyF 9 (g_fstepsin c)
  | .fticked, c => bodyF 4 (g_fticked c)
  | .fmovesin, c => bodyF 7 (g_fmovesin c)
  | .fneedrow, c => bodyF 4 (g_fneedrow c)
  | .fstandingsin, c => bodyF 6 (g_fstandingsin c)
  | .fstandings, c => bodyF 2 (g_fstandings c)
  | .fisrun, c => bodyF 2 (g_fisrun c)
  | .fiswhole, c => bodyF 5 (g_fiswhole c)
  | .ffirstwrong, c => bodyF 3 (g_ffirstwrong c)
  | .flabelsof, c => bodyF 9 (g_flabelsof c)
  | .fnextlabels, c => nlF c
  | .fLparts, c => bodyF 1 (g_fLparts c)
  | .fLleaves, c => bodyF 3 (g_fLleaves c)
  | .fLall, c => bodyF 3 (g_fLall c)
  | .fLkeep, c => bodyF 1 (g_fLkeep c)
  | .fLjoin, c => bodyF 2 (g_fLjoin c)
  | .fLrace, c => bodyF 2 (g_fLrace c)
  | .fLhold, c => bodyF 2 (g_fLhold c)
  | .fLbegin, c => bodyF 3 (g_fLbegin c)
  | .fLoff, c => bodyF 2 (g_fLoff c)
  | .fLaround, c => bodyF 2 (g_fLaround c)
  | .fLsteps, c => bodyF 7 (g_fLsteps c)
  | .fLtick, c => bodyF 4 (g_fLtick c)
  | .fLnext, c => bodyF 7 (g_fLnext c)
  | .fLlabels, c => bodyF 9 (g_fLlabels c)
  | .fLspoken, c => bodyF 2 (g_fLspoken c)
def den : Nat → Fns
  | 0 => fun _ _ => none
  | n + 1 => fun i => gF i (den n)
/-- the defs stand under their names -/
structure Defs (K : KF) (mg : Str → Option Value) : Prop where
  d_fisinteger : ∃ f fd, FnP K "is_integer" sisinteger f fd ∧ mg "is_integer" = some (.ref f)
  d_fisin : ∃ f fd, FnP K "is_in" sisin f fd ∧ mg "is_in" = some (.ref f)
  d_fislist : ∃ f fd, FnP K "is_list" sislist f fd ∧ mg "is_list" = some (.ref f)
  d_fisplan : ∃ f fd, FnP K "is_plan" sisplan f fd ∧ mg "is_plan" = some (.ref f)
  d_fpartsof : ∃ f fd, FnP K "parts_of" spartsof f fd ∧ mg "parts_of" = some (.ref f)
  d_fleavesin : ∃ f fd, FnP K "leaves_in" sleavesin f fd ∧ mg "leaves_in" = some (.ref f)
  d_fneedplan : ∃ f fd, FnP K "need_plan" sneedplan f fd ∧ mg "need_plan" = some (.ref f)
  d_fbegun : ∃ f fd, FnP K "begun" sbegun f fd ∧ mg "begun" = some (.ref f)
  d_fjoined : ∃ f fd, FnP K "joined" sjoined f fd ∧ mg "joined" = some (.ref f)
  d_fgathered : ∃ f fd, FnP K "gathered" sgathered f fd ∧ mg "gathered" = some (.ref f)
  d_fraced : ∃ f fd, FnP K "raced" sraced f fd ∧ mg "raced" = some (.ref f)
  d_ftimed : ∃ f fd, FnP K "timed" stimed f fd ∧ mg "timed" = some (.ref f)
  d_flasted : ∃ f fd, FnP K "lasted" slasted f fd ∧ mg "lasted" = some (.ref f)
  d_fkept : ∃ f fd, FnP K "kept" skept f fd ∧ mg "kept" = some (.ref f)
  d_fcalledoff : ∃ f fd, FnP K "called_off" scalledoff f fd ∧ mg "called_off" = some (.ref f)
  d_frebuilt : ∃ f fd, FnP K "rebuilt" srebuilt f fd ∧ mg "rebuilt" = some (.ref f)
  d_fstepsin : ∃ f fd, FnP K "steps_in" sstepsin f fd ∧ mg "steps_in" = some (.ref f)
  d_fticked : ∃ f fd, FnP K "ticked" sticked f fd ∧ mg "ticked" = some (.ref f)
  d_fmovesin : ∃ f fd, FnP K "moves_in" smovesin f fd ∧ mg "moves_in" = some (.ref f)
  d_fneedrow : ∃ f fd, FnP K "need_row" sneedrow f fd ∧ mg "need_row" = some (.ref f)
  d_fstandingsin : ∃ f fd, FnP K "standings_in" sstandingsin f fd ∧ mg "standings_in" = some (.ref f)
  d_fstandings : ∃ f fd, FnP K "standings" sstandings f fd ∧ mg "standings" = some (.ref f)
  d_fisrun : ∃ f fd, FnP K "is_run" sisrun f fd ∧ mg "is_run" = some (.ref f)
  d_fiswhole : ∃ f fd, FnP K "is_whole" siswhole f fd ∧ mg "is_whole" = some (.ref f)
  d_ffirstwrong : ∃ f fd, FnP K "first_wrong" sfirstwrong f fd ∧ mg "first_wrong" = some (.ref f)
  d_flabelsof : ∃ f fd, FnP K "labels_of" slabelsof f fd ∧ mg "labels_of" = some (.ref f)
  d_fnextlabels : ∃ f fd, FnP K "next_labels" snextlabels f fd ∧ mg "next_labels" = some (.ref f)
  d_fLparts : ∃ f fd, FnP K "_law_parts" sLparts f fd ∧ mg "_law_parts" = some (.ref f)
  d_fLleaves : ∃ f fd, FnP K "_law_leaves" sLleaves f fd ∧ mg "_law_leaves" = some (.ref f)
  d_fLall : ∃ f fd, FnP K "_law_all" sLall f fd ∧ mg "_law_all" = some (.ref f)
  d_fLkeep : ∃ f fd, FnP K "_law_keep" sLkeep f fd ∧ mg "_law_keep" = some (.ref f)
  d_fLjoin : ∃ f fd, FnP K "_law_join" sLjoin f fd ∧ mg "_law_join" = some (.ref f)
  d_fLrace : ∃ f fd, FnP K "_law_race" sLrace f fd ∧ mg "_law_race" = some (.ref f)
  d_fLhold : ∃ f fd, FnP K "_law_hold" sLhold f fd ∧ mg "_law_hold" = some (.ref f)
  d_fLbegin : ∃ f fd, FnP K "_law_begin" sLbegin f fd ∧ mg "_law_begin" = some (.ref f)
  d_fLoff : ∃ f fd, FnP K "_law_off" sLoff f fd ∧ mg "_law_off" = some (.ref f)
  d_fLaround : ∃ f fd, FnP K "_law_around" sLaround f fd ∧ mg "_law_around" = some (.ref f)
  d_fLsteps : ∃ f fd, FnP K "_law_steps" sLsteps f fd ∧ mg "_law_steps" = some (.ref f)
  d_fLtick : ∃ f fd, FnP K "_law_tick" sLtick f fd ∧ mg "_law_tick" = some (.ref f)
  d_fLnext : ∃ f fd, FnP K "_law_next" sLnext f fd ∧ mg "_law_next" = some (.ref f)
  d_fLlabels : ∃ f fd, FnP K "_law_labels" sLlabels f fd ∧ mg "_law_labels" = some (.ref f)
  d_fLspoken : ∃ f fd, FnP K "_law_spoken" sLspoken f fd ∧ mg "_law_spoken" = some (.ref f)
section
variable {P : Program} {w : World} {K : KF} {mg : Str → Option Value} {base : Heap}
theorem fok_zero {x : Str} {st : Stmt} {f : Addr} {fd : FuncData} {ps : List Str} (F : FnP K x st f fd) (hm : mg x = some (.ref f))
    (hb : ∀ (kV doc pm : Value) (an : Option Addr) (cdv ct : Value) (us : List Value), us.length = ps.length → bindArgs (PySem.W.fnOf x x (defArgs st) (defBody st) (defScope st) .none kV doc pm an cdv ct) ⟨us, []⟩ = pure (ps.zip us)) :
    FokP P w K mg base 0 x ps (fun _ => none) := by
  refine ⟨f, fd, ⟨fun vs H Q E h => ?_, fun A outer s H args us vs Q E _ _ _ _ h => ?_⟩, hm, F.kp, F.bindsN hb⟩
  · obtain ⟨G, ds, d, sg, r, hl, hF, q⟩ := h; cases hF
  · obtain ⟨G, ds, d, sg, r, hl, hF, q⟩ := h; cases hF
theorem fok_den (T : Txt K mg) (Ds : Defs K mg) (hnl : ∀ (n : Nat) (c : Fns), (∀ i, FokP P w K mg base n (Fn.nm i) (Fn.ps i) (c i)) → FokP P w K mg base (n + 1) "next_labels" ["plan", "row"] (nlF c)) : ∀ (n : Nat) (i : Fn), FokP P w K mg base n (Fn.nm i) (Fn.ps i) (den n i)
  | 0, .fisinteger => let ⟨_, _, F, hm⟩ := Ds.d_fisinteger; fok_zero F hm (fun _ _ _ _ _ _ us hl => match us, hl with | [_], _ => rfl)
  | 0, .fisin => let ⟨_, _, F, hm⟩ := Ds.d_fisin; fok_zero F hm (fun _ _ _ _ _ _ us hl => match us, hl with | [_, _, _], _ => rfl)
  | 0, .fislist => let ⟨_, _, F, hm⟩ := Ds.d_fislist; fok_zero F hm (fun _ _ _ _ _ _ us hl => match us, hl with | [_, _, _], _ => rfl)
  | 0, .fisplan => let ⟨_, _, F, hm⟩ := Ds.d_fisplan; fok_zero F hm (fun _ _ _ _ _ _ us hl => match us, hl with | [_, _, _], _ => rfl)
  | 0, .fpartsof => let ⟨_, _, F, hm⟩ := Ds.d_fpartsof; fok_zero F hm (fun _ _ _ _ _ _ us hl => match us, hl with | [_], _ => rfl)
  | 0, .fleavesin => let ⟨_, _, F, hm⟩ := Ds.d_fleavesin; fok_zero F hm (fun _ _ _ _ _ _ us hl => match us, hl with | [_], _ => rfl)
  | 0, .fneedplan => let ⟨_, _, F, hm⟩ := Ds.d_fneedplan; fok_zero F hm (fun _ _ _ _ _ _ us hl => match us, hl with | [_], _ => rfl)
  | 0, .fbegun => let ⟨_, _, F, hm⟩ := Ds.d_fbegun; fok_zero F hm (fun _ _ _ _ _ _ us hl => match us, hl with | [_], _ => rfl)
  | 0, .fjoined => let ⟨_, _, F, hm⟩ := Ds.d_fjoined; fok_zero F hm (fun _ _ _ _ _ _ us hl => match us, hl with | [_, _], _ => rfl)
  | 0, .fgathered => let ⟨_, _, F, hm⟩ := Ds.d_fgathered; fok_zero F hm (fun _ _ _ _ _ _ us hl => match us, hl with | [_], _ => rfl)
  | 0, .fraced => let ⟨_, _, F, hm⟩ := Ds.d_fraced; fok_zero F hm (fun _ _ _ _ _ _ us hl => match us, hl with | [_], _ => rfl)
  | 0, .ftimed => let ⟨_, _, F, hm⟩ := Ds.d_ftimed; fok_zero F hm (fun _ _ _ _ _ _ us hl => match us, hl with | [_, _], _ => rfl)
  | 0, .flasted => let ⟨_, _, F, hm⟩ := Ds.d_flasted; fok_zero F hm (fun _ _ _ _ _ _ us hl => match us, hl with | [_, _], _ => rfl)
  | 0, .fkept => let ⟨_, _, F, hm⟩ := Ds.d_fkept; fok_zero F hm (fun _ _ _ _ _ _ us hl => match us, hl with | [_], _ => rfl)
  | 0, .fcalledoff => let ⟨_, _, F, hm⟩ := Ds.d_fcalledoff; fok_zero F hm (fun _ _ _ _ _ _ us hl => match us, hl with | [_], _ => rfl)
  | 0, .frebuilt => let ⟨_, _, F, hm⟩ := Ds.d_frebuilt; fok_zero F hm (fun _ _ _ _ _ _ us hl => match us, hl with | [_, _], _ => rfl)
  | 0, .fstepsin => let ⟨_, _, F, hm⟩ := Ds.d_fstepsin; fok_zero F hm (fun _ _ _ _ _ _ us hl => match us, hl with | [_, _], _ => rfl)
  | 0, .fticked => let ⟨_, _, F, hm⟩ := Ds.d_fticked; fok_zero F hm (fun _ _ _ _ _ _ us hl => match us, hl with | [_], _ => rfl)
  | 0, .fmovesin => let ⟨_, _, F, hm⟩ := Ds.d_fmovesin; fok_zero F hm (fun _ _ _ _ _ _ us hl => match us, hl with | [_, _], _ => rfl)
  | 0, .fneedrow => let ⟨_, _, F, hm⟩ := Ds.d_fneedrow; fok_zero F hm (fun _ _ _ _ _ _ us hl => match us, hl with | [_], _ => rfl)
  | 0, .fstandingsin => let ⟨_, _, F, hm⟩ := Ds.d_fstandingsin; fok_zero F hm (fun _ _ _ _ _ _ us hl => match us, hl with | [_, _], _ => rfl)
  | 0, .fstandings => let ⟨_, _, F, hm⟩ := Ds.d_fstandings; fok_zero F hm (fun _ _ _ _ _ _ us hl => match us, hl with | [_, _], _ => rfl)
  | 0, .fisrun => let ⟨_, _, F, hm⟩ := Ds.d_fisrun; fok_zero F hm (fun _ _ _ _ _ _ us hl => match us, hl with | [_, _], _ => rfl)
  | 0, .fiswhole => let ⟨_, _, F, hm⟩ := Ds.d_fiswhole; fok_zero F hm (fun _ _ _ _ _ _ us hl => match us, hl with | [_, _], _ => rfl)
  | 0, .ffirstwrong => let ⟨_, _, F, hm⟩ := Ds.d_ffirstwrong; fok_zero F hm (fun _ _ _ _ _ _ us hl => match us, hl with | [_, _], _ => rfl)
  | 0, .flabelsof => let ⟨_, _, F, hm⟩ := Ds.d_flabelsof; fok_zero F hm (fun _ _ _ _ _ _ us hl => match us, hl with | [_, _], _ => rfl)
  | 0, .fnextlabels => let ⟨_, _, F, hm⟩ := Ds.d_fnextlabels; fok_zero F hm (fun _ _ _ _ _ _ us hl => match us, hl with | [_, _], _ => rfl)
  | 0, .fLparts => let ⟨_, _, F, hm⟩ := Ds.d_fLparts; fok_zero F hm (fun _ _ _ _ _ _ us hl => match us, hl with | [_], _ => rfl)
  | 0, .fLleaves => let ⟨_, _, F, hm⟩ := Ds.d_fLleaves; fok_zero F hm (fun _ _ _ _ _ _ us hl => match us, hl with | [_], _ => rfl)
  | 0, .fLall => let ⟨_, _, F, hm⟩ := Ds.d_fLall; fok_zero F hm (fun _ _ _ _ _ _ us hl => match us, hl with | [_], _ => rfl)
  | 0, .fLkeep => let ⟨_, _, F, hm⟩ := Ds.d_fLkeep; fok_zero F hm (fun _ _ _ _ _ _ us hl => match us, hl with | [_], _ => rfl)
  | 0, .fLjoin => let ⟨_, _, F, hm⟩ := Ds.d_fLjoin; fok_zero F hm (fun _ _ _ _ _ _ us hl => match us, hl with | [_, _], _ => rfl)
  | 0, .fLrace => let ⟨_, _, F, hm⟩ := Ds.d_fLrace; fok_zero F hm (fun _ _ _ _ _ _ us hl => match us, hl with | [_], _ => rfl)
  | 0, .fLhold => let ⟨_, _, F, hm⟩ := Ds.d_fLhold; fok_zero F hm (fun _ _ _ _ _ _ us hl => match us, hl with | [_, _], _ => rfl)
  | 0, .fLbegin => let ⟨_, _, F, hm⟩ := Ds.d_fLbegin; fok_zero F hm (fun _ _ _ _ _ _ us hl => match us, hl with | [_], _ => rfl)
  | 0, .fLoff => let ⟨_, _, F, hm⟩ := Ds.d_fLoff; fok_zero F hm (fun _ _ _ _ _ _ us hl => match us, hl with | [_], _ => rfl)
  | 0, .fLaround => let ⟨_, _, F, hm⟩ := Ds.d_fLaround; fok_zero F hm (fun _ _ _ _ _ _ us hl => match us, hl with | [_, _], _ => rfl)
  | 0, .fLsteps => let ⟨_, _, F, hm⟩ := Ds.d_fLsteps; fok_zero F hm (fun _ _ _ _ _ _ us hl => match us, hl with | [_, _], _ => rfl)
  | 0, .fLtick => let ⟨_, _, F, hm⟩ := Ds.d_fLtick; fok_zero F hm (fun _ _ _ _ _ _ us hl => match us, hl with | [_], _ => rfl)
  | 0, .fLnext => let ⟨_, _, F, hm⟩ := Ds.d_fLnext; fok_zero F hm (fun _ _ _ _ _ _ us hl => match us, hl with | [_, _], _ => rfl)
  | 0, .fLlabels => let ⟨_, _, F, hm⟩ := Ds.d_fLlabels; fok_zero F hm (fun _ _ _ _ _ _ us hl => match us, hl with | [_, _], _ => rfl)
  | 0, .fLspoken => let ⟨_, _, F, hm⟩ := Ds.d_fLspoken; fok_zero F hm (fun _ _ _ _ _ _ us hl => match us, hl with | [_], _ => rfl)
  | n + 1, .fisinteger => let ⟨_, _, F, hm⟩ := Ds.d_fisinteger; ok_fisinteger T (fok_den T Ds hnl n) F hm
  | n + 1, .fisin => let ⟨_, _, F, hm⟩ := Ds.d_fisin; ok_fisin T (fok_den T Ds hnl n) F hm
  | n + 1, .fislist => let ⟨_, _, F, hm⟩ := Ds.d_fislist; ok_fislist T (fok_den T Ds hnl n) F hm
  | n + 1, .fisplan => let ⟨_, _, F, hm⟩ := Ds.d_fisplan; ok_fisplan T (fok_den T Ds hnl n) F hm
  | n + 1, .fpartsof => let ⟨_, _, F, hm⟩ := Ds.d_fpartsof; ok_fpartsof T (fok_den T Ds hnl n) F hm
  | n + 1, .fleavesin => let ⟨_, _, F, hm⟩ := Ds.d_fleavesin; ok_fleavesin T (fok_den T Ds hnl n) F hm
  | n + 1, .fneedplan => let ⟨_, _, F, hm⟩ := Ds.d_fneedplan; ok_fneedplan T (fok_den T Ds hnl n) F hm
  | n + 1, .fbegun => let ⟨_, _, F, hm⟩ := Ds.d_fbegun; ok_fbegun T (fok_den T Ds hnl n) F hm
  | n + 1, .fjoined => let ⟨_, _, F, hm⟩ := Ds.d_fjoined; ok_fjoined T (fok_den T Ds hnl n) F hm
  | n + 1, .fgathered => let ⟨_, _, F, hm⟩ := Ds.d_fgathered; ok_fgathered T (fok_den T Ds hnl n) F hm
  | n + 1, .fraced => let ⟨_, _, F, hm⟩ := Ds.d_fraced; ok_fraced T (fok_den T Ds hnl n) F hm
  | n + 1, .ftimed => let ⟨_, _, F, hm⟩ := Ds.d_ftimed; ok_ftimed T (fok_den T Ds hnl n) F hm
  | n + 1, .flasted => let ⟨_, _, F, hm⟩ := Ds.d_flasted; ok_flasted T (fok_den T Ds hnl n) F hm
  | n + 1, .fkept => let ⟨_, _, F, hm⟩ := Ds.d_fkept; ok_fkept T (fok_den T Ds hnl n) F hm
  | n + 1, .fcalledoff => let ⟨_, _, F, hm⟩ := Ds.d_fcalledoff; ok_fcalledoff T (fok_den T Ds hnl n) F hm
  | n + 1, .frebuilt => let ⟨_, _, F, hm⟩ := Ds.d_frebuilt; ok_frebuilt T (fok_den T Ds hnl n) F hm
  | n + 1, .fstepsin => let ⟨_, _, F, hm⟩ := Ds.d_fstepsin; ok_fstepsin T (fok_den T Ds hnl n) F hm
  | n + 1, .fticked => let ⟨_, _, F, hm⟩ := Ds.d_fticked; ok_fticked T (fok_den T Ds hnl n) F hm
  | n + 1, .fmovesin => let ⟨_, _, F, hm⟩ := Ds.d_fmovesin; ok_fmovesin T (fok_den T Ds hnl n) F hm
  | n + 1, .fneedrow => let ⟨_, _, F, hm⟩ := Ds.d_fneedrow; ok_fneedrow T (fok_den T Ds hnl n) F hm
  | n + 1, .fstandingsin => let ⟨_, _, F, hm⟩ := Ds.d_fstandingsin; ok_fstandingsin T (fok_den T Ds hnl n) F hm
  | n + 1, .fstandings => let ⟨_, _, F, hm⟩ := Ds.d_fstandings; ok_fstandings T (fok_den T Ds hnl n) F hm
  | n + 1, .fisrun => let ⟨_, _, F, hm⟩ := Ds.d_fisrun; ok_fisrun T (fok_den T Ds hnl n) F hm
  | n + 1, .fiswhole => let ⟨_, _, F, hm⟩ := Ds.d_fiswhole; ok_fiswhole T (fok_den T Ds hnl n) F hm
  | n + 1, .ffirstwrong => let ⟨_, _, F, hm⟩ := Ds.d_ffirstwrong; ok_ffirstwrong T (fok_den T Ds hnl n) F hm
  | n + 1, .flabelsof => let ⟨_, _, F, hm⟩ := Ds.d_flabelsof; ok_flabelsof T (fok_den T Ds hnl n) F hm
  | n + 1, .fnextlabels => hnl n _ (fok_den T Ds hnl n)
  | n + 1, .fLparts => let ⟨_, _, F, hm⟩ := Ds.d_fLparts; ok_fLparts T (fok_den T Ds hnl n) F hm
  | n + 1, .fLleaves => let ⟨_, _, F, hm⟩ := Ds.d_fLleaves; ok_fLleaves T (fok_den T Ds hnl n) F hm
  | n + 1, .fLall => let ⟨_, _, F, hm⟩ := Ds.d_fLall; ok_fLall T (fok_den T Ds hnl n) F hm
  | n + 1, .fLkeep => let ⟨_, _, F, hm⟩ := Ds.d_fLkeep; ok_fLkeep T (fok_den T Ds hnl n) F hm
  | n + 1, .fLjoin => let ⟨_, _, F, hm⟩ := Ds.d_fLjoin; ok_fLjoin T (fok_den T Ds hnl n) F hm
  | n + 1, .fLrace => let ⟨_, _, F, hm⟩ := Ds.d_fLrace; ok_fLrace T (fok_den T Ds hnl n) F hm
  | n + 1, .fLhold => let ⟨_, _, F, hm⟩ := Ds.d_fLhold; ok_fLhold T (fok_den T Ds hnl n) F hm
  | n + 1, .fLbegin => let ⟨_, _, F, hm⟩ := Ds.d_fLbegin; ok_fLbegin T (fok_den T Ds hnl n) F hm
  | n + 1, .fLoff => let ⟨_, _, F, hm⟩ := Ds.d_fLoff; ok_fLoff T (fok_den T Ds hnl n) F hm
  | n + 1, .fLaround => let ⟨_, _, F, hm⟩ := Ds.d_fLaround; ok_fLaround T (fok_den T Ds hnl n) F hm
  | n + 1, .fLsteps => let ⟨_, _, F, hm⟩ := Ds.d_fLsteps; ok_fLsteps T (fok_den T Ds hnl n) F hm
  | n + 1, .fLtick => let ⟨_, _, F, hm⟩ := Ds.d_fLtick; ok_fLtick T (fok_den T Ds hnl n) F hm
  | n + 1, .fLnext => let ⟨_, _, F, hm⟩ := Ds.d_fLnext; ok_fLnext T (fok_den T Ds hnl n) F hm
  | n + 1, .fLlabels => let ⟨_, _, F, hm⟩ := Ds.d_fLlabels; ok_fLlabels T (fok_den T Ds hnl n) F hm
  | n + 1, .fLspoken => let ⟨_, _, F, hm⟩ := Ds.d_fLspoken; ok_fLspoken T (fok_den T Ds hnl n) F hm
end
end LT
/-! # Ev14 -/
namespace LT
open PySem PySem.Spec PyProof.Rows L2 Tm
/-- what a plan must be for standings to answer -/
structure PlOk (p : Tm) (row : List Lb) : Prop where
  sz : sz p ≤ 400
  dp : dp p ≤ 7
  vp : vP 8 p = true
  lv : (leaves p).length ≤ 12
  vl : ∀ l ∈ row, vL l = true
  ln : row.length ≤ 40
  few : FewFrom [⟨Tm.begun p, [], 0⟩] row
structure SpE (n : Nat) (c : Fns) : Prop extends SpD n c, SpM n c where
  isrun : ∀ p row, PlOk p row → 4 * sz p + 6 ≤ n → c .fisrun [enc p, encRow row] = some (.bool (!(stand p row).isEmpty))
  iswhole : ∀ p row, PlOk p row → 4 * sz p + 6 ≤ n → c .fiswhole [enc p, encRow row] = some (.bool ((stand p row).any fun s => s.t.isR))
  firstwrong : ∀ p row, PlOk p row → 4 * sz p + 6 ≤ n → c .ffirstwrong [enc p, encRow row] = some (match firstBad p row with
      | some i => .int (i : Int)
      | none => .none)
  nextlabels : ∀ p row, PlOk p row → 4 * sz p + 6 ≤ n → (∀ s ∈ stand p row, Tm.sz s.t ≤ Tm.sz p) → (∀ L : List St, L.Nodup → (∀ u, u ∈ L ↔ u ∈ stand p row) → L.length ≤ 100) → ∃ L : List Lb, c .fnextlabels [enc p, encRow row] = some (.tuple (L.map encL)) ∧ ∀ l, l ∈ L ↔ ∃ s ∈ stand p row, l ∈ LT.labels s [0, 1, 2, 3]
  Lspoken : ∀ (d : Nat) p, vP d p = true → 4 * Tm.sz p + 3 ≤ n → Tm.sz p ≤ 1000 → c .fLspoken [enc p] = some (.list ((words p).map intD))
theorem sp_zero (c : Fns) : SpE 0 c where
  gathered := by intros; omega
  timed := by intros; omega
  kept := by intros; omega
  begun := by intros; omega
  joined := by intros; omega
  raced := by intros; omega
  lasted := by intros; omega
  off := by intros; omega
  rebuilt := by intros; omega
  steps := by intros; omega
  tick := by intros; omega
  moves := by intros; omega
  labels := by intros; omega
  Lnext := by intros; omega
  Llabels := by intros; omega
  isint := by intros; omega
  isin := by intros; omega
  islist := by intros; omega
  isplan := by intros; omega
  partsof := by intros; omega
  leavesin := by intros; omega
  needplan := by intros; omega
  needrow := by intros; omega
  Lparts := by intros; omega
  Lleaves := by intros; omega
  standin := by intros; omega
  standings := by intros; omega
  Lall := by intros; omega
  Lkeep := by intros; omega
  Ljoin := by intros; omega
  Lrace := by intros; omega
  LholdW := by intros; omega
  LholdL := by intros; omega
  LholdS := by intros; omega
  Lbegin := by intros; omega
  Loff := by intros; omega
  Laround := by intros; omega
  Lsteps := by intros; omega
  Ltick := by intros; omega
  isrun := by intros; omega
  iswhole := by intros; omega
  firstwrong := by intros; omega
  nextlabels := by intros; omega
  Lspoken := by intros; omega
theorem sp_succ {n : Nat} {c : Fns} (S : SpE n c) : SpE (n + 1) (fun i => gF i c) where
  gathered := fun ts _ hz => ev_gathered ts hz
  timed := fun k t _ => ev_timed k t
  kept := fun t _ => ev_kept t
  begun := fun p h hz => ev_begun S.toSpA p h hz
  joined := fun t ps h hz => ev_joined S.toSpA t ps h hz
  raced := fun ts h hz => ev_raced S.toSpA ts h hz
  lasted := fun t p h hz => ev_lasted S.toSpA t p h hz
  off := fun t h hz => ev_off S.toSpA t h hz
  rebuilt := fun t p a b e f g h hz => ev_rebuilt S.toSpA t p a b e f g h hz
  steps := fun t came h hz => ev_steps S.toSpB t came h hz
  tick := fun t h hz => ev_tick S.toSpB t h hz
  moves := fun s l h hz hd hc => ev_moves S.toSpB s l h hz hd hc
  labels := fun s evs h hz he => ev_labels S.toSpB s evs h hz he
  Lnext := fun s l ok hg h hz hd hc => ev_Lnext S.toSpM s l ok hg h hz hd hc
  Llabels := fun s evs ok hg h hz he => ev_Llabels S.toSpM s evs ok hg h hz he
  isint := fun i _ => ev_isint (c := c) i
  isin := fun i a b h h1 h2 => ev_isin S.toSpP i a b (by omega) h1 h2
  islist := fun xs a b _ h1 h2 => ev_islist xs a b h1 h2
  isplan := fun d p hv h => ev_isplan S.toSpP d p hv h
  partsof := fun p _ hz => ev_parts p hz
  leavesin := fun d p hv h hz => ev_leaves S.toSpP d p hv h hz
  needplan := fun p hv hl h hz => ev_needplan S.toSpP p hv hl h hz
  needrow := fun row hl hv h => ev_needrow S.toSpP row hl hv (by omega)
  Lparts := fun p _ hz => ev_Lparts p hz
  Lleaves := fun d p hv h hz => ev_Lleaves S.toSpP d p hv h hz
  standin := fun p row hz hd hv hf h => ev_standin S.toSpD p row hz hd hv hf h
  standings := fun p row hz hd hv hf vp hl hr h => ev_standings S.toSpD p row hz hd hv hf vp hl hr h
  Lall := fun ts _ hz => ev_Lall ts hz
  Lkeep := fun t _ => ev_Lkeep t
  Ljoin := fun t ps ok h hz => ev_Ljoin S.toSpL t ps ok h hz
  Lrace := fun ts ok h hz => ev_Lrace S.toSpL ts ok h hz
  LholdW := fun k t _ => ev_LholdW k t
  LholdL := fun p t ok h hz => ev_LholdL S.toSpL p t ok h hz
  LholdS := fun t h => ev_LholdS S.toSpL t (by omega)
  Lbegin := fun p ok h hz => ev_Lbegin S.toSpL p ok h hz
  Loff := fun t ok h hz => ev_Loff S.toSpL t ok h hz
  Laround := fun t p ok a b e f g h hz => ev_Laround S.toSpL t p ok a b e f g h hz
  Lsteps := fun t came ok h hz => ev_Lsteps S.toSpM t came ok h hz
  Ltick := fun t ok h hz => ev_Ltick S.toSpM t ok h hz
  isrun := fun p row o h => ev_isrun S.toSpD p row o.sz o.dp o.vl o.few o.vp o.lv o.ln h
  iswhole := fun p row o h => ev_iswhole S.toSpD p row o.sz o.dp o.vl o.few o.vp o.lv o.ln h
  firstwrong := fun p row o h => ev_firstwrong S.toSpD p row o.sz o.dp o.vl o.few o.vp o.lv o.ln (by omega)
  nextlabels := fun p row o h a b => ev_nextlabels S.toSpD p row o.sz o.dp o.vl o.few o.vp o.lv o.ln h a b
  Lspoken := fun d p hv h hz => ev_Lspoken S.toSpP d p hv h hz
theorem sp_den : ∀ n, SpE n (den n)
  | 0 => sp_zero _
  | n + 1 => sp_succ (sp_den n)
end LT
/-! # Ct1 -/
namespace LT
namespace Tm
/-! ## the states that a plan may come to -/
def prodL : List (List Tm) → List (List Tm)
  | [] => [[]]
  | A :: As => A.flatMap fun a => (prodL As).map (a :: ·)
def in2 : List Tm → List (List Tm) → Prop
  | [], [] => True
  | x :: xs, A :: As => x ∈ A ∧ in2 xs As
  | _, _ => False
theorem mem_prodL : ∀ {As : List (List Tm)} {xs : List Tm}, xs ∈ prodL As ↔ in2 xs As
  | [], [] => by simp [prodL, in2]
  | [], x :: xs => by simp [prodL, in2]
  | A :: As, [] => by simp [prodL, in2]
  | A :: As, x :: xs => by
    simp only [prodL, List.mem_flatMap, List.mem_map, in2, ← mem_prodL]
    constructor
    · rintro ⟨a, ha, ys, hy, e⟩
      obtain ⟨rfl, rfl⟩ := List.cons.inj e
      exact ⟨ha, hy⟩
    · rintro ⟨ha, hy⟩
      exact ⟨x, ha, xs, hy, rfl⟩
mutual
/-- its states but for rest; m: the ticks since it began, where they're known -/
def G : Tm → Option Nat → List Tm
  | rest, _ => []
  | say w, _ => [say w]
  | wait e, _ => [wait e]
  | thn p ps, m => (G p m).map (joinB ps) ++ GS ps
  | both ps, m => (prodL (GL ps m)).tail.map gath
  | first ps, m => (prodL (GN ps m)).map first ++ (prodL (GOL ps)).tail.map gath
  | within n p, some k => if k < n then (G p (some k)).map (within (n - k)) else GO p
  | within n p, none => (List.range n).flatMap (fun j => (G p none).map (within (j + 1))) ++ GO p
  | last p q, m => (G p m).map (fun x => last x q) ++ (G q none).map kept
  | shield p, m => (G p m).map kept
  | keep p, m => (G p m).map kept
def GS : List Tm → List Tm
  | [] => []
  | q :: qs => (G q none).map (joinB qs) ++ GS qs
def GL : List Tm → Option Nat → List (List Tm)
  | [], _ => []
  | p :: ps, m => (rest :: G p m) :: GL ps m
def GN : List Tm → Option Nat → List (List Tm)
  | [], _ => []
  | p :: ps, m => G p m :: GN ps m
/-- its states behind a calling off, but for rest -/
def GO : Tm → List Tm
  | rest => []
  | say _ => []
  | wait _ => []
  | thn p ps => GO p ++ GOS ps
  | both ps => (prodL (GOL ps)).tail.map gath
  | first ps => (prodL (GOL ps)).tail.map gath
  | within _ p => GO p
  | last p q => (GO p).map (fun x => last x q) ++ (G q none).map kept
  | shield p => (G p none).map kept
  | keep p => (G p none).map kept
def GOL : List Tm → List (List Tm)
  | [] => []
  | p :: ps => (rest :: GO p) :: GOL ps
def GOS : List Tm → List Tm
  | [] => []
  | q :: qs => GO q ++ GOS qs
end
def SG (p : Tm) (m : Option Nat) (x : Tm) : Prop := x = rest ∨ x ∈ G p m
def SO (p x : Tm) : Prop := x = rest ∨ x ∈ GO p
def allR (n : Nat) : List Tm := List.replicate n rest
theorem prod_head : ∀ {As : List (List Tm)}, (∀ A ∈ As, ∃ T, A = rest :: T) → ∃ T, prodL As = allR As.length :: T
  | [], _ => ⟨[], rfl⟩
  | A :: As, h => by
    obtain ⟨T, e1⟩ := h A List.mem_cons_self
    obtain ⟨T2, e2⟩ := prod_head (As := As) fun B hB => h B (List.mem_cons_of_mem _ hB)
    refine ⟨T2.map (rest :: ·) ++ T.flatMap fun a => (prodL As).map (a :: ·), ?_⟩
    rw [e1]
    simp only [prodL, List.flatMap_cons]
    rw [e2]
    rfl
theorem gath_allR : ∀ n, gath (allR n) = rest
  | 0 => rfl
  | n + 1 => by
    have := gath_allR n
    unfold gath allR at *
    rw [List.replicate_succ, List.filter_cons_of_neg (by simp [isR])]
    exact this
theorem gl_heads : ∀ (ps : List Tm) (m : Option Nat), ∀ A ∈ GL ps m, ∃ T, A = rest :: T
  | [], _, A, h => by simp [GL] at h
  | p :: ps, m, A, h => by
    simp only [GL] at h
    rcases List.mem_cons.mp h with e | h
    · exact ⟨_, e⟩
    · exact gl_heads ps m A h
theorem gol_heads : ∀ (ps : List Tm), ∀ A ∈ GOL ps, ∃ T, A = rest :: T
  | [], A, h => by simp [GOL] at h
  | p :: ps, A, h => by
    simp only [GOL] at h
    rcases List.mem_cons.mp h with e | h
    · exact ⟨_, e⟩
    · exact gol_heads ps A h
/-- what is gathered from such rows -/
theorem tail_iff {As : List (List Tm)} (h : ∀ A ∈ As, ∃ T, A = rest :: T) (x : Tm) : (x = rest ∨ x ∈ (prodL As).tail.map gath) ↔ ∃ xs, in2 xs As ∧ x = gath xs := by
  obtain ⟨T, e⟩ := prod_head h
  constructor
  · rintro (rfl | hx)
    · exact ⟨allR As.length, mem_prodL.mp (by rw [e]; exact List.mem_cons_self), (gath_allR _).symm⟩
    · obtain ⟨xs, h1, rfl⟩ := List.mem_map.mp hx
      exact ⟨xs, mem_prodL.mp (List.mem_of_mem_tail h1), rfl⟩
  · rintro ⟨xs, h1, rfl⟩
    have h2 := mem_prodL.mpr h1
    rw [e] at h2 ⊢
    rcases List.mem_cons.mp h2 with e2 | h2
    · left; rw [e2]; exact gath_allR _
    · right; exact List.mem_map.mpr ⟨xs, h2, rfl⟩
theorem SG_both {ps : List Tm} {m : Option Nat} {x : Tm} : SG (both ps) m x ↔ ∃ xs, in2 xs (GL ps m) ∧ x = gath xs := by
  unfold SG
  simp only [G]
  exact tail_iff (gl_heads ps m) x
theorem SO_both {ps : List Tm} {x : Tm} : SO (both ps) x ↔ ∃ xs, in2 xs (GOL ps) ∧ x = gath xs := by
  unfold SO
  simp only [GO]
  exact tail_iff (gol_heads ps) x
theorem SO_first {ps : List Tm} {x : Tm} : SO (first ps) x ↔ ∃ xs, in2 xs (GOL ps) ∧ x = gath xs := by
  unfold SO
  simp only [GO]
  exact tail_iff (gol_heads ps) x
theorem SG_first {ps : List Tm} {m : Option Nat} {x : Tm} : SG (first ps) m x ↔ (∃ xs, in2 xs (GN ps m) ∧ x = first xs) ∨ ∃ xs, in2 xs (GOL ps) ∧ x = gath xs := by
  unfold SG
  simp only [G, List.mem_append]
  rw [← tail_iff (gol_heads ps) x]
  constructor
  · rintro (h | h | h)
    · exact .inr (.inl h)
    · obtain ⟨xs, h1, rfl⟩ := List.mem_map.mp h
      exact .inl ⟨xs, mem_prodL.mp h1, rfl⟩
    · exact .inr (.inr h)
  · rintro (⟨xs, h1, rfl⟩ | h | h)
    · exact .inr (.inl (List.mem_map.mpr ⟨xs, mem_prodL.mpr h1, rfl⟩))
    · exact .inl h
    · exact .inr (.inr h)
/-! ## gathered terms: steps, ticks -/
theorem stepsL_filter (came : List Nat) : ∀ (xs : List Tm) (l : Lb) (ys : List Tm), (l, ys) ∈ stepsL came (xs.filter fun t => !t.isR) → ∃ zs, (l, zs) ∈ stepsL came xs ∧ zs.filter (fun t => !t.isR) = ys.filter fun t => !t.isR
  | [], l, ys, h => by simp [stepsL] at h
  | x :: xs, l, ys, h => by
    by_cases hr : x.isR = true
    · have e := isR_iff.mp hr
      subst e
      rw [List.filter_cons_of_neg (by simp [isR])] at h
      obtain ⟨zs, h1, h2⟩ := stepsL_filter came xs l ys h
      refine ⟨rest :: zs, ?_, by rw [List.filter_cons_of_neg (by simp [isR])]; exact h2⟩
      simp only [stepsL]
      exact List.mem_append_right _ (List.mem_map.mpr ⟨(l, zs), h1, rfl⟩)
    · have hr' : x.isR = false := by simpa using hr
      rw [List.filter_cons_of_pos (by simp [hr'])] at h
      simp only [stepsL] at h
      rcases List.mem_append.mp h with h | h
      · obtain ⟨u, hu, e⟩ := List.mem_map.mp h
        obtain ⟨rfl, rfl⟩ := Prod.mk.inj e
        refine ⟨u.2 :: xs, ?_, by simp [List.filter_cons, List.filter_filter]⟩
        simp only [stepsL]
        exact List.mem_append_left _ (List.mem_map.mpr ⟨u, hu, rfl⟩)
      · obtain ⟨u, hu, e⟩ := List.mem_map.mp h
        obtain ⟨rfl, rfl⟩ := Prod.mk.inj e
        obtain ⟨zs, h1, h2⟩ := stepsL_filter came xs u.1 u.2 hu
        refine ⟨x :: zs, ?_, by simp only [List.filter_cons, h2]⟩
        simp only [stepsL]
        exact List.mem_append_right _ (List.mem_map.mpr ⟨(u.1, zs), h1, rfl⟩)
theorem steps_gath {came : List Nat} {xs : List Tm} {l : Lb} {u : Tm} (h : (l, u) ∈ steps came (gath xs)) : ∃ ys, (l, ys) ∈ stepsL came xs ∧ u = gath ys := by
  rcases gath_cases xs with ⟨h1, h2⟩ | ⟨t, h0, h1, h2⟩ | ⟨a, b, r, h1, h2⟩
  · rw [h1] at h; simp [steps] at h
  · rw [h1] at h
    have : (l, [u]) ∈ stepsL came (xs.filter fun t => !t.isR) := by
      rw [h2]
      simp only [stepsL]
      exact List.mem_append_left _ (List.mem_map.mpr ⟨(l, u), h, rfl⟩)
    obtain ⟨zs, z1, z2⟩ := stepsL_filter came xs l [u] this
    exact ⟨zs, z1, by rw [gath_congr z2, gath_one]⟩
  · rw [h1] at h
    simp only [steps] at h
    obtain ⟨v, hv, e⟩ := List.mem_map.mp h
    obtain ⟨rfl, rfl⟩ := Prod.mk.inj e
    rw [← h2] at hv
    obtain ⟨zs, z1, z2⟩ := stepsL_filter came xs v.1 v.2 hv
    exact ⟨zs, z1, (gath_congr z2).symm⟩
theorem tickL_filter {ts : List Tm} : (tickL (ts.filter fun t => !t.isR)).filter (fun t => !t.isR) = (tickL ts).filter fun t => !t.isR := by
  induction ts with
  | nil => rfl
  | cons t ts ih =>
    cases h : t.isR with
    | true =>
      rw [isR_iff.mp h]
      simpa [tickL, tick, isR] using ih
    | false => simp only [List.filter_cons, h, Bool.not_false, if_true, tickL, ih]
theorem tick_gath (ts : List Tm) : tick (gath ts) = gath (tickL ts) := by
  have e : gath (tickL ts) = gath (tickL (ts.filter fun t => !t.isR)) := gath_congr tickL_filter.symm
  rw [e]
  rcases gath_cases ts with ⟨h1, h2⟩ | ⟨t, h0, h1, h2⟩ | ⟨a, b, l, h1, h2⟩
  · rw [h1, h2]; rfl
  · rw [h1, h2]; simp only [tickL]; rw [gath_one]
  · rw [h1, h2]; rfl
theorem steps_kept {came : List Nat} {y : Tm} {l : Lb} {u : Tm} (h : (l, u) ∈ steps came (kept y)) : ∃ v, (l, v) ∈ steps came y ∧ u = kept v := by
  have gen : ∀ y : Tm, (l, u) ∈ steps came (keep y) → ∃ v, (l, v) ∈ steps came y ∧ u = kept v := fun y h => by
    simp only [steps] at h
    obtain ⟨v, hv, e⟩ := List.mem_map.mp h
    obtain ⟨rfl, rfl⟩ := Prod.mk.inj e
    exact ⟨v.2, hv, rfl⟩
  cases y with
  | rest => simp [kept, steps] at h
  | keep z =>
    obtain ⟨v, hv, rfl⟩ := gen z h
    refine ⟨kept v, ?_, (kept_kept v).symm⟩
    simp only [steps]
    exact List.mem_map.mpr ⟨(l, v), hv, rfl⟩
  | _ => exact gen _ h
theorem tick_kept (y : Tm) : tick (kept y) = kept (tick y) := by
  cases y with
  | keep z => show kept (tick z) = kept (kept (tick z)); rw [kept_kept]
  | _ => rfl
theorem steps_timed {came : List Nat} {n : Nat} {y : Tm} {l : Lb} {u : Tm} (h : (l, u) ∈ steps came (timed n y)) : ∃ v, (l, v) ∈ steps came y ∧ u = timed n v := by
  unfold timed at h
  split at h
  · simp [steps] at h
  · simp only [steps] at h
    obtain ⟨v, hv, e⟩ := List.mem_map.mp h
    obtain ⟨rfl, rfl⟩ := Prod.mk.inj e
    exact ⟨v.2, hv, rfl⟩
end Tm
end LT
/-! # Ct2 -/
namespace LT
namespace Tm
/-! ## the states are not rest -/
theorem gath_nr {xs : List Tm} (h : xs.all isR = false) : (gath xs).isR = false := by
  rcases gath_cases xs with ⟨_, h2⟩ | ⟨t, h0, h1, _⟩ | ⟨a, b, l, h1, _⟩
  · exfalso
    obtain ⟨x, hx, hr⟩ := List.all_eq_false.mp h
    have : x ∈ xs.filter fun t => !t.isR := List.mem_filter.mpr ⟨hx, by simpa using hr⟩
    rw [h2] at this
    cases this
  · rw [h1]; exact h0
  · rw [h1]; rfl
theorem tail_nr : ∀ {As : List (List Tm)}, (∀ A ∈ As, ∃ T, A = rest :: T ∧ ∀ t ∈ T, t.isR = false) → ∀ xs ∈ (prodL As).tail, xs.all isR = false
  | [], _, xs, h => by simp [prodL] at h
  | A :: As, hA, xs, h => by
    obtain ⟨T, e1, hT⟩ := hA A List.mem_cons_self
    have hAs : ∀ B ∈ As, ∃ T, B = rest :: T ∧ ∀ t ∈ T, t.isR = false := fun B hB => hA B (List.mem_cons_of_mem _ hB)
    obtain ⟨T2, e2⟩ := prod_head (As := As) fun B hB => let ⟨T, a, _⟩ := hAs B hB; ⟨T, a⟩
    have ih := tail_nr hAs
    rw [e1] at h
    simp only [prodL, List.flatMap_cons] at h
    rw [e2] at h ih
    simp only [List.map_cons, List.cons_append, List.tail_cons] at h ih
    rcases List.mem_append.mp h with h | h
    · obtain ⟨ys, hy, rfl⟩ := List.mem_map.mp h
      have := ih ys hy
      simp [this]
    · obtain ⟨t, ht, h⟩ := List.mem_flatMap.mp h
      have hr := hT t ht
      rcases List.mem_cons.mp h with e | h
      · rw [e]; simp [hr]
      · obtain ⟨ys, hy, rfl⟩ := List.mem_map.mp h
        simp [hr]
theorem join_nr {ps : List Tm} {x : Tm} (h : x.isR = false) : (joinB ps x).isR = false := by
  cases ps with
  | nil => exact h
  | cons q qs => simp only [joinB]; rw [if_neg (by rw [h]; simp)]; rfl
theorem kept_nr {x : Tm} (h : x.isR = false) : (kept x).isR = false := by cases x <;> simp_all [kept, isR]
mutual
theorem nrG : ∀ (p : Tm) (m : Option Nat), ∀ x ∈ G p m, x.isR = false
  | rest, m, x, h => by simp [G] at h
  | say w, m, x, h => by simp [G] at h; rw [h]; rfl
  | wait w, m, x, h => by simp [G] at h; rw [h]; rfl
  | thn p ps, m, x, h => by
    simp only [G] at h
    rcases List.mem_append.mp h with h | h
    · obtain ⟨y, hy, rfl⟩ := List.mem_map.mp h
      exact join_nr (nrG p m y hy)
    · exact nrS ps x h
  | both ps, m, x, h => by
    simp only [G] at h
    obtain ⟨xs, hx, rfl⟩ := List.mem_map.mp h
    exact gath_nr (tail_nr (nrL ps m) xs hx)
  | first ps, m, x, h => by
    simp only [G] at h
    rcases List.mem_append.mp h with h | h
    · obtain ⟨y, hy, rfl⟩ := List.mem_map.mp h
      rfl
    · obtain ⟨xs, hx, rfl⟩ := List.mem_map.mp h
      exact gath_nr (tail_nr (nrOL ps) xs hx)
  | within n p, some k, x, h => by
    simp only [G] at h
    split at h
    · obtain ⟨y, hy, rfl⟩ := List.mem_map.mp h
      rfl
    · exact nrO p x h
  | within n p, none, x, h => by
    simp only [G] at h
    rcases List.mem_append.mp h with h | h
    · obtain ⟨j, _, h⟩ := List.mem_flatMap.mp h
      obtain ⟨y, hy, rfl⟩ := List.mem_map.mp h
      rfl
    · exact nrO p x h
  | last p q, m, x, h => by
    simp only [G] at h
    rcases List.mem_append.mp h with h | h
    · obtain ⟨y, hy, rfl⟩ := List.mem_map.mp h
      rfl
    · obtain ⟨y, hy, rfl⟩ := List.mem_map.mp h
      exact kept_nr (nrG q none y hy)
  | shield p, m, x, h => by
    simp only [G] at h
    obtain ⟨y, hy, rfl⟩ := List.mem_map.mp h
    exact kept_nr (nrG p m y hy)
  | keep p, m, x, h => by
    simp only [G] at h
    obtain ⟨y, hy, rfl⟩ := List.mem_map.mp h
    exact kept_nr (nrG p m y hy)
theorem nrS : ∀ (ps : List Tm), ∀ x ∈ GS ps, x.isR = false
  | [], x, h => by simp [GS] at h
  | q :: qs, x, h => by
    simp only [GS] at h
    rcases List.mem_append.mp h with h | h
    · obtain ⟨y, hy, rfl⟩ := List.mem_map.mp h
      exact join_nr (nrG q none y hy)
    · exact nrS qs x h
theorem nrL : ∀ (ps : List Tm) (m : Option Nat), ∀ A ∈ GL ps m, ∃ T, A = rest :: T ∧ ∀ t ∈ T, t.isR = false
  | [], m, A, h => by simp [GL] at h
  | p :: ps, m, A, h => by
    simp only [GL] at h
    rcases List.mem_cons.mp h with e | h
    · exact ⟨_, e, nrG p m⟩
    · exact nrL ps m A h
theorem nrO : ∀ (p : Tm), ∀ x ∈ GO p, x.isR = false
  | rest, x, h => by simp [GO] at h
  | say w, x, h => by simp [GO] at h
  | wait w, x, h => by simp [GO] at h
  | thn p ps, x, h => by
    simp only [GO] at h
    rcases List.mem_append.mp h with h | h
    · exact nrO p x h
    · exact nrOS ps x h
  | both ps, x, h => by
    simp only [GO] at h
    obtain ⟨xs, hx, rfl⟩ := List.mem_map.mp h
    exact gath_nr (tail_nr (nrOL ps) xs hx)
  | first ps, x, h => by
    simp only [GO] at h
    obtain ⟨xs, hx, rfl⟩ := List.mem_map.mp h
    exact gath_nr (tail_nr (nrOL ps) xs hx)
  | within n p, x, h => by
    simp only [GO] at h
    exact nrO p x h
  | last p q, x, h => by
    simp only [GO] at h
    rcases List.mem_append.mp h with h | h
    · obtain ⟨y, hy, rfl⟩ := List.mem_map.mp h
      rfl
    · obtain ⟨y, hy, rfl⟩ := List.mem_map.mp h
      exact kept_nr (nrG q none y hy)
  | shield p, x, h => by
    simp only [GO] at h
    obtain ⟨y, hy, rfl⟩ := List.mem_map.mp h
    exact kept_nr (nrG p none y hy)
  | keep p, x, h => by
    simp only [GO] at h
    obtain ⟨y, hy, rfl⟩ := List.mem_map.mp h
    exact kept_nr (nrG p none y hy)
theorem nrOL : ∀ (ps : List Tm), ∀ A ∈ GOL ps, ∃ T, A = rest :: T ∧ ∀ t ∈ T, t.isR = false
  | [], A, h => by simp [GOL] at h
  | p :: ps, A, h => by
    simp only [GOL] at h
    rcases List.mem_cons.mp h with e | h
    · exact ⟨_, e, nrO p⟩
    · exact nrOL ps A h
theorem nrOS : ∀ (ps : List Tm), ∀ x ∈ GOS ps, x.isR = false
  | [], x, h => by simp [GOS] at h
  | q :: qs, x, h => by
    simp only [GOS] at h
    rcases List.mem_append.mp h with h | h
    · exact nrO q x h
    · exact nrOS qs x h
end
/-! ## the states are closed -/
def SGS (ps : List Tm) (x : Tm) : Prop := x = rest ∨ x ∈ GS ps
theorem in2_nonR : ∀ {xs ps : List Tm} {m : Option Nat}, in2 xs (GL ps m) → xs.any isR = false → in2 xs (GN ps m)
  | [], [], _, _, _ => trivial
  | [], _ :: _, _, h, _ => by simp [GL, in2] at h
  | _ :: _, [], _, h, _ => by simp [GL, in2] at h
  | x :: xs, p :: ps, m, h, hr => by
    simp only [GL, in2] at h
    simp only [List.any_cons, Bool.or_eq_false_iff] at hr
    simp only [GN, in2]
    refine ⟨?_, in2_nonR h.2 hr.2⟩
    rcases List.mem_cons.mp h.1 with e | h
    · rw [e] at hr; exact absurd hr.1 (by simp [isR])
    · exact h
theorem in2_NL : ∀ {xs ps : List Tm} {m : Option Nat}, in2 xs (GN ps m) → in2 xs (GL ps m)
  | [], [], _, _ => trivial
  | [], _ :: _, _, h => by simp [GN, in2] at h
  | _ :: _, [], _, h => by simp [GN, in2] at h
  | x :: xs, p :: ps, m, h => by
    simp only [GN, in2] at h
    simp only [GL, in2]
    exact ⟨List.mem_cons_of_mem _ h.1, in2_NL h.2⟩
theorem SG_kept {q : Tm} {y : Tm} (h : SG q none y) : kept y = rest ∨ kept y ∈ (G q none).map kept := by
  rcases h with e | h
  · rw [e]; exact .inl rfl
  · exact .inr (List.mem_map.mpr ⟨y, h, rfl⟩)
theorem mem_of_cons {x : Tm} {l : List Tm} : x ∈ rest :: l ↔ x = rest ∨ x ∈ l := List.mem_cons
/-- what is asked of a plan -/
structure Clo (p : Tm) : Prop where
  b : SG p (some 0) (begun p) ∧ SG p none (begun p)
  st : ∀ came m x l y, SG p m x → (l, y) ∈ steps came x → SG p m y
  tk : ∀ m x, SG p m x → SG p (m.map (· + 1)) (tick x)
  of : ∀ m x, SG p m x → SO p (off x)
  sto : ∀ came x l y, SO p x → (l, y) ∈ steps came x → SO p y
  tko : ∀ x, SO p x → SO p (tick x)
  ofo : ∀ x, SO p x → SO p (off x)
  wd : ∀ k x, SG p (some k) x → SG p none x
structure CloL (ps : List Tm) : Prop where
  b : in2 (begunL ps) (GL ps (some 0)) ∧ in2 (begunL ps) (GL ps none)
  st : ∀ came m xs l ys, in2 xs (GL ps m) → (l, ys) ∈ stepsL came xs → in2 ys (GL ps m)
  tk : ∀ m xs, in2 xs (GL ps m) → in2 (tickL xs) (GL ps (m.map (· + 1)))
  of : ∀ m xs, in2 xs (GL ps m) → in2 (offL xs) (GOL ps)
  sto : ∀ came xs l ys, in2 xs (GOL ps) → (l, ys) ∈ stepsL came xs → in2 ys (GOL ps)
  tko : ∀ xs, in2 xs (GOL ps) → in2 (tickL xs) (GOL ps)
  ofo : ∀ xs, in2 xs (GOL ps) → in2 (offL xs) (GOL ps)
  wd : ∀ k xs, in2 xs (GL ps (some k)) → in2 xs (GL ps none)
theorem cloL : ∀ {ps : List Tm}, (∀ p ∈ ps, Clo p) → CloL ps
  | [], _ => by
    constructor
    · exact ⟨trivial, trivial⟩
    · intro came m xs l ys h1 h2
      cases xs with
      | nil => simp [stepsL] at h2
      | cons _ _ => simp [GL, in2] at h1
    · intro m xs h1
      cases xs with
      | nil => trivial
      | cons _ _ => simp [GL, in2] at h1
    · intro m xs h1
      cases xs with
      | nil => trivial
      | cons _ _ => simp [GL, in2] at h1
    · intro came xs l ys h1 h2
      cases xs with
      | nil => simp [stepsL] at h2
      | cons _ _ => simp [GOL, in2] at h1
    · intro xs h1
      cases xs with
      | nil => trivial
      | cons _ _ => simp [GOL, in2] at h1
    · intro xs h1
      cases xs with
      | nil => trivial
      | cons _ _ => simp [GOL, in2] at h1
    · intro k xs h1
      cases xs with
      | nil => trivial
      | cons _ _ => simp [GL, in2] at h1
  | p :: ps, h => by
    have c := h p List.mem_cons_self
    have cs := cloL fun q hq => h q (List.mem_cons_of_mem _ hq)
    constructor
    · simp only [begunL, GL, in2]
      exact ⟨⟨mem_of_cons.mpr c.b.1, cs.b.1⟩, mem_of_cons.mpr c.b.2, cs.b.2⟩
    · intro came m xs l ys h1 h2
      cases xs with
      | nil => simp [GL, in2] at h1
      | cons x xs =>
        simp only [GL, in2] at h1
        simp only [stepsL] at h2
        rcases List.mem_append.mp h2 with h2 | h2
        · obtain ⟨u, hu, e⟩ := List.mem_map.mp h2
          obtain ⟨rfl, rfl⟩ := Prod.mk.inj e
          simp only [GL, in2]
          exact ⟨mem_of_cons.mpr (c.st came m x u.1 u.2 (mem_of_cons.mp h1.1) hu), h1.2⟩
        · obtain ⟨u, hu, e⟩ := List.mem_map.mp h2
          obtain ⟨rfl, rfl⟩ := Prod.mk.inj e
          simp only [GL, in2]
          exact ⟨h1.1, cs.st came m xs u.1 u.2 h1.2 hu⟩
    · intro m xs h1
      cases xs with
      | nil => simp [GL, in2] at h1
      | cons x xs =>
        simp only [GL, in2] at h1
        simp only [tickL, GL, in2]
        exact ⟨mem_of_cons.mpr (c.tk m x (mem_of_cons.mp h1.1)), cs.tk m xs h1.2⟩
    · intro m xs h1
      cases xs with
      | nil => simp [GL, in2] at h1
      | cons x xs =>
        simp only [GL, in2] at h1
        simp only [offL, GOL, in2]
        exact ⟨mem_of_cons.mpr (c.of m x (mem_of_cons.mp h1.1)), cs.of m xs h1.2⟩
    · intro came xs l ys h1 h2
      cases xs with
      | nil => simp [GOL, in2] at h1
      | cons x xs =>
        simp only [GOL, in2] at h1
        simp only [stepsL] at h2
        rcases List.mem_append.mp h2 with h2 | h2
        · obtain ⟨u, hu, e⟩ := List.mem_map.mp h2
          obtain ⟨rfl, rfl⟩ := Prod.mk.inj e
          simp only [GOL, in2]
          exact ⟨mem_of_cons.mpr (c.sto came x u.1 u.2 (mem_of_cons.mp h1.1) hu), h1.2⟩
        · obtain ⟨u, hu, e⟩ := List.mem_map.mp h2
          obtain ⟨rfl, rfl⟩ := Prod.mk.inj e
          simp only [GOL, in2]
          exact ⟨h1.1, cs.sto came xs u.1 u.2 h1.2 hu⟩
    · intro xs h1
      cases xs with
      | nil => simp [GOL, in2] at h1
      | cons x xs =>
        simp only [GOL, in2] at h1
        simp only [tickL, GOL, in2]
        exact ⟨mem_of_cons.mpr (c.tko x (mem_of_cons.mp h1.1)), cs.tko xs h1.2⟩
    · intro xs h1
      cases xs with
      | nil => simp [GOL, in2] at h1
      | cons x xs =>
        simp only [GOL, in2] at h1
        simp only [offL, GOL, in2]
        exact ⟨mem_of_cons.mpr (c.ofo x (mem_of_cons.mp h1.1)), cs.ofo xs h1.2⟩
    · intro k xs h1
      cases xs with
      | nil => simp [GL, in2] at h1
      | cons x xs =>
        simp only [GL, in2] at h1 ⊢
        exact ⟨mem_of_cons.mpr (c.wd k x (mem_of_cons.mp h1.1)), cs.wd k xs h1.2⟩
/-! ### both, first -/
theorem clo_both {ps : List Tm} (cs : CloL ps) : Clo (both ps) where
  b := ⟨SG_both.mpr ⟨_, cs.b.1, rfl⟩, SG_both.mpr ⟨_, cs.b.2, rfl⟩⟩
  st := fun came m x l y h hy => by
    obtain ⟨xs, h1, rfl⟩ := SG_both.mp h
    obtain ⟨ys, h2, rfl⟩ := steps_gath hy
    exact SG_both.mpr ⟨ys, cs.st came m xs l ys h1 h2, rfl⟩
  tk := fun m x h => by
    obtain ⟨xs, h1, rfl⟩ := SG_both.mp h
    exact SG_both.mpr ⟨_, cs.tk m xs h1, tick_gath xs⟩
  of := fun m x h => by
    obtain ⟨xs, h1, rfl⟩ := SG_both.mp h
    exact SO_both.mpr ⟨_, cs.of m xs h1, off_gath xs⟩
  sto := fun came x l y h hy => by
    obtain ⟨xs, h1, rfl⟩ := SO_both.mp h
    obtain ⟨ys, h2, rfl⟩ := steps_gath hy
    exact SO_both.mpr ⟨ys, cs.sto came xs l ys h1 h2, rfl⟩
  tko := fun x h => by
    obtain ⟨xs, h1, rfl⟩ := SO_both.mp h
    exact SO_both.mpr ⟨_, cs.tko xs h1, tick_gath xs⟩
  ofo := fun x h => by
    obtain ⟨xs, h1, rfl⟩ := SO_both.mp h
    exact SO_both.mpr ⟨_, cs.ofo xs h1, off_gath xs⟩
  wd := fun k x h => by
    obtain ⟨xs, h1, rfl⟩ := SG_both.mp h
    exact SG_both.mpr ⟨_, cs.wd k xs h1, rfl⟩
theorem in2_wdN : ∀ {ps xs : List Tm} {k : Nat}, (∀ p ∈ ps, Clo p) → in2 xs (GN ps (some k)) → in2 xs (GN ps none)
  | [], [], _, _, _ => trivial
  | [], _ :: _, _, _, h => by simp [GN, in2] at h
  | _ :: _, [], _, _, h => by simp [GN, in2] at h
  | p :: ps, x :: xs, k, c, h => by
    simp only [GN, in2] at h ⊢
    refine ⟨?_, in2_wdN (fun q hq => c q (List.mem_cons_of_mem _ hq)) h.2⟩
    rcases (c p List.mem_cons_self).wd k x (.inr h.1) with e | h2
    · have := nrG p (some k) x h.1
      rw [e] at this
      cases this
    · exact h2
theorem SG_race {ps : List Tm} (cs : CloL ps) {m : Option Nat} {xs : List Tm} (h : in2 xs (GL ps m)) : SG (first ps) m (race xs) := by
  unfold race
  by_cases hr : xs.any isR = true
  · rw [if_pos hr]
    exact SG_first.mpr (.inr ⟨_, cs.of m xs h, rfl⟩)
  · rw [if_neg hr]
    exact SG_first.mpr (.inl ⟨xs, in2_nonR h (by simpa using hr), rfl⟩)
theorem clo_first {ps : List Tm} (c0 : ∀ p ∈ ps, Clo p) (cs : CloL ps) : Clo (first ps) where
  b := by rw [begun_first]; exact ⟨SG_race cs cs.b.1, SG_race cs cs.b.2⟩
  st := fun came m x l y h hy => by
    rcases SG_first.mp h with ⟨xs, h1, rfl⟩ | ⟨xs, h1, rfl⟩
    · simp only [steps] at hy
      obtain ⟨u, hu, e⟩ := List.mem_map.mp hy
      obtain ⟨rfl, rfl⟩ := Prod.mk.inj e
      exact SG_race cs (cs.st came m xs u.1 u.2 (in2_NL h1) hu)
    · obtain ⟨ys, h2, rfl⟩ := steps_gath hy
      exact SG_first.mpr (.inr ⟨ys, cs.sto came xs l ys h1 h2, rfl⟩)
  tk := fun m x h => by
    rcases SG_first.mp h with ⟨xs, h1, rfl⟩ | ⟨xs, h1, rfl⟩
    · exact SG_race cs (cs.tk m xs (in2_NL h1))
    · exact SG_first.mpr (.inr ⟨_, cs.tko xs h1, tick_gath xs⟩)
  of := fun m x h => by
    rcases SG_first.mp h with ⟨xs, h1, rfl⟩ | ⟨xs, h1, rfl⟩
    · exact SO_first.mpr ⟨_, cs.of m xs (in2_NL h1), rfl⟩
    · exact SO_first.mpr ⟨_, cs.ofo xs h1, off_gath xs⟩
  sto := fun came x l y h hy => by
    obtain ⟨xs, h1, rfl⟩ := SO_first.mp h
    obtain ⟨ys, h2, rfl⟩ := steps_gath hy
    exact SO_first.mpr ⟨ys, cs.sto came xs l ys h1 h2, rfl⟩
  tko := fun x h => by
    obtain ⟨xs, h1, rfl⟩ := SO_first.mp h
    exact SO_first.mpr ⟨_, cs.tko xs h1, tick_gath xs⟩
  ofo := fun x h => by
    obtain ⟨xs, h1, rfl⟩ := SO_first.mp h
    exact SO_first.mpr ⟨_, cs.ofo xs h1, off_gath xs⟩
  wd := fun k x h => by
    rcases SG_first.mp h with ⟨xs, h1, rfl⟩ | ⟨xs, h1, rfl⟩
    · exact SG_first.mpr (.inl ⟨xs, in2_wdN c0 h1, rfl⟩)
    · exact SG_first.mpr (.inr ⟨xs, h1, rfl⟩)
/-! ### within -/
theorem SG_timed {n k : Nat} {p y : Tm} (hk : k < n) (h : SG p (some k) y) : SG (within n p) (some k) (timed (n - k) y) := by
  unfold SG timed
  simp only [G]
  rw [if_pos hk]
  by_cases hr : y.isR = true
  · rw [if_pos hr]; exact .inl rfl
  · rw [if_neg hr]
    rcases h with e | h
    · exact absurd (isR_iff.mpr e) hr
    · exact .inr (List.mem_map.mpr ⟨y, h, rfl⟩)
theorem SG_timedN {n j : Nat} {p y : Tm} (hj : j < n) (h : SG p none y) : SG (within n p) none (timed (j + 1) y) := by
  unfold SG timed
  simp only [G]
  by_cases hr : y.isR = true
  · rw [if_pos hr]; exact .inl rfl
  · rw [if_neg hr]
    rcases h with e | h
    · exact absurd (isR_iff.mpr e) hr
    · exact .inr (List.mem_append_left _ (List.mem_flatMap.mpr ⟨j, List.mem_range.mpr hj, List.mem_map.mpr ⟨y, h, rfl⟩⟩))
theorem SO_within {n : Nat} {p x : Tm} : SO (within n p) x ↔ SO p x := by unfold SO; simp only [GO]
theorem SG_lateW {n k : Nat} {p x : Tm} (hk : ¬ k < n) : SG (within n p) (some k) x ↔ SO p x := by
  unfold SG SO
  simp only [G]
  rw [if_neg hk]
theorem clo_within {n : Nat} (hn : 1 ≤ n) {p : Tm} (c : Clo p) : Clo (within n p) where
  b := by
    refine ⟨?_, ?_⟩
    · exact SG_timed (by omega) c.b.1
    · have := SG_timedN (n := n) (j := n - 1) (by omega) c.b.2
      rw [show n - 1 + 1 = n by omega] at this
      exact this
  st := fun came m x l y h hy => by
    cases m with
    | some k =>
      by_cases hk : k < n
      · rcases h with rfl | h
        · simp [steps] at hy
        · simp only [G] at h
          rw [if_pos hk] at h
          obtain ⟨z, hz, rfl⟩ := List.mem_map.mp h
          simp only [steps] at hy
          obtain ⟨u, hu, e⟩ := List.mem_map.mp hy
          obtain ⟨rfl, rfl⟩ := Prod.mk.inj e
          exact SG_timed hk (c.st came _ z u.1 u.2 (.inr hz) hu)
      · exact (SG_lateW hk).mpr (c.sto came x l y ((SG_lateW hk).mp h) hy)
    | none =>
      rcases h with rfl | h
      · simp [steps] at hy
      · simp only [G] at h
        rcases List.mem_append.mp h with h | h
        · obtain ⟨j, hj, h⟩ := List.mem_flatMap.mp h
          obtain ⟨z, hz, rfl⟩ := List.mem_map.mp h
          simp only [steps] at hy
          obtain ⟨u, hu, e⟩ := List.mem_map.mp hy
          obtain ⟨rfl, rfl⟩ := Prod.mk.inj e
          exact SG_timedN (List.mem_range.mp hj) (c.st came _ z u.1 u.2 (.inr hz) hu)
        · rcases c.sto came x l y (.inr h) hy with e | h2
          · exact .inl e
          · exact .inr (by simp only [G]; exact List.mem_append_right _ h2)
  tk := fun m x h => by
    cases m with
    | some k =>
      by_cases hk : k < n
      · rcases h with rfl | h
        · exact .inl rfl
        · simp only [G] at h
          rw [if_pos hk] at h
          obtain ⟨z, hz, rfl⟩ := List.mem_map.mp h
          simp only [tick]
          show SG (within n p) (some (k + 1)) _
          by_cases h1 : 1 < n - k
          · rw [if_pos h1]
            have := SG_timed (n := n) (k := k + 1) (by omega) (c.tk (some k) z (.inr hz))
            rw [show n - (k + 1) = n - k - 1 by omega] at this
            exact this
          · rw [if_neg h1]
            exact (SG_lateW (by omega)).mpr (c.of _ _ (c.tk (some k) z (.inr hz)))
      · show SG (within n p) (some (k + 1)) _
        exact (SG_lateW (by omega)).mpr (c.tko x ((SG_lateW hk).mp h))
    | none =>
      show SG (within n p) none _
      rcases h with rfl | h
      · exact .inl rfl
      · simp only [G] at h
        have fromO : ∀ y, SO p y → SG (within n p) none y := fun y h => by
          rcases h with e | h
          · exact .inl e
          · exact .inr (by simp only [G]; exact List.mem_append_right _ h)
        rcases List.mem_append.mp h with h | h
        · obtain ⟨j, hj, h⟩ := List.mem_flatMap.mp h
          have hj := List.mem_range.mp hj
          obtain ⟨z, hz, rfl⟩ := List.mem_map.mp h
          simp only [tick]
          by_cases h1 : 1 < j + 1
          · rw [if_pos h1]
            have := SG_timedN (n := n) (j := j - 1) (by omega) (c.tk none z (.inr hz))
            rw [show j - 1 + 1 = j + 1 - 1 by omega] at this
            exact this
          · rw [if_neg h1]
            exact fromO _ (c.of none _ (c.tk none z (.inr hz)))
        · exact fromO _ (c.tko x (.inr h))
  of := fun m x h => by
    refine SO_within.mpr ?_
    cases m with
    | some k =>
      by_cases hk : k < n
      · rcases h with rfl | h
        · exact .inl rfl
        · simp only [G] at h
          rw [if_pos hk] at h
          obtain ⟨z, hz, rfl⟩ := List.mem_map.mp h
          exact c.of _ z (.inr hz)
      · exact c.ofo x ((SG_lateW hk).mp h)
    | none =>
      rcases h with rfl | h
      · exact .inl rfl
      · simp only [G] at h
        rcases List.mem_append.mp h with h | h
        · obtain ⟨j, hj, h⟩ := List.mem_flatMap.mp h
          obtain ⟨z, hz, rfl⟩ := List.mem_map.mp h
          exact c.of none z (.inr hz)
        · exact c.ofo x (.inr h)
  sto := fun came x l y h hy => SO_within.mpr (c.sto came x l y (SO_within.mp h) hy)
  tko := fun x h => SO_within.mpr (c.tko x (SO_within.mp h))
  ofo := fun x h => SO_within.mpr (c.ofo x (SO_within.mp h))
  wd := fun k x h => by
    by_cases hk : k < n
    · rcases h with rfl | h
      · exact .inl rfl
      · have h' := h
        simp only [G] at h
        rw [if_pos hk] at h
        obtain ⟨z, hz, rfl⟩ := List.mem_map.mp h
        have q := SG_timedN (n := n) (j := n - k - 1) (by omega) (c.wd k z (.inr hz))
        rw [show n - k - 1 + 1 = n - k by omega] at q
        unfold timed at q
        rw [if_neg (by rw [nrG p (some k) z hz]; simp)] at q
        exact q
    · rcases (SG_lateW hk).mp h with e | h
      · exact .inl e
      · exact .inr (by simp only [G]; exact List.mem_append_right _ h)
/-! ### shield -/
theorem clo_kept {p : Tm} (c : Clo p) {T : Tm} (hT : T = shield p ∨ T = keep p) : Clo T := by
  have e1 : ∀ m, G T m = (G p m).map kept := by rcases hT with e | e <;> subst e <;> intro m <;> simp only [G]
  have e2 : GO T = (G p none).map kept := by rcases hT with e | e <;> subst e <;> simp only [GO]
  have e3 : begun T = kept (begun p) := by rcases hT with e | e <;> subst e <;> simp only [begun]
  have sg : ∀ {m x}, SG T m x ↔ ∃ y, SG p m y ∧ x = kept y := by
    intro m x
    unfold SG
    rw [e1]
    constructor
    · rintro (rfl | h)
      · exact ⟨rest, .inl rfl, rfl⟩
      · obtain ⟨y, hy, rfl⟩ := List.mem_map.mp h
        exact ⟨y, .inr hy, rfl⟩
    · rintro ⟨y, rfl | hy, rfl⟩
      · exact .inl rfl
      · exact .inr (List.mem_map.mpr ⟨y, hy, rfl⟩)
  have so : ∀ {x}, SO T x ↔ ∃ y, SG p none y ∧ x = kept y := by
    intro x
    unfold SO SG
    rw [e2]
    constructor
    · rintro (rfl | h)
      · exact ⟨rest, .inl rfl, rfl⟩
      · obtain ⟨y, hy, rfl⟩ := List.mem_map.mp h
        exact ⟨y, .inr hy, rfl⟩
    · rintro ⟨y, rfl | hy, rfl⟩
      · exact .inl rfl
      · exact .inr (List.mem_map.mpr ⟨y, hy, rfl⟩)
  have sub : ∀ {m y}, SG p m y → SG p none y := by
    intro m y h
    cases m with
    | some k => exact c.wd k y h
    | none => exact h
  constructor
  · rw [e3]
    exact ⟨sg.mpr ⟨_, c.b.1, rfl⟩, sg.mpr ⟨_, c.b.2, rfl⟩⟩
  · intro came m x l y h hy
    obtain ⟨z, hz, rfl⟩ := sg.mp h
    obtain ⟨v, hv, rfl⟩ := steps_kept hy
    exact sg.mpr ⟨v, c.st came m z l v hz hv, rfl⟩
  · intro m x h
    obtain ⟨z, hz, rfl⟩ := sg.mp h
    exact sg.mpr ⟨_, c.tk m z hz, tick_kept z⟩
  · intro m x h
    obtain ⟨z, hz, rfl⟩ := sg.mp h
    exact so.mpr ⟨z, sub hz, off_kept z⟩
  · intro came x l y h hy
    obtain ⟨z, hz, rfl⟩ := so.mp h
    obtain ⟨v, hv, rfl⟩ := steps_kept hy
    exact so.mpr ⟨v, c.st came none z l v hz hv, rfl⟩
  · intro x h
    obtain ⟨z, hz, rfl⟩ := so.mp h
    exact so.mpr ⟨_, c.tk none z hz, tick_kept z⟩
  · intro x h
    obtain ⟨z, hz, rfl⟩ := so.mp h
    exact so.mpr ⟨z, hz, off_kept z⟩
  · intro k x h
    obtain ⟨z, hz, rfl⟩ := sg.mp h
    exact sg.mpr ⟨z, c.wd k z hz, rfl⟩
/-! ### last -/
theorem SG_lastd {p q y : Tm} {m : Option Nat} (cq : Clo q) (h : SG p m y) : SG (last p q) m (lastd y q) := by
  unfold SG lastd
  simp only [G]
  by_cases hr : y.isR = true
  · rw [if_pos hr]
    rcases SG_kept cq.b.2 with e | e
    · exact .inl e
    · exact .inr (List.mem_append_right _ e)
  · rw [if_neg hr]
    rcases h with e | h
    · exact absurd (isR_iff.mpr e) hr
    · exact .inr (List.mem_append_left _ (List.mem_map.mpr ⟨y, h, rfl⟩))
theorem SO_lastd {p q y : Tm} (cq : Clo q) (h : SO p y) : SO (last p q) (lastd y q) := by
  unfold SO lastd
  simp only [GO]
  by_cases hr : y.isR = true
  · rw [if_pos hr]
    rcases SG_kept cq.b.2 with e | e
    · exact .inl e
    · exact .inr (List.mem_append_right _ e)
  · rw [if_neg hr]
    rcases h with e | h
    · exact absurd (isR_iff.mpr e) hr
    · exact .inr (List.mem_append_left _ (List.mem_map.mpr ⟨y, h, rfl⟩))
theorem SG_last {p q x : Tm} {m : Option Nat} : SG (last p q) m x ↔ (∃ y ∈ G p m, x = last y q) ∨ ∃ y, SG q none y ∧ x = kept y := by
  unfold SG
  simp only [G, List.mem_append, List.mem_map]
  constructor
  · rintro (rfl | ⟨y, h, rfl⟩ | ⟨y, h, rfl⟩)
    · exact .inr ⟨rest, .inl rfl, rfl⟩
    · exact .inl ⟨y, h, rfl⟩
    · exact .inr ⟨y, .inr h, rfl⟩
  · rintro (⟨y, h, rfl⟩ | ⟨y, rfl | h, rfl⟩)
    · exact .inr (.inl ⟨y, h, rfl⟩)
    · exact .inl rfl
    · exact .inr (.inr ⟨y, h, rfl⟩)
theorem SO_last {p q x : Tm} : SO (last p q) x ↔ (∃ y ∈ GO p, x = last y q) ∨ ∃ y, SG q none y ∧ x = kept y := by
  unfold SO SG
  simp only [GO, List.mem_append, List.mem_map]
  constructor
  · rintro (rfl | ⟨y, h, rfl⟩ | ⟨y, h, rfl⟩)
    · exact .inr ⟨rest, .inl rfl, rfl⟩
    · exact .inl ⟨y, h, rfl⟩
    · exact .inr ⟨y, .inr h, rfl⟩
  · rintro (⟨y, h, rfl⟩ | ⟨y, rfl | h, rfl⟩)
    · exact .inr (.inl ⟨y, h, rfl⟩)
    · exact .inl rfl
    · exact .inr (.inr ⟨y, h, rfl⟩)
theorem clo_last {p q : Tm} (c : Clo p) (cq : Clo q) : Clo (last p q) where
  b := ⟨SG_lastd cq c.b.1, SG_lastd cq c.b.2⟩
  st := fun came m x l y h hy => by
    rcases SG_last.mp h with ⟨z, hz, rfl⟩ | ⟨z, hz, rfl⟩
    · simp only [steps] at hy
      obtain ⟨u, hu, e⟩ := List.mem_map.mp hy
      obtain ⟨rfl, rfl⟩ := Prod.mk.inj e
      exact SG_lastd cq (c.st came m z u.1 u.2 (.inr hz) hu)
    · obtain ⟨v, hv, rfl⟩ := steps_kept hy
      exact SG_last.mpr (.inr ⟨v, cq.st came none z l v hz hv, rfl⟩)
  tk := fun m x h => by
    rcases SG_last.mp h with ⟨z, hz, rfl⟩ | ⟨z, hz, rfl⟩
    · exact SG_lastd cq (c.tk m z (.inr hz))
    · exact SG_last.mpr (.inr ⟨_, cq.tk none z hz, tick_kept z⟩)
  of := fun m x h => by
    rcases SG_last.mp h with ⟨z, hz, rfl⟩ | ⟨z, hz, rfl⟩
    · exact SO_lastd cq (c.of m z (.inr hz))
    · exact SO_last.mpr (.inr ⟨z, hz, off_kept z⟩)
  sto := fun came x l y h hy => by
    rcases SO_last.mp h with ⟨z, hz, rfl⟩ | ⟨z, hz, rfl⟩
    · simp only [steps] at hy
      obtain ⟨u, hu, e⟩ := List.mem_map.mp hy
      obtain ⟨rfl, rfl⟩ := Prod.mk.inj e
      exact SO_lastd cq (c.sto came z u.1 u.2 (.inr hz) hu)
    · obtain ⟨v, hv, rfl⟩ := steps_kept hy
      exact SO_last.mpr (.inr ⟨v, cq.st came none z l v hz hv, rfl⟩)
  tko := fun x h => by
    rcases SO_last.mp h with ⟨z, hz, rfl⟩ | ⟨z, hz, rfl⟩
    · exact SO_lastd cq (c.tko z (.inr hz))
    · exact SO_last.mpr (.inr ⟨_, cq.tk none z hz, tick_kept z⟩)
  ofo := fun x h => by
    rcases SO_last.mp h with ⟨z, hz, rfl⟩ | ⟨z, hz, rfl⟩
    · exact SO_lastd cq (c.ofo z (.inr hz))
    · exact SO_last.mpr (.inr ⟨z, hz, off_kept z⟩)
  wd := fun k x h => by
    rcases SG_last.mp h with ⟨z, hz, rfl⟩ | ⟨z, hz, rfl⟩
    · rcases c.wd k z (.inr hz) with e | h2
      · have := nrG p (some k) z hz
        rw [e] at this
        cases this
      · exact SG_last.mpr (.inl ⟨z, h2, rfl⟩)
    · exact SG_last.mpr (.inr ⟨z, hz, rfl⟩)
/-! ### then -/
theorem SGS_rest : ∀ {ps : List Tm}, (∀ p ∈ ps, Clo p) → SGS ps (joinB ps rest)
  | [], _ => .inl rfl
  | q :: qs, h => by
    simp only [joinB]
    rw [if_pos (show rest.isR = true from rfl)]
    have cq := h q List.mem_cons_self
    have ih := SGS_rest fun p hp => h p (List.mem_cons_of_mem _ hp)
    unfold SGS
    simp only [GS]
    rcases cq.b.2 with e | e
    · rw [e]
      rcases ih with e2 | e2
      · exact .inl e2
      · exact .inr (List.mem_append_right _ e2)
    · exact .inr (List.mem_append_left _ (List.mem_map.mpr ⟨_, e, rfl⟩))
theorem SG_join {p : Tm} {ps : List Tm} {m : Option Nat} {y : Tm} (cs : ∀ q ∈ ps, Clo q) (h : SG p m y) : SG (thn p ps) m (joinB ps y) := by
  unfold SG
  simp only [G, List.mem_append]
  rcases h with rfl | h
  · rcases SGS_rest cs with e | e
    · exact .inl e
    · exact .inr (.inr e)
  · exact .inr (.inl (List.mem_map.mpr ⟨y, h, rfl⟩))
theorem SGS_join {q : Tm} {qs : List Tm} {y : Tm} (cs : ∀ p ∈ qs, Clo p) (h : SG q none y) : SGS (q :: qs) (joinB qs y) := by
  unfold SGS
  simp only [GS, List.mem_append]
  rcases h with rfl | h
  · rcases SGS_rest cs with e | e
    · exact .inl e
    · exact .inr (.inr e)
  · exact .inr (.inl (List.mem_map.mpr ⟨y, h, rfl⟩))
theorem steps_join {came : List Nat} {ps : List Tm} {y : Tm} {l : Lb} {u : Tm} (hr : y.isR = false) (h : (l, u) ∈ steps came (joinB ps y)) : ∃ v, (l, v) ∈ steps came y ∧ u = joinB ps v := by
  cases ps with
  | nil => exact ⟨u, h, rfl⟩
  | cons q qs =>
    simp only [joinB] at h
    rw [if_neg (by rw [hr]; simp)] at h
    simp only [steps] at h
    obtain ⟨v, hv, e⟩ := List.mem_map.mp h
    obtain ⟨rfl, rfl⟩ := Prod.mk.inj e
    exact ⟨v.2, hv, rfl⟩
theorem tick_join {ps : List Tm} {y : Tm} (hr : y.isR = false) : tick (joinB ps y) = joinB ps (tick y) := by
  cases ps with
  | nil => rfl
  | cons q qs =>
    have e : joinB (q :: qs) y = thn y (q :: qs) := by simp only [joinB]; rw [if_neg (by rw [hr]; simp)]
    rw [e]
    rfl
theorem off_joinN {ps : List Tm} {y : Tm} (hr : y.isR = false) : off (joinB ps y) = off y := by
  cases ps with
  | nil => rfl
  | cons q qs =>
    have e : joinB (q :: qs) y = thn y (q :: qs) := by simp only [joinB]; rw [if_neg (by rw [hr]; simp)]
    rw [e]
    rfl
def SOS (ps : List Tm) (x : Tm) : Prop := x = rest ∨ x ∈ GOS ps
theorem SGS_st : ∀ {ps : List Tm}, (∀ p ∈ ps, Clo p) → ∀ {came : List Nat} {x : Tm} {l : Lb} {y : Tm}, SGS ps x → (l, y) ∈ steps came x → SGS ps y
  | [], _, came, x, l, y, h, hy => by
    rcases h with rfl | h
    · simp [steps] at hy
    · simp [GS] at h
  | q :: qs, c, came, x, l, y, h, hy => by
    have cq := c q List.mem_cons_self
    have cs : ∀ p ∈ qs, Clo p := fun p hp => c p (List.mem_cons_of_mem _ hp)
    rcases h with rfl | h
    · simp [steps] at hy
    · simp only [GS] at h
      rcases List.mem_append.mp h with h | h
      · obtain ⟨z, hz, rfl⟩ := List.mem_map.mp h
        obtain ⟨v, hv, rfl⟩ := steps_join (nrG q none z hz) hy
        exact SGS_join cs (cq.st came none z l v (.inr hz) hv)
      · rcases SGS_st cs (.inr h) hy with e | e
        · exact .inl e
        · exact .inr (by simp only [GS]; exact List.mem_append_right _ e)
theorem SGS_tk : ∀ {ps : List Tm}, (∀ p ∈ ps, Clo p) → ∀ {x : Tm}, SGS ps x → SGS ps (tick x)
  | [], _, x, h => by
    rcases h with rfl | h
    · exact .inl rfl
    · simp [GS] at h
  | q :: qs, c, x, h => by
    have cq := c q List.mem_cons_self
    have cs : ∀ p ∈ qs, Clo p := fun p hp => c p (List.mem_cons_of_mem _ hp)
    rcases h with rfl | h
    · exact .inl rfl
    · simp only [GS] at h
      rcases List.mem_append.mp h with h | h
      · obtain ⟨z, hz, rfl⟩ := List.mem_map.mp h
        rw [tick_join (nrG q none z hz)]
        exact SGS_join cs (cq.tk none z (.inr hz))
      · rcases SGS_tk cs (.inr h) with e | e
        · exact .inl e
        · exact .inr (by simp only [GS]; exact List.mem_append_right _ e)
theorem SGS_of : ∀ {ps : List Tm}, (∀ p ∈ ps, Clo p) → ∀ {x : Tm}, SGS ps x → SOS ps (off x)
  | [], _, x, h => by
    rcases h with rfl | h
    · exact .inl rfl
    · simp [GS] at h
  | q :: qs, c, x, h => by
    have cq := c q List.mem_cons_self
    have cs : ∀ p ∈ qs, Clo p := fun p hp => c p (List.mem_cons_of_mem _ hp)
    rcases h with rfl | h
    · exact .inl rfl
    · simp only [GS] at h
      unfold SOS
      simp only [GOS, List.mem_append]
      rcases List.mem_append.mp h with h | h
      · obtain ⟨z, hz, rfl⟩ := List.mem_map.mp h
        rw [off_joinN (nrG q none z hz)]
        rcases cq.of none z (.inr hz) with e | e
        · exact .inl e
        · exact .inr (.inl e)
      · rcases SGS_of cs (.inr h) with e | e
        · exact .inl e
        · exact .inr (.inr e)
theorem SOS_st : ∀ {ps : List Tm}, (∀ p ∈ ps, Clo p) → ∀ {came : List Nat} {x : Tm} {l : Lb} {y : Tm}, SOS ps x → (l, y) ∈ steps came x → SOS ps y
  | [], _, came, x, l, y, h, hy => by
    rcases h with rfl | h
    · simp [steps] at hy
    · simp [GOS] at h
  | q :: qs, c, came, x, l, y, h, hy => by
    have cq := c q List.mem_cons_self
    have cs : ∀ p ∈ qs, Clo p := fun p hp => c p (List.mem_cons_of_mem _ hp)
    rcases h with rfl | h
    · simp [steps] at hy
    · simp only [GOS] at h
      unfold SOS
      simp only [GOS, List.mem_append]
      rcases List.mem_append.mp h with h | h
      · rcases cq.sto came x l y (.inr h) hy with e | e
        · exact .inl e
        · exact .inr (.inl e)
      · rcases SOS_st cs (.inr h) hy with e | e
        · exact .inl e
        · exact .inr (.inr e)
theorem SOS_tk : ∀ {ps : List Tm}, (∀ p ∈ ps, Clo p) → ∀ {x : Tm}, SOS ps x → SOS ps (tick x) ∧ SOS ps (off x)
  | [], _, x, h => by
    rcases h with rfl | h
    · exact ⟨.inl rfl, .inl rfl⟩
    · simp [GOS] at h
  | q :: qs, c, x, h => by
    have cq := c q List.mem_cons_self
    have cs : ∀ p ∈ qs, Clo p := fun p hp => c p (List.mem_cons_of_mem _ hp)
    rcases h with rfl | h
    · exact ⟨.inl rfl, .inl rfl⟩
    · simp only [GOS] at h
      unfold SOS
      simp only [GOS, List.mem_append]
      rcases List.mem_append.mp h with h | h
      · exact ⟨(cq.tko x (.inr h)).imp id .inl, (cq.ofo x (.inr h)).imp id .inl⟩
      · have := SOS_tk cs (.inr h)
        exact ⟨this.1.imp id .inr, this.2.imp id .inr⟩
theorem SG_thn {p x : Tm} {ps : List Tm} {m : Option Nat} : SG (thn p ps) m x ↔ (∃ y ∈ G p m, x = joinB ps y) ∨ SGS ps x := by
  unfold SG SGS
  simp only [G, List.mem_append, List.mem_map]
  constructor
  · rintro (rfl | ⟨y, h, rfl⟩ | h)
    · exact .inr (.inl rfl)
    · exact .inl ⟨y, h, rfl⟩
    · exact .inr (.inr h)
  · rintro (⟨y, h, rfl⟩ | rfl | h)
    · exact .inr (.inl ⟨y, h, rfl⟩)
    · exact .inl rfl
    · exact .inr (.inr h)
theorem SO_thn {p x : Tm} {ps : List Tm} : SO (thn p ps) x ↔ SO p x ∨ SOS ps x := by
  unfold SO SOS
  simp only [GO, List.mem_append]
  constructor
  · rintro (e | h | h)
    · exact .inl (.inl e)
    · exact .inl (.inr h)
    · exact .inr (.inr h)
  · rintro ((e | h) | (e | h))
    · exact .inl e
    · exact .inr (.inl h)
    · exact .inl e
    · exact .inr (.inr h)
theorem clo_thn {p : Tm} {ps : List Tm} (c : Clo p) (cs : ∀ q ∈ ps, Clo q) : Clo (thn p ps) where
  b := ⟨SG_join cs c.b.1, SG_join cs c.b.2⟩
  st := fun came m x l y h hy => by
    rcases SG_thn.mp h with ⟨z, hz, rfl⟩ | h
    · obtain ⟨v, hv, rfl⟩ := steps_join (nrG p m z hz) hy
      exact SG_join cs (c.st came m z l v (.inr hz) hv)
    · exact SG_thn.mpr (.inr (SGS_st cs h hy))
  tk := fun m x h => by
    rcases SG_thn.mp h with ⟨z, hz, rfl⟩ | h
    · rw [tick_join (nrG p m z hz)]
      exact SG_join cs (c.tk m z (.inr hz))
    · exact SG_thn.mpr (.inr (SGS_tk cs h))
  of := fun m x h => by
    rcases SG_thn.mp h with ⟨z, hz, rfl⟩ | h
    · rw [off_joinN (nrG p m z hz)]
      exact SO_thn.mpr (.inl (c.of m z (.inr hz)))
    · exact SO_thn.mpr (.inr (SGS_of cs h))
  sto := fun came x l y h hy => by
    rcases SO_thn.mp h with h | h
    · exact SO_thn.mpr (.inl (c.sto came x l y h hy))
    · exact SO_thn.mpr (.inr (SOS_st cs h hy))
  tko := fun x h => by
    rcases SO_thn.mp h with h | h
    · exact SO_thn.mpr (.inl (c.tko x h))
    · exact SO_thn.mpr (.inr (SOS_tk cs h).1)
  ofo := fun x h => by
    rcases SO_thn.mp h with h | h
    · exact SO_thn.mpr (.inl (c.ofo x h))
    · exact SO_thn.mpr (.inr (SOS_tk cs h).2)
  wd := fun k x h => by
    rcases SG_thn.mp h with ⟨z, hz, rfl⟩ | h
    · exact SG_join cs (c.wd k z (.inr hz))
    · exact SG_thn.mpr (.inr h)
theorem clo_leaf {t : Tm} (hg : ∀ m, G t m = [t]) (ho : GO t = []) (hb : begun t = t) (hs : ∀ came l y, (l, y) ∈ steps came t → y = rest) (ht : tick t = t) (hf : off t = rest) : Clo t where
  b := by rw [hb]; exact ⟨.inr (by rw [hg]; simp), .inr (by rw [hg]; simp)⟩
  st := fun came m x l y h hy => by
    rcases h with rfl | h
    · simp [steps] at hy
    · rw [hg] at h
      rw [List.mem_singleton.mp h] at hy
      exact .inl (hs came l y hy)
  tk := fun m x h => by
    rcases h with rfl | h
    · exact .inl rfl
    · rw [hg] at h
      rw [List.mem_singleton.mp h, ht]
      exact .inr (by rw [hg]; simp)
  of := fun m x h => by
    rcases h with rfl | h
    · exact .inl rfl
    · rw [hg] at h
      rw [List.mem_singleton.mp h, hf]
      exact .inl rfl
  sto := fun came x l y h hy => by
    rcases h with rfl | h
    · simp [steps] at hy
    · rw [ho] at h; cases h
  tko := fun x h => by
    rcases h with rfl | h
    · exact .inl rfl
    · rw [ho] at h; cases h
  ofo := fun x h => by
    rcases h with rfl | h
    · exact .inl rfl
    · rw [ho] at h; cases h
  wd := fun k x h => by
    rcases h with rfl | h
    · exact .inl rfl
    · rw [hg] at h
      exact .inr (by rw [hg]; exact h)
theorem clo_rest : Clo rest where
  b := ⟨.inl rfl, .inl rfl⟩
  st := fun came m x l y h hy => by
    rcases h with rfl | h
    · simp [steps] at hy
    · simp [G] at h
  tk := fun m x h => by
    rcases h with rfl | h
    · exact .inl rfl
    · simp [G] at h
  of := fun m x h => by
    rcases h with rfl | h
    · exact .inl rfl
    · simp [G] at h
  sto := fun came x l y h hy => by
    rcases h with rfl | h
    · simp [steps] at hy
    · simp [GO] at h
  tko := fun x h => by
    rcases h with rfl | h
    · exact .inl rfl
    · simp [GO] at h
  ofo := fun x h => by
    rcases h with rfl | h
    · exact .inl rfl
    · simp [GO] at h
  wd := fun k x h => by
    rcases h with rfl | h
    · exact .inl rfl
    · simp [G] at h
mutual
/-- every plan's states are closed -/
theorem clo : ∀ p : Tm, okP p = true → Clo p
  | rest, _ => clo_rest
  | say w, _ => clo_leaf (fun m => by cases m <;> simp [G]) (by simp [GO]) rfl (fun came l y h => by simp [steps] at h; exact h.2) rfl rfl
  | wait e, _ => clo_leaf (fun m => by cases m <;> simp [G]) (by simp [GO]) rfl (fun came l y h => by
      simp only [steps] at h
      split at h
      · simp at h; exact h.2
      · cases h) rfl rfl
  | thn p ps, h => by
    simp only [okP, Bool.and_eq_true] at h
    exact clo_thn (clo p h.1) (clos ps h.2)
  | both ps, h => by
    simp only [okP] at h
    exact clo_both (cloL (clos ps h))
  | first ps, h => by
    simp only [okP] at h
    exact clo_first (clos ps h) (cloL (clos ps h))
  | within n p, h => by
    simp only [okP, Bool.and_eq_true, decide_eq_true_eq] at h
    exact clo_within h.1 (clo p h.2)
  | last p q, h => by
    simp only [okP, Bool.and_eq_true] at h
    exact clo_last (clo p h.1) (clo q h.2)
  | shield p, h => by
    simp only [okP] at h
    exact clo_kept (clo p h) (.inl rfl)
  | keep p, h => by
    simp only [okP] at h
    exact clo_kept (clo p h) (.inr rfl)
theorem clos : ∀ ps : List Tm, okPs ps = true → ∀ p ∈ ps, Clo p
  | [], _, p, hp => by cases hp
  | q :: qs, h, p, hp => by
    simp only [okPs, Bool.and_eq_true] at h
    rcases List.mem_cons.mp hp with e | hp
    · rw [e]; exact clo q h.1
    · exact clos qs h.2 p hp
end
end Tm
end LT
/-! # Ct3 -/
namespace LT
namespace Tm
/-! ## leaves still to act -/
mutual
def lv : Tm → Nat
  | rest => 0
  | say _ => 1
  | wait _ => 1
  | thn t ps => lv t + lvs ps
  | both ts => lvs ts
  | first ts => lvs ts
  | within _ t => lv t
  | last t p => lv t + lv p
  | shield t => lv t
  | keep t => lv t
def lvs : List Tm → Nat
  | [] => 0
  | t :: ts => lv t + lvs ts
end
theorem lvs_filter (f : Tm → Bool) : ∀ ts : List Tm, lvs (ts.filter f) ≤ lvs ts
  | [] => Nat.le_refl _
  | t :: ts => by
    have := lvs_filter f ts
    simp only [List.filter_cons]
    split <;> simp only [lvs] <;> omega
theorem lv_gath (ts : List Tm) : lv (gath ts) ≤ lvs ts := by
  have := lvs_filter (fun t => !t.isR) ts
  rcases gath_cases ts with ⟨h1, h2⟩ | ⟨t, h0, h1, h2⟩ | ⟨a, b, l, h1, h2⟩
  · rw [h1]; simp only [lv]; omega
  · rw [h1]; rw [h2] at this; simp only [lvs] at this; omega
  · rw [h1]; rw [h2] at this; simp only [lv]; omega
theorem lv_kept (t : Tm) : lv (kept t) ≤ lv t := by cases t <;> simp only [kept, lv] <;> omega
theorem lv_timed (n : Nat) (t : Tm) : lv (timed n t) ≤ lv t := by
  unfold timed
  split <;> simp only [lv] <;> omega
mutual
theorem lv_begun : ∀ p : Tm, lv (begun p) ≤ lv p
  | rest => Nat.le_refl _
  | say _ => Nat.le_refl _
  | wait _ => Nat.le_refl _
  | thn p ps => by
    have := lv_begun p
    have := lv_join ps (begun p)
    simp only [begun, lv]
    omega
  | both ps => by
    have := lv_begunL ps
    have := lv_gath (begunL ps)
    simp only [begun, lv]
    omega
  | first ps => by
    have := lv_begunL ps
    have := lv_offBL ps
    have := lv_gath (offBL ps)
    simp only [begun]
    split <;> (try simp only [lv]) <;> omega
  | within n p => by
    have := lv_begun p
    have := lv_timed n (begun p)
    simp only [begun, lv]
    omega
  | last p q => by
    have := lv_begun p
    have := lv_begun q
    have := lv_kept (begun q)
    simp only [begun]
    split <;> (try simp only [lv]) <;> omega
  | shield p => by
    have := lv_begun p
    have := lv_kept (begun p)
    simp only [begun, lv]
    omega
  | keep p => by
    have := lv_begun p
    have := lv_kept (begun p)
    simp only [begun, lv]
    omega
theorem lv_begunL : ∀ ps : List Tm, lvs (begunL ps) ≤ lvs ps
  | [] => Nat.le_refl _
  | p :: ps => by
    have := lv_begun p
    have := lv_begunL ps
    simp only [begunL, lvs]
    omega
theorem lv_join : ∀ (ps : List Tm) (t : Tm), lv (joinB ps t) ≤ lv t + lvs ps
  | [], t => by simp only [joinB, lvs]; omega
  | q :: qs, t => by
    have := lv_begun q
    have := lv_join qs (begun q)
    simp only [joinB]
    split <;> (try simp only [lv, lvs]) <;> (try simp only [lvs]) <;> omega
theorem lv_offB : ∀ p : Tm, lv (offB p) ≤ lv p
  | rest => Nat.le_refl _
  | say _ => by simp [offB, lv]
  | wait _ => by simp [offB, lv]
  | thn p ps => by
    have := lv_offB p
    have := lv_offJ ps
    simp only [offB, lv]
    split <;> omega
  | both ps => by
    have := lv_offBL ps
    have := lv_gath (offBL ps)
    simp only [offB, lv]
    omega
  | first ps => by
    have := lv_offBL ps
    have := lv_gath (offBL ps)
    simp only [offB, lv]
    omega
  | within n p => by
    have := lv_offB p
    simp only [offB, lv]
    omega
  | last p q => by
    have := lv_offB p
    have := lv_begun q
    have := lv_kept (begun q)
    simp only [offB]
    split <;> (try simp only [lv]) <;> omega
  | shield p => by
    have := lv_begun p
    have := lv_kept (begun p)
    simp only [offB, lv]
    omega
  | keep p => by
    have := lv_begun p
    have := lv_kept (begun p)
    simp only [offB, lv]
    omega
theorem lv_offBL : ∀ ps : List Tm, lvs (offBL ps) ≤ lvs ps
  | [] => Nat.le_refl _
  | p :: ps => by
    have := lv_offB p
    have := lv_offBL ps
    simp only [offBL, lvs]
    omega
theorem lv_offJ : ∀ ps : List Tm, lv (offJ ps) ≤ lvs ps
  | [] => by simp only [offJ, lv, lvs]; omega
  | q :: qs => by
    have := lv_offB q
    have := lv_offJ qs
    simp only [offJ, lvs]
    split <;> omega
end
theorem lv_lastd (t p : Tm) : lv (lastd t p) ≤ lv t + lv p := by
  have := lv_begun p
  have := lv_kept (begun p)
  unfold lastd
  split <;> (try simp only [lv]) <;> omega
mutual
theorem lv_off : ∀ t : Tm, lv (off t) ≤ lv t
  | rest => Nat.le_refl _
  | say _ => by simp [off, lv]
  | wait _ => by simp [off, lv]
  | thn t ps => by
    have := lv_off t
    simp only [off, lv]
    omega
  | both ts => by
    have := lv_offL ts
    have := lv_gath (offL ts)
    simp only [off, lv]
    omega
  | first ts => by
    have := lv_offL ts
    have := lv_gath (offL ts)
    simp only [off, lv]
    omega
  | within n t => by
    have := lv_off t
    simp only [off, lv]
    omega
  | last t p => by
    have := lv_off t
    have := lv_lastd (off t) p
    simp only [off, lv]
    omega
  | shield _ => Nat.le_refl _
  | keep _ => Nat.le_refl _
theorem lv_offL : ∀ ts : List Tm, lvs (offL ts) ≤ lvs ts
  | [] => Nat.le_refl _
  | t :: ts => by
    have := lv_off t
    have := lv_offL ts
    simp only [offL, lvs]
    omega
end
theorem lv_race (ts : List Tm) : lv (race ts) ≤ lvs ts := by
  have := lv_offL ts
  have := lv_gath (offL ts)
  unfold race
  split <;> (try simp only [lv]) <;> omega
mutual
theorem lv_steps (came : List Nat) : ∀ (t : Tm) (s : Lb × Tm), s ∈ steps came t → lv s.2 < lv t
  | rest, s, h => by simp [steps] at h
  | say w, s, h => by simp [steps] at h; rw [h]; simp [lv]
  | wait e, s, h => by
    simp only [steps] at h
    split at h
    · simp at h; rw [h]; simp [lv]
    · cases h
  | thn t ps, s, h => by
    obtain ⟨u, hu, rfl⟩ := List.mem_map.mp h
    have := lv_steps came t u hu
    have := lv_join ps u.2
    simp only [lv]
    omega
  | both ts, s, h => by
    obtain ⟨u, hu, rfl⟩ := List.mem_map.mp h
    have := lv_stepsL came ts u hu
    have := lv_gath u.2
    simp only [lv]
    omega
  | first ts, s, h => by
    obtain ⟨u, hu, rfl⟩ := List.mem_map.mp h
    have := lv_stepsL came ts u hu
    have := lv_race u.2
    simp only [lv]
    omega
  | within n t, s, h => by
    obtain ⟨u, hu, rfl⟩ := List.mem_map.mp h
    have := lv_steps came t u hu
    have := lv_timed n u.2
    simp only [lv]
    omega
  | last t p, s, h => by
    obtain ⟨u, hu, rfl⟩ := List.mem_map.mp h
    have := lv_steps came t u hu
    have := lv_lastd u.2 p
    simp only [lv]
    omega
  | shield t, s, h => by
    obtain ⟨u, hu, rfl⟩ := List.mem_map.mp h
    have := lv_steps came t u hu
    have := lv_kept u.2
    simp only [lv]
    omega
  | keep t, s, h => by
    obtain ⟨u, hu, rfl⟩ := List.mem_map.mp h
    have := lv_steps came t u hu
    have := lv_kept u.2
    simp only [lv]
    omega
theorem lv_stepsL (came : List Nat) : ∀ (ts : List Tm) (s : Lb × List Tm), s ∈ stepsL came ts → lvs s.2 < lvs ts
  | [], s, h => by simp [stepsL] at h
  | t :: ts, s, h => by
    simp only [stepsL] at h
    rcases List.mem_append.mp h with h | h
    · obtain ⟨u, hu, rfl⟩ := List.mem_map.mp h
      have := lv_steps came t u hu
      simp only [lvs]
      omega
    · obtain ⟨u, hu, rfl⟩ := List.mem_map.mp h
      have := lv_stepsL came ts u hu
      simp only [lvs]
      omega
end
/-! ## how many states -/
mutual
def cG : Tm → Bool → Nat
  | thn p ps, b => cG p b + cS ps
  | both ps, b => cP ps b - 1
  | first ps, b => cN ps b + (cPO ps - 1)
  | within _ p, true => max (cG p true) (cO p)
  | within n p, false => n * cG p false + cO p
  | last p q, b => cG p b + cG q false
  | shield p, b => cG p b
  | keep p, b => cG p b
  | _, _ => 1
def cS : List Tm → Nat
  | [] => 0
  | q :: qs => cG q false + cS qs
def cP : List Tm → Bool → Nat
  | [], _ => 1
  | p :: ps, b => (1 + cG p b) * cP ps b
def cN : List Tm → Bool → Nat
  | [], _ => 1
  | p :: ps, b => cG p b * cN ps b
def cO : Tm → Nat
  | thn p ps => cO p + cOS ps
  | both ps => cPO ps - 1
  | first ps => cPO ps - 1
  | within _ p => cO p
  | last p q => cO p + cG q false
  | shield p => cG p false
  | keep p => cG p false
  | _ => 0
def cPO : List Tm → Nat
  | [] => 1
  | p :: ps => (1 + cO p) * cPO ps
def cOS : List Tm → Nat
  | [] => 0
  | q :: qs => cO q + cOS qs
end
theorem len_prodL (A : List Tm) (As : List (List Tm)) : (prodL (A :: As)).length = A.length * (prodL As).length := by
  simp only [prodL]
  induction A with
  | nil => simp
  | cons a A ih => simp only [List.flatMap_cons, List.length_append, List.length_map, ih, List.length_cons]; rw [Nat.add_mul]; omega
mutual
theorem len_G : ∀ (p : Tm) (m : Option Nat), (G p m).length ≤ cG p m.isSome
  | rest, m => by simp [G]
  | say _, m => by simp [G, cG]
  | wait _, m => by simp [G, cG]
  | thn p ps, m => by
    have := len_G p m
    have := len_GS ps
    simp only [G, cG, List.length_append, List.length_map]
    omega
  | both ps, m => by
    have := len_GL ps m
    simp only [G, cG, List.length_map, List.length_tail]
    omega
  | first ps, m => by
    have := len_GN ps m
    have := len_GOL ps
    simp only [G, cG, List.length_append, List.length_map, List.length_tail]
    omega
  | within n p, some k => by
    have := len_G p (some k)
    have := len_GO p
    simp only [G, cG, Option.isSome_some] at *
    split <;> (try simp only [List.length_map]) <;> omega
  | within n p, none => by
    have h1 := len_G p none
    have := len_GO p
    have h2 : ((List.range n).flatMap fun j => (G p none).map (within (j + 1))).length = n * (G p none).length := by
      have : ∀ l : List Nat, (l.flatMap fun j => (G p none).map (within (j + 1))).length = l.length * (G p none).length := by
        intro l
        induction l with
        | nil => simp
        | cons a l ih => simp only [List.flatMap_cons, List.length_append, List.length_map, ih, List.length_cons]; rw [Nat.add_mul]; omega
      rw [this, List.length_range]
    have h3 := Nat.mul_le_mul_left n h1
    simp only [G, cG, List.length_append, Option.isSome_none] at *
    rw [h2]
    omega
  | last p q, m => by
    have := len_G p m
    have := len_G q none
    simp only [G, cG, List.length_append, List.length_map, Option.isSome_none] at *
    omega
  | shield p, m => by
    have := len_G p m
    simp only [G, cG, List.length_map]
    omega
  | keep p, m => by
    have := len_G p m
    simp only [G, cG, List.length_map]
    omega
theorem len_GS : ∀ ps : List Tm, (GS ps).length ≤ cS ps
  | [] => by simp [GS, cS]
  | q :: qs => by
    have := len_G q none
    have := len_GS qs
    simp only [GS, cS, List.length_append, List.length_map, Option.isSome_none] at *
    omega
theorem len_GL : ∀ (ps : List Tm) (m : Option Nat), (prodL (GL ps m)).length ≤ cP ps m.isSome
  | [], m => by simp [GL, prodL, cP]
  | p :: ps, m => by
    have h1 := len_G p m
    have h2 := len_GL ps m
    simp only [GL, cP]
    rw [len_prodL]
    refine Nat.mul_le_mul ?_ h2
    simp only [List.length_cons]
    omega
theorem len_GN : ∀ (ps : List Tm) (m : Option Nat), (prodL (GN ps m)).length ≤ cN ps m.isSome
  | [], m => by simp [GN, prodL, cN]
  | p :: ps, m => by
    have h1 := len_G p m
    have h2 := len_GN ps m
    simp only [GN, cN]
    rw [len_prodL]
    exact Nat.mul_le_mul h1 h2
theorem len_GO : ∀ (p : Tm), (GO p).length ≤ cO p
  | rest => by simp [GO]
  | say _ => by simp [GO]
  | wait _ => by simp [GO]
  | thn p ps => by
    have := len_GO p
    have := len_GOS ps
    simp only [GO, cO, List.length_append]
    omega
  | both ps => by
    have := len_GOL ps
    simp only [GO, cO, List.length_map, List.length_tail]
    omega
  | first ps => by
    have := len_GOL ps
    simp only [GO, cO, List.length_map, List.length_tail]
    omega
  | within _ p => by
    have := len_GO p
    simp only [GO, cO]
    omega
  | last p q => by
    have := len_GO p
    have := len_G q none
    simp only [GO, cO, List.length_append, List.length_map, Option.isSome_none] at *
    omega
  | shield p => by
    have := len_G p none
    simp only [GO, cO, List.length_map, Option.isSome_none] at *
    omega
  | keep p => by
    have := len_G p none
    simp only [GO, cO, List.length_map, Option.isSome_none] at *
    omega
theorem len_GOL : ∀ (ps : List Tm), (prodL (GOL ps)).length ≤ cPO ps
  | [] => by simp [GOL, prodL, cPO]
  | p :: ps => by
    have h1 := len_GO p
    have h2 := len_GOL ps
    simp only [GOL, cPO]
    rw [len_prodL]
    refine Nat.mul_le_mul ?_ h2
    simp only [List.length_cons]
    omega
theorem len_GOS : ∀ ps : List Tm, (GOS ps).length ≤ cOS ps
  | [] => by simp [GOS, cOS]
  | q :: qs => by
    have := len_GO q
    have := len_GOS qs
    simp only [GOS, cOS, List.length_append]
    omega
end
/-! ## the shapes of the law's pieces -/
def isLeaf : Tm → Bool
  | rest => true
  | say _ => true
  | wait _ => true
  | _ => false
def shB : Nat → Tm → Bool
  | 0, t => isLeaf t
  | d + 1, thn p ps => decide (1 ≤ ps.length ∧ ps.length ≤ 2) && (shB d p && ps.all (shB d))
  | d + 1, both ps => decide (2 ≤ ps.length ∧ ps.length ≤ 3) && ps.all (shB d)
  | d + 1, first ps => decide (2 ≤ ps.length ∧ ps.length ≤ 3) && ps.all (shB d)
  | d + 1, within k p => decide (1 ≤ k ∧ k ≤ 2) && shB d p
  | d + 1, last p q => shB d p && shB d q
  | d + 1, shield p => shB d p
  | _ + 1, t => isLeaf t
/-- fixed, any, called off, leaves -/
abbrev Q4 := Nat × Nat × Nat × Nat
def nums (t : Tm) : Q4 := (cG t true, cG t false, cO t, (leaves t).length)
def midsQ : List Q4 := [(1, 1, 0, 1), (2, 2, 0, 2), (3, 3, 0, 3), (3, 3, 0, 2), (7, 7, 0, 3), (1, 1, 0, 2), (1, 1, 0, 3), (1, 2, 0, 1), (2, 2, 1, 2), (1, 1, 1, 1)]
theorem leaf_nums {t : Tm} (h : isLeaf t = true) : cG t true = 1 ∧ cG t false = 1 ∧ cO t = 0 ∧ (leaves t).length = 1 := by
  cases t <;> simp [isLeaf] at h <;> simp [cG, cO, leaves]
theorem two_or_three {α : Type} {l : List α} (h : 2 ≤ l.length ∧ l.length ≤ 3) : (∃ a b, l = [a, b]) ∨ ∃ a b c, l = [a, b, c] := by
  match l, h with
  | [a, b], _ => exact .inl ⟨a, b, rfl⟩
  | [a, b, c], _ => exact .inr ⟨a, b, c, rfl⟩
theorem one_or_two {α : Type} {l : List α} (h : 1 ≤ l.length ∧ l.length ≤ 2) : (∃ a, l = [a]) ∨ ∃ a b, l = [a, b] := by
  match l, h with
  | [a], _ => exact .inl ⟨a, rfl⟩
  | [a, b], _ => exact .inr ⟨a, b, rfl⟩
theorem mid_nums {t : Tm} (h : shB 1 t = true) : nums t ∈ midsQ := by
  cases t with
  | rest => simp [nums, midsQ, cG, cO, leaves]
  | say w => simp [nums, midsQ, cG, cO, leaves]
  | wait w => simp [nums, midsQ, cG, cO, leaves]
  | thn p ps =>
    simp [shB] at h
    obtain ⟨h1, h2, h3⟩ := h
    obtain ⟨a1, a2, a3, a4⟩ := leaf_nums h2
    rcases one_or_two h1 with ⟨a, rfl⟩ | ⟨a, b, rfl⟩
    · obtain ⟨b1, b2, b3, b4⟩ := leaf_nums (h3 a (by simp))
      simp [nums, midsQ, cG, cO, cS, cOS, leaves, leavesL, a1, a2, a3, a4, b1, b2, b3, b4]
    · obtain ⟨b1, b2, b3, b4⟩ := leaf_nums (h3 a (by simp))
      obtain ⟨c1, c2, c3, c4⟩ := leaf_nums (h3 b (by simp))
      simp [nums, midsQ, cG, cO, cS, cOS, leaves, leavesL, a1, a2, a3, a4, b1, b2, b3, b4, c1, c2, c3, c4]
  | both ps =>
    simp [shB] at h
    obtain ⟨h1, h3⟩ := h
    rcases two_or_three h1 with ⟨a, b, rfl⟩ | ⟨a, b, c, rfl⟩
    · obtain ⟨b1, b2, b3, b4⟩ := leaf_nums (h3 a (by simp))
      obtain ⟨c1, c2, c3, c4⟩ := leaf_nums (h3 b (by simp))
      simp [nums, midsQ, cG, cO, cP, cPO, leaves, leavesL, b1, b2, b3, b4, c1, c2, c3, c4]
    · obtain ⟨b1, b2, b3, b4⟩ := leaf_nums (h3 a (by simp))
      obtain ⟨c1, c2, c3, c4⟩ := leaf_nums (h3 b (by simp))
      obtain ⟨d1, d2, d3, d4⟩ := leaf_nums (h3 c (by simp))
      simp [nums, midsQ, cG, cO, cP, cPO, leaves, leavesL, b1, b2, b3, b4, c1, c2, c3, c4, d1, d2, d3, d4]
  | first ps =>
    simp [shB] at h
    obtain ⟨h1, h3⟩ := h
    rcases two_or_three h1 with ⟨a, b, rfl⟩ | ⟨a, b, c, rfl⟩
    · obtain ⟨b1, b2, b3, b4⟩ := leaf_nums (h3 a (by simp))
      obtain ⟨c1, c2, c3, c4⟩ := leaf_nums (h3 b (by simp))
      simp [nums, midsQ, cG, cO, cN, cPO, leaves, leavesL, b1, b2, b3, b4, c1, c2, c3, c4]
    · obtain ⟨b1, b2, b3, b4⟩ := leaf_nums (h3 a (by simp))
      obtain ⟨c1, c2, c3, c4⟩ := leaf_nums (h3 b (by simp))
      obtain ⟨d1, d2, d3, d4⟩ := leaf_nums (h3 c (by simp))
      simp [nums, midsQ, cG, cO, cN, cPO, leaves, leavesL, b1, b2, b3, b4, c1, c2, c3, c4, d1, d2, d3, d4]
  | within k p =>
    simp [shB] at h
    obtain ⟨h1, h2⟩ := h
    obtain ⟨a1, a2, a3, a4⟩ := leaf_nums h2
    have : k = 1 ∨ k = 2 := by omega
    rcases this with rfl | rfl <;> simp [nums, midsQ, cG, cO, leaves, a1, a2, a3, a4]
  | last p q =>
    simp [shB] at h
    obtain ⟨a1, a2, a3, a4⟩ := leaf_nums h.1
    obtain ⟨b1, b2, b3, b4⟩ := leaf_nums h.2
    simp [nums, midsQ, cG, cO, leaves, a1, a2, a3, a4, b1, b2, b3, b4]
  | shield p =>
    simp [shB] at h
    obtain ⟨a1, a2, a3, a4⟩ := leaf_nums h
    simp [nums, midsQ, cG, cO, leaves, a1, a2, a3, a4]
  | keep p => simp [shB, isLeaf] at h
/-- the bound for so many leaves -/
def Bd (l : Nat) : Nat := if l = 2 then 5 else if l = 3 then 9 else 2 ^ l
def okQ (f o l : Nat) : Bool := decide (f + 1 ≤ Bd l) && decide (o ≤ 8)
theorem q_then2 : (midsQ.all fun a => midsQ.all fun b => okQ (a.1 + b.2.1) (a.2.2.1 + b.2.2.1) (a.2.2.2 + b.2.2.2)) = true := by decide +kernel
theorem q_then3 : (midsQ.all fun a => midsQ.all fun b => midsQ.all fun c => okQ (a.1 + (b.2.1 + c.2.1)) (a.2.2.1 + (b.2.2.1 + c.2.2.1)) (a.2.2.2 + (b.2.2.2 + c.2.2.2))) = true := by decide +kernel
theorem q_both2 : (midsQ.all fun a => midsQ.all fun b => okQ ((1 + a.1) * (1 + b.1) - 1) ((1 + a.2.2.1) * (1 + b.2.2.1) - 1) (a.2.2.2 + b.2.2.2)) = true := by decide +kernel
theorem q_both3 : (midsQ.all fun a => midsQ.all fun b => midsQ.all fun c => okQ ((1 + a.1) * ((1 + b.1) * (1 + c.1)) - 1) ((1 + a.2.2.1) * ((1 + b.2.2.1) * (1 + c.2.2.1)) - 1) (a.2.2.2 + (b.2.2.2 + c.2.2.2))) = true := by decide +kernel
theorem q_first2 : (midsQ.all fun a => midsQ.all fun b => okQ (a.1 * b.1 + ((1 + a.2.2.1) * (1 + b.2.2.1) - 1)) ((1 + a.2.2.1) * (1 + b.2.2.1) - 1) (a.2.2.2 + b.2.2.2)) = true := by decide +kernel
theorem q_first3 : (midsQ.all fun a => midsQ.all fun b => midsQ.all fun c => okQ (a.1 * (b.1 * c.1) + ((1 + a.2.2.1) * ((1 + b.2.2.1) * (1 + c.2.2.1)) - 1)) ((1 + a.2.2.1) * ((1 + b.2.2.1) * (1 + c.2.2.1)) - 1) (a.2.2.2 + (b.2.2.2 + c.2.2.2))) = true := by decide +kernel
theorem q_within : (midsQ.all fun a => okQ (max a.1 a.2.2.1) a.2.2.1 a.2.2.2) = true := by decide +kernel
theorem q_last : (midsQ.all fun a => midsQ.all fun b => okQ (a.1 + b.2.1) (a.2.2.1 + b.2.1) (a.2.2.2 + b.2.2.2)) = true := by decide +kernel
theorem q_shield : (midsQ.all fun a => okQ a.1 a.2.1 a.2.2.2) = true := by decide +kernel
theorem okQ_iff {f o l : Nat} : okQ f o l = true ↔ f + 1 ≤ Bd l ∧ o ≤ 8 := by simp [okQ]
theorem root_nums {t : Tm} (h : shB 2 t = true) : cG t true + 1 ≤ Bd (leaves t).length ∧ cO t ≤ 8 := by
  have mid : ∀ p, shB 1 p = true → nums p ∈ midsQ := fun p hp => mid_nums hp
  cases t with
  | rest => simp [cG, cO, leaves, Bd]
  | say w => simp [cG, cO, leaves, Bd]
  | wait w => simp [cG, cO, leaves, Bd]
  | thn p ps =>
    rw [shB] at h
    simp at h
    obtain ⟨h1, h2, h3⟩ := h
    have m1 := mid p h2
    rcases one_or_two h1 with ⟨a, rfl⟩ | ⟨a, b, rfl⟩
    · have m2 := mid a (h3 a (by simp))
      have := okQ_iff.mp (List.all_eq_true.mp (List.all_eq_true.mp q_then2 _ m1) _ m2)
      simpa [nums, cG, cO, cS, cOS, leaves, leavesL] using this
    · have m2 := mid a (h3 a (by simp))
      have m3 := mid b (h3 b (by simp))
      have := okQ_iff.mp (List.all_eq_true.mp (List.all_eq_true.mp (List.all_eq_true.mp q_then3 _ m1) _ m2) _ m3)
      simpa [nums, cG, cO, cS, cOS, leaves, leavesL] using this
  | both ps =>
    rw [shB] at h
    simp at h
    obtain ⟨h1, h3⟩ := h
    rcases two_or_three h1 with ⟨a, b, rfl⟩ | ⟨a, b, c, rfl⟩
    · have m1 := mid a (h3 a (by simp))
      have m2 := mid b (h3 b (by simp))
      have := okQ_iff.mp (List.all_eq_true.mp (List.all_eq_true.mp q_both2 _ m1) _ m2)
      simpa [nums, cG, cO, cP, cPO, leaves, leavesL] using this
    · have m1 := mid a (h3 a (by simp))
      have m2 := mid b (h3 b (by simp))
      have m3 := mid c (h3 c (by simp))
      have := okQ_iff.mp (List.all_eq_true.mp (List.all_eq_true.mp (List.all_eq_true.mp q_both3 _ m1) _ m2) _ m3)
      simpa [nums, cG, cO, cP, cPO, leaves, leavesL] using this
  | first ps =>
    rw [shB] at h
    simp at h
    obtain ⟨h1, h3⟩ := h
    rcases two_or_three h1 with ⟨a, b, rfl⟩ | ⟨a, b, c, rfl⟩
    · have m1 := mid a (h3 a (by simp))
      have m2 := mid b (h3 b (by simp))
      have := okQ_iff.mp (List.all_eq_true.mp (List.all_eq_true.mp q_first2 _ m1) _ m2)
      simpa [nums, cG, cO, cN, cPO, leaves, leavesL] using this
    · have m1 := mid a (h3 a (by simp))
      have m2 := mid b (h3 b (by simp))
      have m3 := mid c (h3 c (by simp))
      have := okQ_iff.mp (List.all_eq_true.mp (List.all_eq_true.mp (List.all_eq_true.mp q_first3 _ m1) _ m2) _ m3)
      simpa [nums, cG, cO, cN, cPO, leaves, leavesL] using this
  | within k p =>
    rw [shB] at h
    simp at h
    have := okQ_iff.mp (List.all_eq_true.mp q_within _ (mid p h.2))
    simpa [nums, cG, cO, leaves] using this
  | last p q =>
    rw [shB] at h
    simp at h
    have := okQ_iff.mp (List.all_eq_true.mp (List.all_eq_true.mp q_last _ (mid p h.1)) _ (mid q h.2))
    simpa [nums, cG, cO, leaves] using this
  | shield p =>
    rw [shB] at h
    have := okQ_iff.mp (List.all_eq_true.mp q_shield _ (mid p h))
    simpa [nums, cG, cO, leaves] using this
  | keep p => simp [shB, isLeaf] at h
theorem bd_pairs : ((List.range 9).all fun a => (List.range 9).all fun b => !decide (a + b ≤ 12) || (decide (Bd a * Bd b ≤ 4096) && decide ((Bd a - 1) * (Bd b - 1) + 81 ≤ 4096))) = true := by decide +kernel
theorem bd_two {a b : Nat} (ha : a ≤ 8) (hb : b ≤ 8) (h : a + b ≤ 12) : Bd a * Bd b ≤ 4096 ∧ (Bd a - 1) * (Bd b - 1) + 81 ≤ 4096 := by
  have := List.all_eq_true.mp (List.all_eq_true.mp bd_pairs a (List.mem_range.mpr (by omega))) b (List.mem_range.mpr (by omega))
  simp [h] at this
  omega
end Tm
end LT
/-! # Ct4 -/
namespace LT
open Tm
theorem pick_map {α β : Type} {f : α → β} : ∀ {l : List β} {xs : List α}, (∀ q ∈ l, q ∈ xs.map f) → ∃ L : List α, L.map f = l ∧ ∀ a ∈ L, a ∈ xs
  | [], xs, _ => ⟨[], rfl, fun a h => by cases h⟩
  | q :: ks, xs, h => by
    obtain ⟨a, ha, e1⟩ := List.mem_map.mp (h q List.mem_cons_self)
    obtain ⟨L, e2, hL⟩ := pick_map (l := ks) (xs := xs) fun r hr => h r (List.mem_cons_of_mem _ hr)
    refine ⟨a :: L, by rw [List.map_cons, e1, e2], fun b hb => ?_⟩
    rcases List.mem_cons.mp hb with z | z
    · rw [z]; exact ha
    · exact hL b z
theorem Few.map {α β : Type} {xs : List α} (h : Few xs) (f : α → β) : Few (xs.map f) := fun l hn hl => by
  obtain ⟨L, e, hL⟩ := pick_map hl
  subst e
  rw [List.length_map]
  exact h L (List.Pairwise.of_map f (fun _ _ hne e => hne (congrArg f e)) hn) hL
/-- what the standings of a plan have in common -/
def InvS (p : Tm) (k : Nat) (came : List Nat) (S : List St) : Prop := ∀ s ∈ S, SG p (some k) s.t ∧ s.came = came ∧ s.gone = 0
theorem max_lv : ∀ (l : List Tm), l ≠ [] → ∃ x ∈ l, ∀ y ∈ l, lv y ≤ lv x
  | [], h => absurd rfl h
  | [a], _ => ⟨a, by simp, fun y hy => by rw [List.mem_singleton.mp hy]; exact Nat.le_refl _⟩
  | a :: b :: l, _ => by
    obtain ⟨x, hx, h⟩ := max_lv (b :: l) (by simp)
    rcases Nat.le_total (lv a) (lv x) with c | c
    · refine ⟨x, List.mem_cons_of_mem _ hx, fun y hy => ?_⟩
      rcases List.mem_cons.mp hy with e | hy
      · rw [e]; exact c
      · exact h y hy
    · refine ⟨a, List.mem_cons_self, fun y hy => ?_⟩
      rcases List.mem_cons.mp hy with e | hy
      · rw [e]; exact Nat.le_refl _
      · exact Nat.le_trans (h y hy) c
theorem few_step {p : Tm} (c : Clo p) (hG : ∀ k, (G p (some k)).length ≤ 4095) {k : Nat} {came : List Nat} {S : List St} (hS : InvS p k came S) (hf : Few S) {l : Lb} (hl : l ≠ .off) :
    Few (movesL S l) ∧ ∃ k' came', InvS p k' came' (movesL S l) := by
  have gen : (∀ s, s.t.isR = false → moves s l = ((steps s.came s.t).filter fun u => decide (u.1 = l)).map fun u => ⟨u.2, s.came, s.gone⟩) → Few (movesL S l) ∧ ∃ k' came', InvS p k' came' (movesL S l) := by
    intro hm
    have key : ∀ u ∈ movesL S l, ∃ s ∈ S, (l, u.t) ∈ steps s.came s.t ∧ u.came = came ∧ u.gone = 0 := fun u hu => by
      obtain ⟨s, hs, h⟩ := List.mem_flatMap.mp hu
      have hr : s.t.isR = false := by
        cases hh : s.t.isR with
        | false => rfl
        | true => unfold moves at h; rw [if_pos hh] at h; cases h
      rw [hm s hr] at h
      obtain ⟨v, hv, rfl⟩ := List.mem_map.mp h
      obtain ⟨h1, h2⟩ := List.mem_filter.mp hv
      have h3 : v.1 = l := by simpa using h2
      obtain ⟨a, b⟩ := v
      simp only at h3
      subst h3
      exact ⟨s, hs, h1, (hS s hs).2.1, (hS s hs).2.2⟩
    refine ⟨fun L hn hL => ?_, k, came, fun u hu => ?_⟩
    · obtain ⟨x0, hx0, hmax⟩ := max_lv (rest :: G p (some k)) (by simp)
      have nt : (L.map (·.t)).Nodup := by
        refine List.pairwise_map.mpr (hn.imp_of_mem fun {a b} ha hb hne e => hne ?_)
        obtain ⟨_, _, _, a1, a2⟩ := key a (hL a ha)
        obtain ⟨_, _, _, b1, b2⟩ := key b (hL b hb)
        obtain ⟨t, c, g⟩ := a
        obtain ⟨t', c', g'⟩ := b
        simp only at e a1 a2 b1 b2
        rw [e, a1, a2, b1, b2]
      have nx : x0 ∉ L.map (·.t) := fun h => by
        obtain ⟨u, hu, e⟩ := List.mem_map.mp h
        obtain ⟨s, hs, h1, _⟩ := key u (hL u hu)
        have h2 := lv_steps _ _ _ h1
        have h3 := hmax s.t (mem_of_cons.mpr (hS s hs).1)
        simp only at h2
        rw [e] at h2
        omega
      have := nodup_len' (l := x0 :: L.map (·.t)) (m := rest :: G p (some k)) (List.nodup_cons.mpr ⟨nx, nt⟩) fun y hy => by
        rcases List.mem_cons.mp hy with e | hy
        · rw [e]; exact hx0
        · obtain ⟨u, hu, rfl⟩ := List.mem_map.mp hy
          obtain ⟨s, hs, h1, _⟩ := key u (hL u hu)
          exact mem_of_cons.mpr (c.st _ _ _ _ _ (hS s hs).1 h1)
      have := hG k
      simp at *
      omega
    · obtain ⟨s, hs, h1, h2, h3⟩ := key u hu
      exact ⟨c.st _ _ _ _ _ (hS s hs).1 h1, h2, h3⟩
  have img : ∀ (f : St → St) (k' : Nat) (came' : List Nat), (∀ s ∈ S, ∀ u ∈ moves s l, u = f s) → (∀ s ∈ S, ∀ u ∈ moves s l, SG p (some k') u.t ∧ u.came = came' ∧ u.gone = 0) → Few (movesL S l) ∧ ∃ k' came', InvS p k' came' (movesL S l) := by
    intro f k' came' h1 h2
    refine ⟨(hf.map f).sub fun u hu => ?_, k', came', fun u hu => ?_⟩
    · obtain ⟨s, hs, h⟩ := List.mem_flatMap.mp hu
      exact List.mem_map.mpr ⟨s, hs, (h1 s hs u h).symm⟩
    · obtain ⟨s, hs, h⟩ := List.mem_flatMap.mp hu
      exact h2 s hs u h
  cases l with
  | off => exact absurd rfl hl
  | say w => exact gen fun s hr => lab_case s _ (by simp) (by simp) (by simp) hr
  | take w => exact gen fun s hr => lab_case s _ (by simp) (by simp) (by simp) hr
  | tick =>
    refine img (fun s => ⟨tick s.t, s.came, s.gone⟩) (k + 1) came (fun s hs u hu => ?_) fun s hs u hu => ?_
    · unfold moves at hu
      split at hu
      · cases hu
      · simpa using hu
    · unfold moves at hu
      split at hu
      · cases hu
      · rw [List.mem_singleton.mp hu]
        exact ⟨c.tk (some k) _ (hS s hs).1, (hS s hs).2.1, (hS s hs).2.2⟩
  | come e =>
    refine img (fun s => ⟨s.t, addC s.came e, s.gone⟩) k (addC came e) (fun s hs u hu => ?_) fun s hs u hu => ?_
    · unfold moves at hu
      split at hu
      · cases hu
      · simp only at hu
        split at hu
        · cases hu
        · simpa using hu
    · unfold moves at hu
      split at hu
      · cases hu
      · simp only at hu
        split at hu
        · cases hu
        · rw [List.mem_singleton.mp hu]
          exact ⟨(hS s hs).1, by simp only; rw [(hS s hs).2.1], (hS s hs).2.2⟩
theorem few_all {p : Tm} (c : Clo p) (hG : ∀ k, (G p (some k)).length ≤ 4095) : ∀ (row : List Lb) (S : List St) (k : Nat) (came : List Nat), InvS p k came S → Few S → (∀ l ∈ row, l ≠ .off) → FewFrom S row
  | [], _, _, _, _, _, _ => trivial
  | l :: row, S, k, came, hS, hf, hl => by
    obtain ⟨h1, k', came', h2⟩ := few_step c hG hS hf (hl l List.mem_cons_self)
    exact ⟨h1, few_all c hG row _ k' came' h2 h1 fun m hm => hl m (List.mem_cons_of_mem _ hm)⟩
theorem few_from {p : Tm} (ok : okP p = true) (hG : ∀ k, (G p (some k)).length ≤ 4095) {row : List Lb} (hl : ∀ l ∈ row, l ≠ .off) : FewFrom [⟨begun p, [], 0⟩] row :=
  few_all (clo p ok) hG row _ 0 [] (fun s hs => by rw [List.mem_singleton.mp hs]; exact ⟨(clo p ok).b.1, rfl, rfl⟩) (Few.short (by simp)) hl
/-! ## the law's plans -/
/-- a piece of the law -/
structure Piece (t : Tm) : Prop where
  sh : shB 2 t = true
  lv : (leaves t).length ≤ 8
theorem sh_okP : ∀ (d : Nat) (t : Tm), shB d t = true → okP t = true
  | 0, t, h => by cases t <;> simp [shB, isLeaf] at h <;> rfl
  | d + 1, t, h => by
    cases t with
    | thn p ps =>
      rw [shB] at h
      simp at h
      simp only [okP]
      rw [sh_okP d p h.2.1, okPs_iff.mpr fun q hq => sh_okP d q (h.2.2 q hq)]
      rfl
    | both ps =>
      rw [shB] at h
      simp at h
      simp only [okP]
      exact okPs_iff.mpr fun q hq => sh_okP d q (h.2 q hq)
    | first ps =>
      rw [shB] at h
      simp at h
      simp only [okP]
      exact okPs_iff.mpr fun q hq => sh_okP d q (h.2 q hq)
    | within k p =>
      rw [shB] at h
      simp at h
      simp only [okP]
      rw [sh_okP d p h.2, decide_eq_true h.1.1]
      rfl
    | last p q =>
      rw [shB] at h
      simp at h
      simp only [okP]
      rw [sh_okP d p h.1, sh_okP d q h.2]
      rfl
    | shield p =>
      rw [shB] at h
      simp only [okP]
      exact sh_okP d p h
    | keep p => simp [shB, isLeaf] at h
    | _ => rfl
theorem piece_few {t : Tm} (h : Piece t) {row : List Lb} (hl : ∀ l ∈ row, l ≠ .off) : FewFrom [⟨begun t, [], 0⟩] row := by
  refine few_from (sh_okP 2 t h.sh) (fun k => ?_) hl
  have := len_G t (some k)
  have h2 := (root_nums h.sh).1
  have h3 : Bd (leaves t).length ≤ 256 := by
    have : ∀ l, l ≤ 8 → Bd l ≤ 256 := by
      intro l hl
      have : ((List.range 9).all fun l => decide (Bd l ≤ 256)) = true := by decide +kernel
      simpa using List.all_eq_true.mp this l (List.mem_range.mpr (by omega))
    exact this _ h.lv
  simp at this
  omega
section
variable {a b : Tm}
theorem both_count (ha : Piece a) (hb : Piece b) (h : (leaves a).length + (leaves b).length ≤ 12) : cG (both [a, b]) true ≤ 4095 ∧ cO (both [a, b]) ≤ 80 ∧ cG (first [a, b]) true ≤ 4095 := by
  obtain ⟨a1, a2⟩ := root_nums ha.sh
  obtain ⟨b1, b2⟩ := root_nums hb.sh
  obtain ⟨h1, h2⟩ := bd_two ha.lv hb.lv h
  have m1 : (1 + cG a true) * (1 + cG b true) ≤ Bd (leaves a).length * Bd (leaves b).length := Nat.mul_le_mul (by omega) (by omega)
  have m2 : (1 + cO a) * (1 + cO b) ≤ 9 * 9 := Nat.mul_le_mul (by omega) (by omega)
  have m3 : cG a true * cG b true ≤ (Bd (leaves a).length - 1) * (Bd (leaves b).length - 1) := Nat.mul_le_mul (by omega) (by omega)
  simp only [cG, cO, cP, cPO, cN, Nat.mul_one]
  omega
theorem pair_okP (ha : Piece a) (hb : Piece b) : okP (both [a, b]) = true ∧ okP (first [a, b]) = true := by
  have h1 := sh_okP 2 a ha.sh
  have h2 := sh_okP 2 b hb.sh
  simp [okP, okPs, h1, h2]
theorem both_few (ha : Piece a) (hb : Piece b) (h : (leaves a).length + (leaves b).length ≤ 12) {row : List Lb} (hl : ∀ l ∈ row, l ≠ .off) : FewFrom [⟨begun (both [a, b]), [], 0⟩] row :=
  few_from (pair_okP ha hb).1 (fun k => Nat.le_trans (len_G _ _) (both_count ha hb h).1) hl
theorem race_few (ha : Piece a) (hb : Piece b) (h : (leaves a).length + (leaves b).length ≤ 12) {row : List Lb} (hl : ∀ l ∈ row, l ≠ .off) : FewFrom [⟨begun (first [a, b]), [], 0⟩] row :=
  few_from (pair_okP ha hb).2 (fun k => Nat.le_trans (len_G _ _) (both_count ha hb h).2.2) hl
theorem limit_few (ha : Piece a) (hb : Piece b) (h : (leaves a).length + (leaves b).length ≤ 12) {n : Nat} (hn : 1 ≤ n) {row : List Lb} (hl : ∀ l ∈ row, l ≠ .off) : FewFrom [⟨begun (within n (both [a, b])), [], 0⟩] row := by
  have ok := (pair_okP ha hb).1
  have hc := both_count ha hb h
  refine few_from (p := within n (both [a, b])) (by rw [okP, ok, decide_eq_true hn]; rfl) (fun k => Nat.le_trans (len_G _ _) ?_) hl
  simp only [cG, Option.isSome_some] at *
  simp only [cO] at *
  omega
end
end LT
/-! # Wt -/
namespace LT
namespace Tm
/-! ## weights -/
mutual
def wt (f : Lb → Nat) (k : Nat) : Tm → Nat
  | rest => 0
  | say w => f (.say w)
  | wait e => f (.take e)
  | thn t ps => wt f k t + wts f k ps
  | both ts => wts f k ts
  | first ts => wts f k ts
  | within _ t => wt f k t
  | last t p => k + wt f k t + wt f k p
  | shield t => k + wt f k t
  | keep t => k + wt f k t
def wts (f : Lb → Nat) (k : Nat) : List Tm → Nat
  | [] => 0
  | t :: ts => wt f k t + wts f k ts
end
theorem wts_filter (f : Lb → Nat) (k : Nat) (q : Tm → Bool) : ∀ ts : List Tm, wts f k (ts.filter q) ≤ wts f k ts
  | [] => Nat.le_refl _
  | t :: ts => by
    have := wts_filter f k q ts
    simp only [List.filter_cons]
    split <;> simp only [wts] <;> omega
theorem wt_gath (f : Lb → Nat) (k : Nat) (ts : List Tm) : wt f k (gath ts) ≤ wts f k ts := by
  have := wts_filter f k (fun t => !t.isR) ts
  rcases gath_cases ts with ⟨h1, h2⟩ | ⟨t, h0, h1, h2⟩ | ⟨a, b, l, h1, h2⟩
  · rw [h1]; simp only [wt]; omega
  · rw [h1]; rw [h2] at this; simp only [wts] at this; omega
  · rw [h1]; rw [h2] at this; simp only [wt]; omega
theorem wt_kept (f : Lb → Nat) (k : Nat) (t : Tm) : wt f k (kept t) ≤ k + wt f k t := by cases t <;> simp only [kept, wt] <;> omega
theorem wt_timed (f : Lb → Nat) (k : Nat) (n : Nat) (t : Tm) : wt f k (timed n t) ≤ wt f k t := by
  unfold timed
  split <;> simp only [wt] <;> omega
mutual
theorem wt_begun (f : Lb → Nat) (k : Nat) : ∀ p : Tm, wt f k (begun p) ≤ wt f k p
  | rest => Nat.le_refl _
  | say _ => Nat.le_refl _
  | wait _ => Nat.le_refl _
  | thn p ps => by
    have := wt_begun f k p
    have := wt_join f k ps (begun p)
    simp only [begun, wt]
    omega
  | both ps => by
    have := wt_begunL f k ps
    have := wt_gath f k (begunL ps)
    simp only [begun, wt]
    omega
  | first ps => by
    have := wt_begunL f k ps
    have := wt_offBL f k ps
    have := wt_gath f k (offBL ps)
    simp only [begun]
    split <;> (try simp only [wt]) <;> omega
  | within n p => by
    have := wt_begun f k p
    have := wt_timed f k n (begun p)
    simp only [begun, wt]
    omega
  | last p q => by
    have := wt_begun f k p
    have := wt_begun f k q
    have := wt_kept f k (begun q)
    simp only [begun]
    split <;> (try simp only [wt]) <;> omega
  | shield p => by
    have := wt_begun f k p
    have := wt_kept f k (begun p)
    simp only [begun, wt]
    omega
  | keep p => by
    have := wt_begun f k p
    have := wt_kept f k (begun p)
    simp only [begun, wt]
    omega
theorem wt_begunL (f : Lb → Nat) (k : Nat) : ∀ ps : List Tm, wts f k (begunL ps) ≤ wts f k ps
  | [] => Nat.le_refl _
  | p :: ps => by
    have := wt_begun f k p
    have := wt_begunL f k ps
    simp only [begunL, wts]
    omega
theorem wt_join (f : Lb → Nat) (k : Nat) : ∀ (ps : List Tm) (t : Tm), wt f k (joinB ps t) ≤ wt f k t + wts f k ps
  | [], t => by simp only [joinB, wts]; omega
  | q :: qs, t => by
    have := wt_begun f k q
    have := wt_join f k qs (begun q)
    simp only [joinB]
    split <;> (try simp only [wt, wts]) <;> (try simp only [wts]) <;> omega
theorem wt_offB (f : Lb → Nat) (k : Nat) : ∀ p : Tm, wt f k (offB p) ≤ wt f k p
  | rest => Nat.le_refl _
  | say _ => by simp [offB, wt]
  | wait _ => by simp [offB, wt]
  | thn p ps => by
    have := wt_offB f k p
    have := wt_offJ f k ps
    simp only [offB, wt]
    split <;> omega
  | both ps => by
    have := wt_offBL f k ps
    have := wt_gath f k (offBL ps)
    simp only [offB, wt]
    omega
  | first ps => by
    have := wt_offBL f k ps
    have := wt_gath f k (offBL ps)
    simp only [offB, wt]
    omega
  | within n p => by
    have := wt_offB f k p
    simp only [offB, wt]
    omega
  | last p q => by
    have := wt_offB f k p
    have := wt_begun f k q
    have := wt_kept f k (begun q)
    simp only [offB]
    split <;> (try simp only [wt]) <;> omega
  | shield p => by
    have := wt_begun f k p
    have := wt_kept f k (begun p)
    simp only [offB, wt]
    omega
  | keep p => by
    have := wt_begun f k p
    have := wt_kept f k (begun p)
    simp only [offB, wt]
    omega
theorem wt_offBL (f : Lb → Nat) (k : Nat) : ∀ ps : List Tm, wts f k (offBL ps) ≤ wts f k ps
  | [] => Nat.le_refl _
  | p :: ps => by
    have := wt_offB f k p
    have := wt_offBL f k ps
    simp only [offBL, wts]
    omega
theorem wt_offJ (f : Lb → Nat) (k : Nat) : ∀ ps : List Tm, wt f k (offJ ps) ≤ wts f k ps
  | [] => by simp only [offJ, wt, wts]; omega
  | q :: qs => by
    have := wt_offB f k q
    have := wt_offJ f k qs
    simp only [offJ, wts]
    split <;> omega
end
theorem wt_lastd (f : Lb → Nat) (k : Nat) (t p : Tm) : wt f k (lastd t p) ≤ k + wt f k t + wt f k p := by
  have := wt_begun f k p
  have := wt_kept f k (begun p)
  unfold lastd
  split <;> (try simp only [wt]) <;> omega
mutual
theorem wt_off (f : Lb → Nat) (k : Nat) : ∀ t : Tm, wt f k (off t) ≤ wt f k t
  | rest => Nat.le_refl _
  | say _ => by simp [off, wt]
  | wait _ => by simp [off, wt]
  | thn t ps => by
    have := wt_off f k t
    simp only [off, wt]
    omega
  | both ts => by
    have := wt_offL f k ts
    have := wt_gath f k (offL ts)
    simp only [off, wt]
    omega
  | first ts => by
    have := wt_offL f k ts
    have := wt_gath f k (offL ts)
    simp only [off, wt]
    omega
  | within n t => by
    have := wt_off f k t
    simp only [off, wt]
    omega
  | last t p => by
    have := wt_off f k t
    have := wt_lastd f k (off t) p
    simp only [off, wt]
    omega
  | shield _ => Nat.le_refl _
  | keep _ => Nat.le_refl _
theorem wt_offL (f : Lb → Nat) (k : Nat) : ∀ ts : List Tm, wts f k (offL ts) ≤ wts f k ts
  | [] => Nat.le_refl _
  | t :: ts => by
    have := wt_off f k t
    have := wt_offL f k ts
    simp only [offL, wts]
    omega
end
theorem wt_race (f : Lb → Nat) (k : Nat) (ts : List Tm) : wt f k (race ts) ≤ wts f k ts := by
  have := wt_offL f k ts
  have := wt_gath f k (offL ts)
  unfold race
  split <;> (try simp only [wt]) <;> omega
mutual
theorem wt_steps (f : Lb → Nat) (k : Nat) (came : List Nat) : ∀ (t : Tm) (s : Lb × Tm), s ∈ steps came t → wt f k s.2 + f s.1 ≤ wt f k t
  | rest, s, h => by simp [steps] at h
  | say w, s, h => by simp [steps] at h; rw [h]; simp [wt]
  | wait e, s, h => by
    simp only [steps] at h
    split at h
    · simp at h; rw [h]; simp [wt]
    · cases h
  | thn t ps, s, h => by
    obtain ⟨u, hu, rfl⟩ := List.mem_map.mp h
    have := wt_steps f k came t u hu
    have := wt_join f k ps u.2
    simp only [wt]
    omega
  | both ts, s, h => by
    obtain ⟨u, hu, rfl⟩ := List.mem_map.mp h
    have := wt_stepsL f k came ts u hu
    have := wt_gath f k u.2
    simp only [wt]
    omega
  | first ts, s, h => by
    obtain ⟨u, hu, rfl⟩ := List.mem_map.mp h
    have := wt_stepsL f k came ts u hu
    have := wt_race f k u.2
    simp only [wt]
    omega
  | within n t, s, h => by
    obtain ⟨u, hu, rfl⟩ := List.mem_map.mp h
    have := wt_steps f k came t u hu
    have := wt_timed f k n u.2
    simp only [wt]
    omega
  | last t p, s, h => by
    obtain ⟨u, hu, rfl⟩ := List.mem_map.mp h
    have := wt_steps f k came t u hu
    have := wt_lastd f k u.2 p
    simp only [wt]
    omega
  | shield t, s, h => by
    obtain ⟨u, hu, rfl⟩ := List.mem_map.mp h
    have := wt_steps f k came t u hu
    have := wt_kept f k u.2
    simp only [wt]
    omega
  | keep t, s, h => by
    obtain ⟨u, hu, rfl⟩ := List.mem_map.mp h
    have := wt_steps f k came t u hu
    have := wt_kept f k u.2
    simp only [wt]
    omega
theorem wt_stepsL (f : Lb → Nat) (k : Nat) (came : List Nat) : ∀ (ts : List Tm) (s : Lb × List Tm), s ∈ stepsL came ts → wts f k s.2 + f s.1 ≤ wts f k ts
  | [], s, h => by simp [stepsL] at h
  | t :: ts, s, h => by
    simp only [stepsL] at h
    rcases List.mem_append.mp h with h | h
    · obtain ⟨u, hu, rfl⟩ := List.mem_map.mp h
      have := wt_steps f k came t u hu
      simp only [wts]
      omega
    · obtain ⟨u, hu, rfl⟩ := List.mem_map.mp h
      have := wt_stepsL f k came ts u hu
      simp only [wts]
      omega
end
end Tm
end LT
/-! # Lw1 -/
namespace LT
open Tm
namespace Tm
mutual
theorem wt_tick (f : Lb → Nat) (k : Nat) : ∀ t : Tm, wt f k (tick t) ≤ wt f k t
  | rest => Nat.le_refl _
  | say _ => Nat.le_refl _
  | wait _ => Nat.le_refl _
  | thn t ps => by
    have := wt_tick f k t
    have := wt_join f k ps (tick t)
    simp only [tick, wt]
    omega
  | both ts => by
    have := wt_tickL f k ts
    have := wt_gath f k (tickL ts)
    simp only [tick, wt]
    omega
  | first ts => by
    have := wt_tickL f k ts
    have := wt_race f k (tickL ts)
    simp only [tick, wt]
    omega
  | within n t => by
    have := wt_tick f k t
    have := wt_off f k (tick t)
    have := wt_timed f k (n - 1) (tick t)
    simp only [tick, wt]
    split <;> omega
  | last t p => by
    have := wt_tick f k t
    have := wt_lastd f k (tick t) p
    simp only [tick, wt]
    omega
  | shield t => by
    have := wt_tick f k t
    have := wt_kept f k (tick t)
    simp only [tick, wt]
    omega
  | keep t => by
    have := wt_tick f k t
    have := wt_kept f k (tick t)
    simp only [tick, wt]
    omega
theorem wt_tickL (f : Lb → Nat) (k : Nat) : ∀ ts : List Tm, wts f k (tickL ts) ≤ wts f k ts
  | [] => Nat.le_refl _
  | t :: ts => by
    have := wt_tick f k t
    have := wt_tickL f k ts
    simp only [tickL, wts]
    omega
end
theorem wt_moves (f : Lb → Nat) (k : Nat) {s : St} {l : Lb} : ∀ u ∈ moves s l, wt f k u.t ≤ wt f k s.t := by
  intro u hu
  unfold moves at hu
  split at hu
  · cases hu
  · have key : ∀ l', u ∈ ((steps s.came s.t).filter fun u => decide (u.1 = l')).map (fun u => (⟨u.2, s.came, s.gone⟩ : St)) → wt f k u.t ≤ wt f k s.t := fun l' h => by
      obtain ⟨v, hv, rfl⟩ := List.mem_map.mp h
      have := wt_steps f k _ _ v (List.mem_filter.mp hv).1
      simp only
      omega
    split at hu
    · split at hu
      · cases hu
      · rw [List.mem_singleton.mp hu]; exact Nat.le_refl _
    · rw [List.mem_singleton.mp hu]; exact wt_tick f k _
    · split at hu
      · rw [List.mem_singleton.mp hu]; exact wt_off f k _
      · cases hu
    · exact key _ hu
/-- nothing that outlives a calling off -/
abbrev plainT (t : Tm) : Prop := wt (fun _ => 0) 1 t = 0
theorem gath_rests {ts : List Tm} (h : ∀ t ∈ ts, t = rest) : gath ts = rest := by
  unfold gath
  rw [show (ts.filter fun t => !t.isR) = [] from List.filter_eq_nil_iff.mpr fun t ht => by rw [h t ht]; simp [isR]]
mutual
theorem off_plain : ∀ t : Tm, plainT t → off t = rest
  | rest, _ => rfl
  | say _, _ => rfl
  | wait _, _ => rfl
  | thn t ps, h => by simp only [plainT, wt] at h; exact off_plain t (by omega)
  | both ts, h => by simp only [plainT, wt] at h; simp only [off]; exact gath_rests (offL_plain ts h)
  | first ts, h => by simp only [plainT, wt] at h; simp only [off]; exact gath_rests (offL_plain ts h)
  | within _ t, h => by simp only [plainT, wt] at h; exact off_plain t h
  | last t p, h => by simp only [plainT, wt] at h; omega
  | shield t, h => by simp only [plainT, wt] at h; omega
  | keep t, h => by simp only [plainT, wt] at h; omega
theorem offL_plain : ∀ ts : List Tm, wts (fun _ => 0) 1 ts = 0 → ∀ t ∈ offL ts, t = rest
  | [], _, t, h => by simp [offL] at h
  | a :: ts, h, t, ht => by
    simp only [wts] at h
    simp only [offL] at ht
    rcases List.mem_cons.mp ht with e | ht
    · rw [e]; exact off_plain a (by omega)
    · exact offL_plain ts (by omega) t ht
end
/-! weights of plans by their leaves -/
mutual
theorem wt_leaves (f : Lb → Nat) : ∀ t : Tm, wt f 0 t = ((leaves t).map (wt f 0)).sum
  | rest => by simp [wt, leaves]
  | say _ => by simp [wt, leaves]
  | wait _ => by simp [wt, leaves]
  | thn p ps => by simp only [wt, leaves, List.map_append, List.sum_append]; rw [wt_leaves f p, wts_leaves f ps]
  | both ps => by simp only [wt, leaves]; rw [wts_leaves f ps]
  | first ps => by simp only [wt, leaves]; rw [wts_leaves f ps]
  | within _ p => by simp only [wt, leaves]; rw [wt_leaves f p]
  | last p q => by simp only [wt, leaves, List.map_append, List.sum_append]; rw [wt_leaves f p, wt_leaves f q]; omega
  | shield p => by simp only [wt, leaves]; rw [wt_leaves f p]; omega
  | keep p => by simp only [wt, leaves]; rw [wt_leaves f p]; omega
theorem wts_leaves (f : Lb → Nat) : ∀ ts : List Tm, wts f 0 ts = ((leavesL ts).map (wt f 0)).sum
  | [] => by simp [wts, leavesL]
  | p :: ps => by simp only [wts, leavesL, List.map_append, List.sum_append]; rw [wt_leaves f p, wts_leaves f ps]
end
def one (l l' : Lb) : Nat := if l = l' then 1 else 0
/-- a step's label stands among the plan's leaves -/
theorem label_leaf {p t : Tm} (h : ∀ f, wt f 0 t ≤ wt f 0 p) {came : List Nat} {l : Lb} {u : Tm} (hs : (l, u) ∈ steps came t) : (∃ w, l = .say w ∧ w ∈ words p) ∨ ∃ e, l = .take e ∧ wait e ∈ leaves p := by
  have h1 := wt_steps (one l) 0 came t (l, u) hs
  have h2 := h (one l)
  simp only [one, if_pos] at h1
  rw [wt_leaves (one l) p] at h2
  have h3 : 1 ≤ ((leaves p).map (wt (one l) 0)).sum := by omega
  have ex : ∃ x ∈ leaves p, wt (one l) 0 x ≠ 0 := by
    refine Classical.byContradiction fun hn => ?_
    have : ((leaves p).map (wt (one l) 0)).sum = 0 := by
      rw [List.sum_eq_zero_iff_forall_eq_nat]
      intro y hy
      obtain ⟨x, hx, rfl⟩ := List.mem_map.mp hy
      exact Classical.byContradiction fun hne => hn ⟨x, hx, hne⟩
    omega
  obtain ⟨x, hx, hne⟩ := ex
  rcases leaves_leaf p x hx with rfl | ⟨w, rfl⟩ | ⟨e, rfl⟩
  · exact absurd rfl hne
  · simp only [wt, one] at hne
    by_cases q : l = .say w
    · exact .inl ⟨w, q, by unfold words; exact List.mem_filterMap.mpr ⟨_, hx, rfl⟩⟩
    · exact absurd (if_neg q) hne
  · simp only [wt, one] at hne
    by_cases q : l = .take e
    · exact .inr ⟨e, q, hx⟩
    · exact absurd (if_neg q) hne
end Tm
/-! ## rows that the law draws -/
inductive Reach (p : Tm) : List Lb → St → Prop
  | start : Reach p [] ⟨begun p, [], 0⟩
  | step {row : List Lb} {s s' : St} {l : Lb} : Reach p row s → l ∈ labels s [0, 1] → l ≠ .off → s' ∈ moves s l → Reach p (row ++ [l]) s'
theorem stand_snoc (p : Tm) (row : List Lb) (l : Lb) : stand p (row ++ [l]) = movesL (stand p row) l := by
  unfold stand
  rw [List.foldl_append]
  rfl
theorem Reach.mem {p : Tm} {row : List Lb} {s : St} (h : Reach p row s) : s ∈ stand p row := by
  induction h with
  | start => exact List.mem_singleton.mpr rfl
  | @step row s s' l _ _ _ hm ih =>
    rw [stand_snoc]
    exact List.mem_flatMap.mpr ⟨s, ih, hm⟩
theorem Reach.wt {p : Tm} {row : List Lb} {s : St} (h : Reach p row s) (f : Lb → Nat) (k : Nat) : Tm.wt f k s.t ≤ Tm.wt f k p := by
  induction h with
  | start => exact wt_begun f k p
  | @step row s s' l _ _ _ hm ih => exact Nat.le_trans (wt_moves f k s' hm) ih
theorem Reach.noOff {p : Tm} {row : List Lb} {s : St} (h : Reach p row s) : ∀ l ∈ row, l ≠ .off := by
  induction h with
  | start => intro l hl; cases hl
  | @step row s s' l _ _ hne _ ih =>
    intro m hm
    rcases List.mem_append.mp hm with hm | hm
    · exact ih m hm
    · rw [List.mem_singleton.mp hm]; exact hne
theorem Reach.nonR {s : St} {l : Lb} (h : l ∈ labels s [0, 1]) : s.t.isR = false := by
  cases hr : s.t.isR with
  | false => rfl
  | true => unfold labels at h; rw [if_pos hr] at h; cases h
/-- what a label of labels is -/
theorem labels_cases {s : St} {l : Lb} (h : l ∈ labels s [0, 1]) : (∃ e, l = .come e ∧ e < 2 ∧ e ∉ s.came) ∨ l = .tick ∨ l = .off ∨ ∃ u, (l, u) ∈ steps s.came s.t := by
  have hr := Reach.nonR h
  unfold labels at h
  rw [if_neg (by rw [hr]; simp)] at h
  rcases List.mem_append.mp h with h | h
  · rcases List.mem_append.mp h with h | h
    · rcases List.mem_append.mp h with h | h
      · obtain ⟨e, he, rfl⟩ := List.mem_map.mp h
        obtain ⟨h1, h2⟩ := List.mem_filter.mp he
        exact .inl ⟨e, rfl, by simp at h1; omega, by simpa using h2⟩
      · exact .inr (.inl (List.mem_singleton.mp h))
    · split at h
      · exact .inr (.inr (.inl (List.mem_singleton.mp h)))
      · cases h
  · obtain ⟨u, hu, rfl⟩ := List.mem_map.mp h
    exact .inr (.inr (.inr ⟨u.2, hu⟩))
/-- a drawn label leads somewhere -/
theorem labels_move {s : St} {l : Lb} (h : l ∈ labels s [0, 1]) : moves s l ≠ [] := by
  have hr := Reach.nonR h
  have hst : ∀ u, (l, u) ∈ steps s.came s.t → (∀ e, l ≠ .come e) → l ≠ .tick → l ≠ .off → moves s l ≠ [] := fun u hu h1 h2 h3 => by
    rw [lab_case s l h1 h2 h3 hr]
    intro e
    have : (l, u) ∈ (steps s.came s.t).filter fun u => decide (u.1 = l) := List.mem_filter.mpr ⟨hu, by simp⟩
    rw [List.map_eq_nil_iff.mp e] at this
    cases this
  rcases labels_cases h with ⟨e, rfl, _, he⟩ | rfl | rfl | ⟨u, hu⟩
  · unfold moves
    rw [if_neg (by rw [hr]; simp)]
    simp [he]
  · unfold moves
    rw [if_neg (by rw [hr]; simp)]
    simp
  · unfold labels at h
    rw [if_neg (by rw [hr]; simp)] at h
    unfold moves
    rw [if_neg (by rw [hr]; simp)]
    by_cases hg : s.gone = 0
    · simp [hg]
    · exfalso
      rw [if_neg hg] at h
      simp at h
      obtain ⟨u, hu⟩ := h
      rcases label_leaf (fun f => Nat.le_refl _) hu with ⟨w, e, _⟩ | ⟨w, e, _⟩ <;> cases e
  · rcases label_leaf (fun f => Nat.le_refl _) hu with ⟨w, rfl, _⟩ | ⟨w, rfl, _⟩
    · exact hst u hu (by simp) (by simp) (by simp)
    · exact hst u hu (by simp) (by simp) (by simp)
/-- plans' words and events are in bounds -/
def InB (p : Tm) : Prop := (∀ w ∈ words p, w < 8) ∧ ∀ e, wait e ∈ leaves p → e < 4
theorem Reach.vl {p : Tm} (hp : InB p) {row : List Lb} {s : St} (h : Reach p row s) : ∀ l ∈ row, vL l = true := by
  induction h with
  | start => intro l hl; cases hl
  | @step row s s' l hr hl _ _ ih =>
    intro m hm
    rcases List.mem_append.mp hm with hm | hm
    · exact ih m hm
    · rw [List.mem_singleton.mp hm]
      rcases labels_cases hl with ⟨e, rfl, he, _⟩ | rfl | rfl | ⟨u, hu⟩
      · simp [vL]; omega
      · rfl
      · rfl
      · rcases label_leaf (fun f => hr.wt f 0) hu with ⟨w, rfl, hw⟩ | ⟨e, rfl, he⟩
        · simpa [vL] using hp.1 w hw
        · simpa [vL] using hp.2 e he
/-- no more says than words -/
def isSay : Lb → Nat
  | .say _ => 1
  | _ => 0
theorem Reach.says {p : Tm} {row : List Lb} {s : St} (h : Reach p row s) : (row.map isSay).sum + Tm.wt isSay 0 s.t ≤ Tm.wt isSay 0 p := by
  induction h with
  | start => simpa using wt_begun isSay 0 p
  | @step row s s' l hr hl _ hm ih =>
    rw [List.map_append, List.sum_append]
    have h1 := wt_moves isSay 0 s' hm
    have : isSay l + Tm.wt isSay 0 s'.t ≤ Tm.wt isSay 0 s.t := by
      cases l with
      | say w =>
        rw [lab_case s _ (by simp) (by simp) (by simp) (Reach.nonR hl)] at hm
        obtain ⟨v, hv, rfl⟩ := List.mem_map.mp hm
        obtain ⟨v1, v2⟩ := List.mem_filter.mp hv
        have := wt_steps isSay 0 _ _ v v1
        have e : v.1 = .say w := by simpa using v2
        rw [e] at this
        simp only at *
        omega
      | _ => simp only [isSay]; omega
    simp only [List.map_cons, List.map_nil, List.sum_cons, List.sum_nil]
    omega
end LT
/-! # Lw2 -/
namespace LT
open Tm
/-! ## the race -/
/-- a piece's own labels of a row (no takes stand in it) -/
def ownB (a : Tm) (l : Lb) : Bool := match l with
  | .come _ => true
  | .tick => true
  | .take _ => true
  | .say w => decide (w ∈ words a)
  | .off => false
def own (a : Tm) (row : List Lb) : List Lb := row.filter (ownB a)
theorem own_snoc_yes {a : Tm} {row : List Lb} {l : Lb} (h : ownB a l = true) : own a (row ++ [l]) = own a row ++ [l] := by
  unfold own
  rw [List.filter_append, List.filter_cons_of_pos h]
  rfl
theorem own_snoc_no {a : Tm} {row : List Lb} {l : Lb} (h : ¬ ownB a l = true) : own a (row ++ [l]) = own a row := by
  unfold own
  rw [List.filter_append, List.filter_cons_of_neg h]
  simp
/-- the piece has ended at some prefix of its own row -/
def Ended (a : Tm) (row : List Lb) : Prop := ∃ n, n ≤ (own a row).length ∧ ((stand a ((own a row).take n)).any fun s => s.t.isR) = true
theorem ended_now {a : Tm} {row : List Lb} {s : St} (h : s ∈ stand a (own a row)) (hr : s.t.isR = true) : Ended a row :=
  ⟨(own a row).length, Nat.le_refl _, by rw [List.take_length]; exact List.any_eq_true.mpr ⟨s, h, hr⟩⟩
theorem mem_snoc {a : Tm} {row : List Lb} {l : Lb} {s u : St} (h : s ∈ stand a row) (hu : u ∈ moves s l) : u ∈ stand a (row ++ [l]) := by
  rw [stand_snoc]
  exact List.mem_flatMap.mpr ⟨s, h, hu⟩
theorem moves_tick {t : Tm} {c : List Nat} {g : Nat} (hr : t.isR = false) : (⟨tick t, c, g⟩ : St) ∈ moves ⟨t, c, g⟩ .tick := by
  unfold moves
  rw [if_neg (by simpa using hr)]
  simp
theorem moves_come {t : Tm} {c : List Nat} {g e : Nat} (hr : t.isR = false) (he : e ∉ c) : (⟨t, addC c e, g⟩ : St) ∈ moves ⟨t, c, g⟩ (.come e) := by
  unfold moves
  rw [if_neg (by simpa using hr)]
  simp [he]
theorem moves_step {t u : Tm} {c : List Nat} {g : Nat} {l : Lb} (hr : t.isR = false) (h : (l, u) ∈ steps c t) (h1 : ∀ e, l ≠ .come e) (h2 : l ≠ .tick) (h3 : l ≠ .off) : (⟨u, c, g⟩ : St) ∈ moves ⟨t, c, g⟩ l := by
  rw [lab_case _ l h1 h2 h3 hr]
  exact List.mem_map.mpr ⟨(l, u), List.mem_filter.mpr ⟨h, by simp⟩, rfl⟩
theorem race_case {x y : Tm} (hx : plainT x) (hy : plainT y) : (race [x, y] = first [x, y] ∧ x.isR = false ∧ y.isR = false) ∨ (race [x, y] = rest ∧ (x.isR = true ∨ y.isR = true)) := by
  unfold race
  simp only [List.any_cons, List.any_nil, Bool.or_false]
  cases h1 : x.isR <;> cases h2 : y.isR
  · exact .inl ⟨by simp, rfl, rfl⟩
  · refine .inr ⟨?_, .inr rfl⟩
    rw [if_pos (by simp)]
    simp only [offL]
    rw [off_plain x hx, off_plain y hy]
    rfl
  · refine .inr ⟨?_, .inl rfl⟩
    rw [if_pos (by simp)]
    simp only [offL]
    rw [off_plain x hx, off_plain y hy]
    rfl
  · refine .inr ⟨?_, .inl rfl⟩
    rw [if_pos (by simp)]
    simp only [offL]
    rw [off_plain x hx, off_plain y hy]
    rfl
theorem plain_le {t p : Tm} (h : wt (fun _ => 0) 1 t ≤ wt (fun _ => 0) 1 p) (hp : plainT p) : plainT t := by
  unfold plainT at *
  omega
/-- the race, while it's on and behind its end -/
theorem race_inv {a b : Tm} (pa : plainT a) (pb : plainT b) (dj : ∀ w, w ∈ words a → w ∉ words b) {row : List Lb} {s : St} (h : Reach (first [a, b]) row s) (nt : ∀ e, .take e ∉ row) :
    (∃ x y, s.t = first [x, y] ∧ x.isR = false ∧ y.isR = false ∧ s.gone = 0 ∧ (⟨x, s.came, 0⟩ : St) ∈ stand a (own a row) ∧ (⟨y, s.came, 0⟩ : St) ∈ stand b (own b row) ∧ (∀ f k, wt f k x ≤ wt f k a) ∧ ∀ f k, wt f k y ≤ wt f k b) ∨
    (s.t = rest ∧ (Ended a row ∨ Ended b row)) := by
  induction h with
  | start =>
    have e : begun (first [a, b]) = race [begun a, begun b] := begun_first [a, b]
    rcases race_case (plain_le (wt_begun _ _ a) pa) (plain_le (wt_begun _ _ b) pb) with ⟨e2, r1, r2⟩ | ⟨e2, r⟩
    · exact .inl ⟨begun a, begun b, e.trans e2, r1, r2, rfl, List.mem_singleton.mpr rfl, List.mem_singleton.mpr rfl, fun f k => wt_begun f k a, fun f k => wt_begun f k b⟩
    · refine .inr ⟨e.trans e2, ?_⟩
      rcases r with r | r
      · exact .inl (ended_now (s := ⟨begun a, [], 0⟩) (List.mem_singleton.mpr rfl) r)
      · exact .inr (ended_now (s := ⟨begun b, [], 0⟩) (List.mem_singleton.mpr rfl) r)
  | @step row s s' l hR hl hne hm ih =>
    have nt' : ∀ e, .take e ∉ row := fun e he => nt e (List.mem_append_left _ he)
    have hr := Reach.nonR hl
    rcases ih nt' with ⟨x, y, e, rx, ry, hg, mx, my, wx, wy⟩ | ⟨e, _⟩
    · obtain ⟨t, came, gone⟩ := s
      simp only at e hg
      subst e hg
      rcases labels_cases hl with ⟨ev, rfl, _, he⟩ | rfl | rfl | ⟨u, hu⟩
      · -- come
        unfold moves at hm
        rw [if_neg (by rw [hr]; simp)] at hm
        simp only at he
        simp only [he, if_false] at hm
        rw [List.mem_singleton.mp hm]
        refine .inl ⟨x, y, rfl, rx, ry, rfl, ?_, ?_, wx, wy⟩
        · rw [own_snoc_yes rfl]; exact mem_snoc mx (moves_come rx he)
        · rw [own_snoc_yes rfl]; exact mem_snoc my (moves_come ry he)
      · -- tick
        unfold moves at hm
        rw [if_neg (by rw [hr]; simp)] at hm
        simp only at hm
        rw [List.mem_singleton.mp hm]
        have m1 : (⟨tick x, came, 0⟩ : St) ∈ stand a (own a (row ++ [.tick])) := by rw [own_snoc_yes rfl]; exact mem_snoc mx (moves_tick rx)
        have m2 : (⟨tick y, came, 0⟩ : St) ∈ stand b (own b (row ++ [.tick])) := by rw [own_snoc_yes rfl]; exact mem_snoc my (moves_tick ry)
        have wx' : ∀ f k, wt f k (tick x) ≤ wt f k a := fun f k => Nat.le_trans (wt_tick f k x) (wx f k)
        have wy' : ∀ f k, wt f k (tick y) ≤ wt f k b := fun f k => Nat.le_trans (wt_tick f k y) (wy f k)
        rcases race_case (plain_le (wx' _ _) pa) (plain_le (wy' _ _) pb) with ⟨e2, r1, r2⟩ | ⟨e2, r⟩
        · exact .inl ⟨tick x, tick y, e2, r1, r2, rfl, m1, m2, wx', wy'⟩
        · refine .inr ⟨e2, ?_⟩
          rcases r with r | r
          · exact .inl (ended_now m1 r)
          · exact .inr (ended_now m2 r)
      · exact absurd rfl hne
      · -- a step
        have wf : ∀ f, wt f 0 (first [x, y]) ≤ wt f 0 (first [a, b]) := fun f => hR.wt f 0
        have hsay : ∃ w, l = .say w := by
          rcases label_leaf wf hu with ⟨w, e, _⟩ | ⟨ev, e, _⟩
          · exact ⟨w, e⟩
          · exact absurd (by rw [e]; simp) (nt ev)
        obtain ⟨w, rfl⟩ := hsay
        rw [lab_case _ _ (by simp) (by simp) (by simp) hr] at hm
        obtain ⟨v, hv, rfl⟩ := List.mem_map.mp hm
        obtain ⟨v1, v2⟩ := List.mem_filter.mp hv
        obtain ⟨v1', v2'⟩ := v
        have ev : v1' = .say w := by simpa using v2
        subst ev
        simp only [steps, stepsL, List.map_nil, List.append_nil] at v1
        obtain ⟨q, hq, eq1⟩ := List.mem_map.mp v1
        obtain ⟨q1, q2⟩ := Prod.mk.inj eq1
        rcases List.mem_append.mp hq with hq | hq
        · -- the first piece
          obtain ⟨z, hz, rfl⟩ := List.mem_map.mp hq
          obtain ⟨z1, z2⟩ := z
          simp only at q1 q2
          subst q1
          have hw : w ∈ words a := by
            rcases label_leaf (fun f => wx f 0) hz with ⟨w', e, h⟩ | ⟨_, e, _⟩
            · cases e; exact h
            · cases e
          have m1 : (⟨z2, came, 0⟩ : St) ∈ stand a (own a (row ++ [.say w])) := by rw [own_snoc_yes (by simpa [ownB] using hw)]; exact mem_snoc mx (moves_step rx hz (by simp) (by simp) (by simp))
          have m2 : (⟨y, came, 0⟩ : St) ∈ stand b (own b (row ++ [.say w])) := by rw [own_snoc_no (by simpa [ownB] using dj w hw)]; exact my
          have wz : ∀ f k, wt f k z2 ≤ wt f k a := fun f k => by
            have h1 := wt_steps f k came x _ hz
            have h2 := wx f k
            simp only at h1
            omega
          rcases race_case (plain_le (wz _ _) pa) (plain_le (wy _ _) pb) with ⟨e2, r1, r2⟩ | ⟨e2, r⟩
          · exact .inl ⟨z2, y, by rw [← q2]; exact e2, r1, r2, rfl, m1, m2, wz, wy⟩
          · refine .inr ⟨by rw [← q2]; exact e2, ?_⟩
            rcases r with r | r
            · exact .inl (ended_now m1 r)
            · exact .inr (ended_now m2 r)
        · -- the second
          obtain ⟨z', hz', rfl⟩ := List.mem_map.mp hq
          obtain ⟨z, hz, rfl⟩ := List.mem_map.mp hz'
          obtain ⟨z1, z2⟩ := z
          simp only at q1 q2
          subst q1
          have hw : w ∈ words b := by
            rcases label_leaf (fun f => wy f 0) hz with ⟨w', e, h⟩ | ⟨_, e, _⟩
            · cases e; exact h
            · cases e
          have m2 : (⟨z2, came, 0⟩ : St) ∈ stand b (own b (row ++ [.say w])) := by rw [own_snoc_yes (by simpa [ownB] using hw)]; exact mem_snoc my (moves_step ry hz (by simp) (by simp) (by simp))
          have m1 : (⟨x, came, 0⟩ : St) ∈ stand a (own a (row ++ [.say w])) := by rw [own_snoc_no (by simpa [ownB] using fun h => dj w h hw)]; exact mx
          have wz : ∀ f k, wt f k z2 ≤ wt f k b := fun f k => by
            have h1 := wt_steps f k came y _ hz
            have h2 := wy f k
            simp only at h1
            omega
          rcases race_case (plain_le (wx _ _) pa) (plain_le (wz _ _) pb) with ⟨e2, r1, r2⟩ | ⟨e2, r⟩
          · exact .inl ⟨x, z2, by rw [← q2]; exact e2, r1, r2, rfl, m1, m2, wx, wz⟩
          · refine .inr ⟨by rw [← q2]; exact e2, ?_⟩
            rcases r with r | r
            · exact .inl (ended_now m1 r)
            · exact .inr (ended_now m2 r)
    · rw [e] at hr
      cases hr
/-! ## the limit -/
def ticks (row : List Lb) : Nat := row.countP fun l => decide (l = .tick)
theorem ticks_snoc (row : List Lb) (l : Lb) : ticks (row ++ [l]) = ticks row + if l = .tick then 1 else 0 := by
  unfold ticks
  rw [List.countP_append]
  by_cases h : l = .tick <;> simp [h]
def tmd (k : Nat) (s : St) : St := ⟨timed k s.t, s.came, s.gone⟩
theorem timed_R (k : Nat) (t : Tm) : (timed k t).isR = t.isR := by
  unfold timed
  cases h : t.isR <;> simp [h, isR]
theorem moves_tmd {k : Nat} (hk : 1 ≤ k) (s : St) (l : Lb) (hl : l ≠ .off) (ht : l = .tick → 2 ≤ k) : moves (tmd k s) l = (moves s l).map (tmd (if l = .tick then k - 1 else k)) := by
  obtain ⟨t, came, gone⟩ := s
  unfold moves tmd
  simp only [timed_R]
  cases hr : t.isR with
  | true => simp
  | false =>
    simp only [Bool.false_eq_true, if_false]
    have e : timed k t = within k t := by unfold timed; rw [if_neg (by rw [hr]; simp)]
    have gen : ∀ l : Lb, l ≠ .tick → ((steps came (timed k t)).filter (fun u => decide (u.1 = l))).map (fun u => (⟨u.2, came, gone⟩ : St)) = (((steps came t).filter fun u => decide (u.1 = l)).map fun u => (⟨u.2, came, gone⟩ : St)).map (tmd (if l = .tick then k - 1 else k)) := by
      intro l hl
      rw [e, if_neg hl]
      simp only [steps]
      rw [List.filter_map, List.map_map, List.map_map]
      rfl
    cases l with
    | off => exact absurd rfl hl
    | come ev =>
      simp only
      split <;> simp [tmd]
    | tick =>
      simp only
      rw [e]
      simp only [tick]
      have h2 := ht rfl
      rw [if_pos (by omega)]
      simp [tmd]
    | say w => exact gen (.say w) (by simp)
    | take w => exact gen (.take w) (by simp)
theorem snoc_ind {P : List Lb → Prop} (h0 : P []) (hs : ∀ r l, P r → P (r ++ [l])) (row : List Lb) : P row := by
  have key : ∀ r : List Lb, P r.reverse := by
    intro r
    induction r with
    | nil => exact h0
    | cons l r ih => rw [List.reverse_cons]; exact hs _ l ih
  have := key row.reverse
  rwa [List.reverse_reverse] at this
/-- within its ticks a limited plan stands as the plan does -/
theorem limit_stand (p : Tm) (n : Nat) : ∀ (row : List Lb), (∀ l ∈ row, l ≠ .off) → ticks row < n → stand (within n p) row = (stand p row).map (tmd (n - ticks row)) := by
  refine snoc_ind (fun _ _ => rfl) fun row l ih h1 h2 => ?_
  · skip
    have hl : l ≠ .off := h1 l (by simp)
    have hle : ticks row ≤ ticks (row ++ [l]) := by rw [ticks_snoc]; omega
    have i := ih (fun m hm => h1 m (List.mem_append_left _ hm)) (by omega)
    rw [stand_snoc, stand_snoc, i]
    unfold movesL
    rw [List.flatMap_map, List.map_flatMap]
    have hn := ticks_snoc row l
    congr 1
    funext s
    rw [moves_tmd (by omega) s l hl (fun e => by rw [if_pos e] at hn; omega)]
    rw [hn]
    by_cases e : l = .tick
    · rw [if_pos e, if_pos e, show n - ticks row - 1 = n - (ticks row + 1) by omega]
    · rw [if_neg e, if_neg e, Nat.add_zero]
theorem limit_run {p : Tm} {n : Nat} {row : List Lb} (h1 : ∀ l ∈ row, l ≠ .off) (h2 : ticks row < n) : (stand (within n p) row).isEmpty = (stand p row).isEmpty ∧ ((stand (within n p) row).any fun s => s.t.isR) = (stand p row).any fun s => s.t.isR := by
  rw [limit_stand p n row h1 h2]
  constructor
  · cases stand p row <;> rfl
  · rw [List.any_map]
    congr 1
    funext s
    exact timed_R _ _
/-- the limit's end, for a plain plan -/
theorem limit_end {p : Tm} {n : Nat} (hn : 1 ≤ n) (hp : plainT p) {row : List Lb} {s : St} (h : Reach (within n p) row s) :
    (ticks row < n ∧ ∃ t, s.t = timed (n - ticks row) t ∧ plainT t) ∨ (s.t = rest ∧ ticks row = n ∧ ∃ r, row = r ++ [.tick] ∧ ticks r + 1 = n) := by
  induction h with
  | start => exact .inl ⟨by simp [ticks]; omega, begun p, rfl, plain_le (wt_begun _ _ p) hp⟩
  | @step row s s' l hR hl hne hm ih =>
    have hr := Reach.nonR hl
    rcases ih with ⟨h1, t, e, pt⟩ | ⟨e, _⟩
    · have es : s = tmd (n - ticks row) ⟨t, s.came, s.gone⟩ := by
        obtain ⟨t', c, g⟩ := s
        simp only at e
        subst e
        rfl
      have hn2 := ticks_snoc row l
      by_cases hlt : l = .tick ∧ n - ticks row < 2
      · obtain ⟨rfl, h2⟩ := hlt
        rw [if_pos rfl] at hn2
        have et : s.t = within (n - ticks row) t := by
          rw [e]
          unfold timed
          rw [if_neg]
          intro hc
          rw [e, timed_R, hc] at hr
          cases hr
        unfold moves at hm
        rw [if_neg (by rw [hr]; simp)] at hm
        simp only at hm
        rw [List.mem_singleton.mp hm]
        refine .inr ⟨?_, by omega, row, rfl, by omega⟩
        simp only
        rw [et]
        simp only [tick]
        rw [if_neg (by omega)]
        exact off_plain _ (plain_le (wt_tick _ _ t) pt)
      · have h3 : l = .tick → 2 ≤ n - ticks row := fun e => by
          have : ¬ n - ticks row < 2 := fun z => hlt ⟨e, z⟩
          omega
        rw [es, moves_tmd (by omega) _ l hne h3] at hm
        obtain ⟨u, hu, rfl⟩ := List.mem_map.mp hm
        have pu : plainT u.t := plain_le (wt_moves _ _ u hu) pt
        refine .inl ⟨?_, u.t, ?_, pu⟩
        · rw [hn2]
          by_cases e2 : l = .tick
          · have := h3 e2; rw [if_pos e2]; omega
          · rw [if_neg e2]; omega
        · simp only [tmd]
          rw [hn2]
          by_cases e2 : l = .tick
          · rw [if_pos e2, if_pos e2, show n - ticks row - 1 = n - (ticks row + 1) by omega]
          · rw [if_neg e2, if_neg e2, Nat.add_zero]
    · rw [e] at hr
      cases hr
/-! ## the bare limit, the late piece -/
def bare (n : Nat) : Tm := within n (wait 3)
def late (n : Nat) : Tm := last (bare n) (within 1 (say 7))
def tks (n : Nat) : List Lb := List.replicate n .tick
theorem bare_facts : ∀ n, 1 ≤ n → n ≤ 3 → stand (bare n) (tks n) = [⟨rest, [], 0⟩] ∧ stand (bare n) (tks (n + 1)) = [] := by
  intro n h1 h3
  have : n = 1 ∨ n = 2 ∨ n = 3 := by omega
  rcases this with rfl | rfl | rfl <;> exact ⟨rfl, rfl⟩
theorem late_facts : ∀ n, 1 ≤ n → n ≤ 3 → stand (late n) (tks n) = [⟨keep (within 1 (say 7)), [], 0⟩] ∧ stand (late n) (tks (n + 1)) = [⟨rest, [], 0⟩] ∧ firstBad (late n) (tks n ++ [.say 7, .say 7]) = some (n + 1) := by
  intro n h1 h3
  have : n = 1 ∨ n = 2 ∨ n = 3 := by omega
  rcases this with rfl | rfl | rfl <;> exact ⟨rfl, rfl, by decide +kernel⟩
end LT
/-! # Tk1 -/
namespace LT
open PySem PySem.Spec PyProof.Rows L2
/-! ## the row of choices -/
/-- the row's object: the script, its place, the remainder, the stock -/
def rowL (sc : Addr) (i j k : Int) : List V := [.ref sc, .int i, .int j, .int k]
/-- the script is not at a, or stands whatever the heap -/
def Apart (K : KF) (sc : Addr) (xs : List V) (a : Addr) : Prop := sc ≠ a ∨ ∀ H : Hp, SqL K H sc xs
structure RwV (K : KF) (H : Hp) (a sc : Addr) (ns : List Int) (i j : Int) : Prop where
  sq : SqL K H sc (ns.map V.int)
  ne : Apart K sc (ns.map V.int) a
  i0 : 0 ≤ i
  jb : 0 ≤ j ∧ j < 2147483647
def Rw (K : KF) (sc : Addr) (H : Hp) (a : Addr) : Prop := ∃ (ns : List Int) (i j k : Int), H a = some (.lst (rowL sc i j k)) ∧ RwV K H a sc ns i j
theorem sqL_upd {K : KF} {H : Hp} {a sc : Addr} {xs : List V} {u : HO} (h : SqL K H sc xs) (ne : Apart K sc xs a) : SqL K (upd H a u) sc xs := by
  rcases ne with ne | ne
  case inr => exact ne _
  rcases h with h | h
  · rcases h with h | ⟨q, h⟩
    · exact .inl (.inl (by rw [upd_ne ne]; exact h))
    · exact .inl (.inr ⟨q, by rw [upd_ne ne]; exact h⟩)
  · exact .inr h
/-- any r with 0 ≤ r < m; the row stays a row -/
def spTaken (K : KF) (sc : Addr) : Sp := fun vs H Q _ => ∃ (a : Addr) (m : Int), vs = [.ref a, .int m] ∧ Rw K sc H a ∧ 1 ≤ m ∧ m < 1000000 ∧ ∀ (r : Int) (o : HO), 0 ≤ r → r < m → Rw K sc (upd H a o) a → Q (.int r) (upd H a o)
abbrev N_Ltaken : List Str := ["_law_row", "_law_many", "_law_found", "_law_cell"]
theorem sc_Ltaken : FnScope N_Ltaken ["_law_row", "_law_many"] (defScope sLtaken) := ⟨rfl, rfl, rfl, by decide +kernel, rfl, by decide +kernel, by decide +kernel⟩
section
variable {P : Program} {w : World} {K : KF} {sc : Addr} {mg : Str → Option Value} {base : Heap} {f : Addr} {fd : FuncData}
theorem ok_taken (T : Txt K mg) (F : FnP K "_law_taken" sLtaken f fd) : FnOk P w K mg base CX0 1 f fd ["_law_row", "_law_many"] (spTaken K sc) := by
  refine F.ok sc_Ltaken (fun vs H Q E h => ?_) (fun cdv A outer s H vs Q E hr h => ?_)
  · obtain ⟨a, m, rfl, _⟩ := h
    rfl
  have nd := sc_Ltaken.nd
  refine ⟨_, PSs.nox (pss_cons (ps_if (pt_cmpR op_gt (pe_ix ix_list (pv 0) pe_int (fun _ _ => rfl)) pe_int (nomark _))
        (pss_cons (ps_set (i := 2) nd rfl (Or.inl rfl) (pe_op op_modN (pe_callTy call_int1 (by rfl) T.z_int (by decide +kernel) (pa_cons (pe_ix ix_list (pv 0) pe_int (fun _ _ => rfl)) pa_nil)) (pv 1)))
        (pss_cons (ps_asg (pe_op op_fdivN (pe_ix ix_list (pv 0) pe_int (fun _ _ => rfl)) (pv 1)) (pg_sub (pv 0) pe_int set_list))
        (pss_one (ps_ret (pv 2))))) pss_nil)
      (pss_cons (ps_asg (pe_op op_add (pe_ix ix_list (pv 0) pe_int (fun _ _ => rfl)) pe_int) (pg_sub (pv 0) pe_int set_list))
      (pss_cons (ps_if (pt_cmpR op_gt (pe_ix ix_list (pv 0) pe_int (fun _ _ => rfl)) (pe_callB call_len_seq (by rfl) T.z_len PySem.boot_len (pa_cons (pe_ix ix_list (pv 0) pe_int (fun _ _ => rfl)) pa_nil)) (nomark _))
        (pss_cons (ps_asg (pe_op op_modN (pe_callTy call_int1 (by rfl) T.z_int (by decide +kernel) (pa_cons (pe_op op_add (pe_op op_mul (pe_ix ix_list (pv 0) pe_int (fun _ _ => rfl)) pe_int) pe_int) pa_nil)) pe_int) (pg_sub (pv 0) pe_int set_list))
        (pss_one (ps_ret (pe_op op_modN (pe_callTy call_int1 (by rfl) T.z_int (by decide +kernel) (pa_cons (pe_op op_fdivN (pe_ix ix_list (pv 0) pe_int (fun _ _ => rfl)) pe_int) pa_nil)) (pv 1))))) pss_nil)
      (pss_cons (ps_set (i := 3) nd rfl (Or.inl rfl) (pe_ix ix_list (pe_ix ix_list (pv 0) pe_int (fun _ _ => rfl)) (pe_op op_sub (pe_ix ix_list (pv 0) pe_int (fun _ _ => rfl)) pe_int) (fun _ _ => rfl)))
      (pss_cons (ps_asg (pe_op op_modN (pe_callTy call_int1 (by rfl) T.z_int (by decide +kernel) (pa_cons (pe_op op_add (pe_op op_add (pe_op op_mul (pe_ix ix_list (pv 0) pe_int (fun _ _ => rfl)) pe_int) (pv 3)) pe_int) pa_nil)) pe_int) (pg_sub (pv 0) pe_int set_list))
      (pss_cons (ps_if (pt_cmpR op_ge (pv 3) (pe_op op_pow pe_int pe_int) (nomark _))
        (pss_one (ps_asg (pe_op op_fdivN (pv 3) (pv 1)) (pg_sub (pv 0) pe_int set_list))) pss_nil)
      (pss_one (ps_ret (pe_op op_modN (pe_callTy call_int1 (by rfl) T.z_int (by decide +kernel) (pa_cons (pv 3) pa_nil)) (pv 1)))))))))), ?_⟩
  obtain ⟨a, m, rfl, ⟨ns, i, j, k, ha, rv⟩, h1, h2, hQ⟩ := h
  have hm0 : m ≠ 0 := by omega
  have hmN : m ≠ 0 ∧ m.natAbs < 1073741824 := ⟨hm0, by omega⟩
  have q0 : ∀ (x : Int) (o : HO) {i' j' k' : Int}, o = .lst (rowL sc i' j' k') → 0 ≤ i' → (0 ≤ j' ∧ j' < 2147483647) → Q (.int (x.fmod m)) (upd H a o) := fun x o i' j' k' e h0 hj => by
    rw [Int.fmod_eq_emod_of_nonneg x (by omega)]
    exact hQ _ o (Int.emod_nonneg _ hm0) (Int.emod_lt_of_pos _ (by omega)) ⟨ns, i', j', k', by rw [upd_same, e], ⟨sqL_upd rv.sq rv.ne, rv.ne, h0, hj⟩⟩
  have jm : ∀ x : Int, 0 ≤ x.fmod 2147483647 ∧ x.fmod 2147483647 < 2147483647 := fun x => by
    rw [Int.fmod_eq_emod_of_nonneg x (by omega)]
    exact ⟨Int.emod_nonneg _ (by omega), Int.emod_lt_of_pos _ (by omega)⟩
  have uu : ∀ (o o' : HO), upd (upd H a o) a o' = upd H a o' := fun o o' => upd_upd
  refine ⟨.ref a, rfl, ⟨a, _, 3, .int k, rfl, rfl, SqL.of ha, atI_nat (j := 3) rfl, ?_⟩⟩
  refine ⟨_, _, rfl, rfl, _, rfl, ?_⟩
  cases hd : decide (0 < k) with
  | true =>
    refine iteT ?_
    refine ⟨.ref a, rfl, a, _, 3, .int k, rfl, rfl, SqL.of ha, atI_nat (j := 3) rfl, .inl ⟨k, rfl, .int m, rfl, k, m, rfl, rfl, hm0, ?_⟩⟩
    refine ⟨.ref a, rfl, a, _, 3, .int k, rfl, rfl, SqL.of ha, atI_nat (j := 3) rfl, .int m, rfl, k, m, rfl, rfl, hmN, .ref a, rfl, a, _, 3, 3, rfl, rfl, ha, rfl, ?_⟩
    exact ⟨_, rfl, q0 k _ rfl rv.i0 rv.jb⟩
  | false =>
    refine iteF ?_
    refine ⟨.ref a, rfl, a, _, 1, .int i, rfl, rfl, SqL.of ha, atI_nat (j := 1) rfl, _, _, rfl, rfl, .ref a, rfl, a, _, 1, 1, rfl, rfl, ha, rfl, ?_⟩
    have ha1 : (upd H a (.lst (rowL sc (i + 1) j k))) a = some (.lst (rowL sc (i + 1) j k)) := upd_same
    have sq1 : SqL K (upd H a (.lst (rowL sc (i + 1) j k))) sc (ns.map V.int) := sqL_upd rv.sq rv.ne
    refine ⟨.ref a, rfl, a, _, 1, .int (i + 1), rfl, rfl, SqL.of ha1, atI_nat (j := 1) rfl, .ref a, rfl, a, _, 0, .ref sc, rfl, rfl, SqL.of ha1, atI_nat (j := 0) rfl, sc, _, rfl, .inl sq1, _, _, rfl, rfl, _, rfl, ?_⟩
    rw [List.length_map]
    cases hd2 : decide ((ns.length : Int) < i + 1) with
    | true =>
      refine iteT ?_
      refine ⟨.ref a, rfl, a, _, 2, .int j, rfl, rfl, SqL.of ha1, atI_nat (j := 2) rfl, _, _, rfl, rfl, .inl ⟨by have := rv.jb; omega, by have := rv.jb; omega⟩, _, _, rfl, rfl, .inl ⟨_, rfl, _, _, rfl, rfl, (show (2147483647 : Int) ≠ 0 by decide), .ref a, rfl, a, _, 2, 2, rfl, rfl, ha1, rfl, ?_⟩⟩
      rw [uu]
      have ha2 : ∀ j', (upd H a (.lst (rowL sc (i + 1) j' k))) a = some (.lst (rowL sc (i + 1) j' k)) := fun j' => upd_same
      refine ⟨.ref a, rfl, a, _, 2, _, rfl, rfl, SqL.of (ha2 _), atI_nat (j := 2) rfl, _, _, rfl, rfl, ⟨by decide, by decide⟩, .inl ⟨_, rfl, .int m, rfl, _, m, rfl, rfl, hm0, ?_⟩⟩
      exact q0 _ _ rfl (by have := rv.i0; omega) (jm _)
    | false =>
      refine iteF ?_
      have hlt : i < ns.length := by have := of_decide_eq_false hd2; omega
      have hi0 := rv.i0
      obtain ⟨n, rfl⟩ : ∃ n : Nat, i = (n : Int) := ⟨i.toNat, by omega⟩
      have hn : n < ns.length := by omega
      have hcell : (ns.map V.int)[n]? = some (.int ns[n]) := by rw [List.getElem?_map, List.getElem?_eq_getElem hn]; rfl
      refine ⟨.ref a, rfl, a, _, 0, .ref sc, rfl, rfl, SqL.of ha1, atI_nat (j := 0) rfl, .ref a, rfl, a, _, 1, .int ((n : Int) + 1), rfl, rfl, SqL.of ha1, atI_nat (j := 1) rfl, _, _, rfl, rfl, sc, _, _, .int ns[n], rfl, rfl, sq1, (by rw [show (n : Int) + 1 - 1 = (n : Int) by omega]; exact atI_nat hcell), ?_⟩
      generalize ns[n] = cell
      refine ⟨.ref a, rfl, a, _, 2, .int j, rfl, rfl, SqL.of ha1, atI_nat (j := 2) rfl, _, _, rfl, rfl, .inl ⟨by have := rv.jb; omega, by have := rv.jb; omega⟩, .int cell, rfl, _, _, rfl, rfl, _, _, rfl, rfl, .inl ⟨_, rfl, _, _, rfl, rfl, (show (2147483647 : Int) ≠ 0 by decide), .ref a, rfl, a, _, 2, 2, rfl, rfl, ha1, rfl, ?_⟩⟩
      rw [uu]
      have ha2 : ∀ j', (upd H a (.lst (rowL sc ((n : Int) + 1) j' k))) a = some (.lst (rowL sc ((n : Int) + 1) j' k)) := fun j' => upd_same
      refine ⟨.int cell, rfl, _, _, rfl, rfl, ⟨by decide, by decide, by decide⟩, _, _, rfl, rfl, _, rfl, ?_⟩
      cases hd3 : decide ((10 : Int) ^ (18 : Int).toNat ≤ cell) with
      | true =>
        refine iteT ?_
        refine ⟨.int cell, rfl, .int m, rfl, _, _, rfl, rfl, hmN, .ref a, rfl, a, _, 3, 3, rfl, rfl, ha2 _, rfl, ?_⟩
        rw [uu]
        exact ⟨.int cell, rfl, .inl ⟨_, rfl, .int m, rfl, _, m, rfl, rfl, hm0, q0 _ _ rfl (by omega) (jm _)⟩⟩
      | false =>
        refine iteF ?_
        exact ⟨.int cell, rfl, .inl ⟨_, rfl, .int m, rfl, _, m, rfl, rfl, hm0, q0 _ _ rfl (by omega) (jm _)⟩⟩
end
end LT
/-! # Tk2 -/
namespace LT
open PySem PySem.Spec PyProof.Rows L2 Tm
/-! ## what an effect may do: objects at M change, all else stays -/
structure Ef (M : Addr → Prop) (G H G' H' : Hp) : Prop where
  hh : ∀ b o, ¬ M b → H b = some o → H' b = some o
  hm : ∀ b, H b ≠ none → H' b ≠ none
  gg : Same G G'
  gh : Same G' H'
  nw : ∀ b, G' b ≠ none → G b ≠ none ∨ H b = none
section
variable {M : Addr → Prop} {G H G1 H1 G2 H2 : Hp}
theorem Ef.refl (s : Same G H) : Ef M G H G H := ⟨fun _ _ _ h => h, fun _ h => h, Same.refl G, s, fun _ h => .inl h⟩
theorem Ef.trans (a : Ef M G H G1 H1) (b : Ef M G1 H1 G2 H2) : Ef M G H G2 H2 := ⟨fun c o hc h => b.hh c o hc (a.hh c o hc h), fun c h => b.hm c (a.hm c h), a.gg.trans b.gg, b.gh, fun c h => by
  rcases b.nw c h with h | h
  · exact a.nw c h
  · exact .inr (Classical.byContradiction fun z => a.hm c z h)⟩
theorem Ef.of (x : Ext G H G1 H1) : Ef M G H G1 H1 := ⟨fun b o _ h => x.hh b o h, fun b h => by
  cases e : H b with
  | none => exact absurd e h
  | some o => rw [x.hh b o e]; exact Option.some_ne_none o, x.gg, x.gh, x.nw⟩
theorem same_updG {a : Addr} (s : Same G H) (ga : G a = none) (o : HO) : Same G (upd H a o) := fun b u h => by
  rw [upd_ne (ne_of_none h ga)]; exact s b u h
theorem Ef.up {a : Addr} (s : Same G H) (ga : G a = none) (ma : M a) (o : HO) : Ef M G H G (upd H a o) := ⟨fun b u hb h => by
  rw [upd_ne (fun e => hb (by rw [e]; exact ma))]; exact h, fun b h => by
  by_cases e : b = a
  · rw [e, upd_same]; exact fun z => nomatch z
  · rw [upd_ne e]; exact h, Same.refl G, same_updG s ga o, fun _ h => .inl h⟩
theorem Ef.keep (x : Ef M G H G1 H1) {b : Addr} (hg : G b = none) (hh : H b ≠ none) : G1 b = none := by
  cases e : G1 b with
  | none => rfl
  | some u =>
    rcases x.nw b (by rw [e]; exact fun z => nomatch z) with h | h
    · exact absurd hg h
    · exact absurd h hh
theorem Ef.mono {N : Addr → Prop} (h : ∀ b, M b → N b) (x : Ef M G H G1 H1) : Ef N G H G1 H1 := ⟨fun b o hb => x.hh b o fun z => hb (h b z), x.hm, x.gg, x.gh, x.nw⟩
end
theorem Rw.some {K : KF} {sc : Addr} {H : Hp} {a : Addr} (h : Rw K sc H a) : H a ≠ none := by
  obtain ⟨ns, i, j, k, e, _⟩ := h
  rw [e]; exact fun z => nomatch z
theorem Rw.ext {K : KF} {sc : Addr} {H H' : Hp} {a : Addr} (h : Rw K sc H a) (s : Same H H') : Rw K sc H' a := by
  obtain ⟨ns, i, j, k, e, r⟩ := h
  exact ⟨ns, i, j, k, s _ _ e, ⟨s.seq r.sq, r.ne, r.i0, r.jb⟩⟩
/-- any of the kinds -/
def spPick (K : KF) (sc : Addr) : Sp := fun vs H Q _ => ∃ (a : Addr) (v : V) (G : Hp) (ds : List D), vs = [.ref a, v] ∧ Rw K sc H a ∧ G a = none ∧ Same G H ∧ Rp K G v (.list ds) ∧ ds ≠ [] ∧ ds.length < 1000000 ∧
  ∀ (d : D) (v' : V) (o : HO), d ∈ ds → Rp K G v' d → Rw K sc (upd H a o) a → Q v' (upd H a o)
abbrev N_Lpick : List Str := ["_law_row", "_law_kinds"]
theorem sc_Lpick : FnScope N_Lpick ["_law_row", "_law_kinds"] (defScope sLpick) := ⟨rfl, rfl, rfl, by decide +kernel, rfl, by decide +kernel, by decide +kernel⟩
/-- a leaf of the law's plans -/
def leafOk : Tm → Bool
  | .rest => true
  | .say w => decide (w < 3)
  | .wait e => decide (e < 2)
  | _ => false
def spLeaf (K : KF) (sc : Addr) : Sp := fun vs H Q _ => ∃ (a : Addr) (G : Hp), vs = [.ref a] ∧ Rw K sc H a ∧ G a = none ∧ Same G H ∧
  ∀ (t : Tm) (v : V) (G' H' : Hp), leafOk t = true → Ef (· = a) G H G' H' → Rw K sc H' a → Rp K G' v (enc t) → Q v H'
abbrev N_Lleaf : List Str := ["_law_row", "_law_way"]
theorem sc_Lleaf : FnScope N_Lleaf ["_law_row"] (defScope sLleaf) := ⟨rfl, rfl, rfl, by decide +kernel, rfl, by decide +kernel, by decide +kernel⟩
/-- a def that keeps a promise -/
def FokS (P : Program) (w : World) (K : KF) (mg : Str → Option Value) (base : Heap) (k : Nat) (x : Str) (ps : List Str) (sp : Sp) : Prop :=
  ∃ (f : Addr) (fd : FuncData), FnOk P w K mg base CX0 k f fd ps sp ∧ mg x = some (.ref f) ∧ PySem.W.keepIn K (.ref f) = true ∧ Binds K fd ps []
section
variable {P : Program} {w : World} {K : KF} {sc : Addr} {mg : Str → Option Value} {base : Heap} {f : Addr} {fd : FuncData} {n : Nat}
theorem fok_taken (T : Txt K mg) (F : FnP K "_law_taken" sLtaken f fd) (hm : mg "_law_taken" = some (.ref f)) : FokS P w K mg base 1 "_law_taken" ["_law_row", "_law_many"] (spTaken K sc) :=
  ⟨f, fd, ok_taken T F, hm, F.kp, F.bindsN fun _ _ _ _ _ _ us hl => match us, hl with | [_, _], _ => rfl⟩
theorem FokS.mono {j k : Nat} {x : Str} {ps : List Str} {sp : Sp} (h : FokS P w K mg base j x ps sp) (l : j ≤ k) : FokS P w K mg base k x ps sp := by
  obtain ⟨f, fd, a, b⟩ := h
  exact ⟨f, fd, a.mono l, b⟩
theorem fok_pick (T : Txt K mg) (C : FokS P w K mg base n "_law_taken" ["_law_row", "_law_many"] (spTaken K sc)) (F : FnP K "_law_pick" sLpick f fd) (hm : mg "_law_pick" = some (.ref f)) : FokS P w K mg base (n + 1) "_law_pick" ["_law_row", "_law_kinds"] (spPick K sc) := by
  refine ⟨f, fd, F.ok sc_Lpick (fun vs H Q E h => ?_) (fun cdv A outer s H vs Q E hr h => ?_), hm, F.kp, F.bindsN fun _ _ _ _ _ _ us hl => match us, hl with | [_, _], _ => rfl⟩
  · obtain ⟨a, v, G, ds, rfl, _⟩ := h
    rfl
  have nd := sc_Lpick.nd
  obtain ⟨f1, fd1, C1, C2, C3, C4⟩ := C
  refine ⟨_, PSs.nox (pss_one (ps_ret (pe_ix ix_list (pv 1) (pe_call C1 hr rfl C2 C3 C4 .nil pass0 (pa_cons (pv 0) (pa_cons (pe_callB call_len_seq (by rfl) T.z_len PySem.boot_len (pa_cons (pv 1) pa_nil)) pa_nil))) (fun _ _ => rfl)))), ?_⟩
  obtain ⟨a, v, G, ds, rfl, rw_, ga, sg, rd, hne, hlt, hQ⟩ := h
  cases rd with
  | @lst p xs _ hq z rv =>
    have l := rv.length
    have hp : H p = some (.lst xs) := sg _ _ hq
    have pos : 0 < ds.length := List.length_pos_iff.mpr hne
    refine ⟨.ref p, rfl, .ref a, rfl, .ref p, rfl, p, _, rfl, .inl (SqL.of hp), ?_⟩
    refine ⟨a, (xs.length : Int), rfl, rw_, by omega, by omega, fun r o h0 h1 hw => ?_⟩
    have hp' : (upd H a o) p = some (.lst xs) := by rw [upd_ne (ne_of_none hq ga)]; exact hp
    have hr2 : r.toNat < ds.length := by omega
    obtain ⟨u, hu, ru⟩ := rv.get (List.getElem?_eq_getElem hr2)
    have e : r = ((r.toNat : Nat) : Int) := by omega
    exact ⟨p, xs, r, u, rfl, rfl, SqL.of hp', (by rw [e]; exact atI_nat hu), hQ _ u o (List.getElem_mem hr2) ru hw⟩
theorem rp_leaf {G : Hp} {p : Addr} {k : Kd} {i : Int} {v : V} (hv : v = .int i) : Rp K (upd G p (.tup [.str (kS k), v])) (.ref p) (.tuple [.str (kS k), .int i]) := by
  subst hv
  exact .tup (SqT.of upd_same) (by show (2 : Nat) ≤ sizeLine; rw [sizeLine_eq]; decide) (.cons (.str _ (kS_ok k)) (.cons (.int i) .nil))
theorem fok_leaf (T : Txt K mg) (C : FokS P w K mg base n "_law_taken" ["_law_row", "_law_many"] (spTaken K sc)) (F : FnP K "_law_leaf" sLleaf f fd) (hm : mg "_law_leaf" = some (.ref f)) : FokS P w K mg base (n + 1) "_law_leaf" ["_law_row"] (spLeaf K sc) := by
  refine ⟨f, fd, F.ok sc_Lleaf (fun vs H Q E h => ?_) (fun cdv A outer s H vs Q E hr h => ?_), hm, F.kp, F.bindsN fun _ _ _ _ _ _ us hl => match us, hl with | [_], _ => rfl⟩
  · obtain ⟨a, G, rfl, _⟩ := h
    rfl
  have nd := sc_Lleaf.nd
  obtain ⟨f1, fd1, C1, C2, C3, C4⟩ := C
  refine ⟨_, PSs.nox (pss_cons (ps_set (i := 1) nd rfl (Or.inl rfl) (pe_call C1 hr rfl C2 C3 C4 .nil pass0 (pa_cons (pv 0) (pa_cons pe_int pa_nil))))
    (pss_cons (ps_if (pt_cmpR op_lt (pv 1) pe_int (nomark _)) (pss_one (ps_ret (pe_tup (pa_cons pe_str (pa_cons (pe_call C1 hr rfl C2 C3 C4 .nil pass0 (pa_cons (pv 0) (pa_cons pe_int pa_nil))) pa_nil))))) pss_nil)
    (pss_one (ps_ret (pe_ifExp (pt_cmpR op_lt (pv 1) pe_int (nomark _)) (pe_tup (pa_cons pe_str (pa_cons (pe_call C1 hr rfl C2 C3 C4 .nil pass0 (pa_cons (pv 0) (pa_cons pe_int pa_nil))) pa_nil))) (pe_tup (pa_cons pe_str pa_nil))))))), ?_⟩
  obtain ⟨a, G, rfl, rw_, ga, sg, hQ⟩ := h
  refine ⟨.ref a, rfl, a, 7, rfl, rw_, by decide, by decide, fun r o h0 h1 hw => ?_⟩
  have sg1 := same_updG sg ga o
  have e1 : Ef (· = a) G H G (upd H a o) := Ef.up (M := (· = a)) sg ga rfl o
  refine ⟨_, rfl, _, _, rfl, rfl, _, rfl, ?_⟩
  have mk : ∀ {k : Kd} {x : Int} {o' : HO} (t : Tm), enc t = .tuple [.str (kS k), .int x] → leafOk t = true → Rw K sc (upd (upd H a o) a o') a → ∀ p, (upd (upd H a o) a o') p = none → Q (.ref p) (upd (upd (upd H a o) a o') p (.tup [.str (kS k), .int x])) := by
    intro k x o' t et lk hw2 p hp
    have sg2 : Same G (upd (upd H a o) a o') := same_updG sg1 ga o'
    have x2 := Ext.new sg2 hp (.tup [.str (kS k), .int x])
    exact hQ t _ _ _ lk ((e1.trans (Ef.up (M := (· = a)) sg1 ga rfl o')).trans (Ef.of x2)) (hw2.ext x2.hh) (by rw [et]; exact rp_leaf rfl)
  cases hd : decide (r < 4) with
  | true =>
    refine iteT ?_
    refine ⟨.ref a, rfl, a, 3, rfl, hw, by decide, by decide, fun r2 o2 h2 h3 hw2 => ?_⟩
    refine ⟨(by show (2 : Nat) ≤ sizeLine; rw [sizeLine_eq]; decide), fun p hp => ?_⟩
    exact mk (k := .say) (.say r2.toNat) (by simp only [enc]; rw [show ((r2.toNat : Nat) : Int) = r2 by omega]) (by simp [leafOk]; omega) hw2 p hp
  | false =>
    refine iteF ?_
    refine ⟨_, rfl, _, _, rfl, rfl, _, rfl, ?_⟩
    cases hd2 : decide (r < 6) with
    | true =>
      refine iteT ?_
      refine ⟨.ref a, rfl, a, 2, rfl, hw, by decide, by decide, fun r2 o2 h2 h3 hw2 => ?_⟩
      refine ⟨(by show (2 : Nat) ≤ sizeLine; rw [sizeLine_eq]; decide), fun p hp => ?_⟩
      exact mk (k := .wait) (.wait r2.toNat) (by simp only [enc]; rw [show ((r2.toNat : Nat) : Int) = r2 by omega]) (by simp [leafOk]; omega) hw2 p hp
    | false =>
      refine iteF ?_
      refine ⟨by rw [sizeLine_eq]; decide, fun p hp => ?_⟩
      have x2 := Ext.new sg1 hp (.tup [.str (kS .rest)])
      exact hQ .rest _ _ _ rfl (e1.trans (Ef.of x2)) (hw.ext x2.hh) (.tup (SqT.of upd_same) (by rw [sizeLine_eq]; decide) (.cons (.str _ (kS_ok .rest)) .nil))
end
end LT
/-! # Tk3 -/
namespace LT
open PySem PySem.Spec PyProof.Rows L2 Tm
theorem EnvR.base {K : KF} {G H : Hp} {σ : L2.St} {n : Nat} (h : n = σ.length) : EnvR K G H σ (List.replicate n .no) := by
  refine ⟨by simp [h], fun i d e => ?_, fun i d e => ?_, fun i j d e h1 => ?_, fun i a e => ?_⟩
  · have := List.mem_of_getElem? e; rw [List.mem_replicate] at this; cases this.2
  · have := List.mem_of_getElem? e; rw [List.mem_replicate] at this; cases this.2
  · have := List.mem_of_getElem? h1; rw [List.mem_replicate] at this; cases this.2
  · have := List.mem_of_getElem? e; rw [List.mem_replicate] at this; cases this.2
theorem EnvR.add {K : KF} {G H : Hp} {σ : L2.St} {ρ : Rho} (e : EnvR K G H σ ρ) {i : Nat} {v : V} {d : D} (h : σ[i]? = some (some v)) (r : Rp K G v d) : EnvR K G H σ (ρ.set i (.im d)) := by
  refine ⟨by simp [e.len], fun j c q => ?_, fun j ds q => ?_, fun j k ds es h1 h2 => ?_, fun j a q => ?_⟩
  · rcases set_get q with ⟨rfl, q2⟩ | ⟨_, q2⟩
    · cases q2; exact ⟨v, h, r⟩
    · exact e.im j c q2
  · rcases set_get q with ⟨_, q2⟩ | ⟨_, q2⟩
    · cases q2
    · exact e.ow j ds q2
  · rcases set_get h1 with ⟨_, q⟩ | ⟨_, q1⟩
    · cases q
    · rcases set_get h2 with ⟨_, q⟩ | ⟨_, q2⟩
      · cases q
      · exact e.one j k ds es q1 q2
  · rcases set_get q with ⟨_, q2⟩ | ⟨_, q2⟩
    · cases q2
    · exact e.lk j a q2
theorem mkTup {K : KF} {G H : Hp} {p : Addr} {vs : List V} {ds : List D} (r : RpL K G vs ds) (sg : Same G H) (hp : H p = none) (z : vs.length ≤ sizeLine) : Ext G H (upd G p (.tup vs)) (upd H p (.tup vs)) ∧ Rp K (upd G p (.tup vs)) (.ref p) (.tuple ds) := by
  have x := Ext.new sg hp (.tup vs)
  exact ⟨x, .tup (SqT.of upd_same) z (r.same x.gg)⟩
theorem small {n : Nat} (h : n ≤ 1000) : n ≤ sizeLine := by rw [sizeLine_eq]; omega
/-- leaves as the law draws them -/
def LfOk (t : Tm) : Prop := ∀ u ∈ leaves t, leafOk u = true
/-- a plan as the law draws it, d levels below its top -/
structure Good (d : Nat) (t : Tm) : Prop where
  sh : shB d t = true
  lv : (leaves t).length ≤ 8
  lf : LfOk t
theorem leaf_good {t : Tm} (h : leafOk t = true) (d : Nat) : Good d t := by
  cases t <;> simp [leafOk] at h <;> refine ⟨by cases d <;> rfl, by simp [leaves], fun u hu => ?_⟩ <;> simp [leaves] at hu <;> subst hu <;> simp [leafOk, h]
theorem sz_sh0 {t : Tm} (h : shB 0 t = true) : sz t = 1 := by cases t <;> simp [shB, isLeaf] at h <;> rfl
theorem szs_le {k : Nat} : ∀ {ts : List Tm}, (∀ t ∈ ts, sz t ≤ k) → szs ts ≤ ts.length * k
  | [], _ => by simp [szs]
  | t :: ts, h => by
    have h1 := h t List.mem_cons_self
    have h2 := szs_le fun u hu => h u (List.mem_cons_of_mem _ hu)
    simp only [szs, List.length_cons]
    rw [Nat.add_mul]
    omega
theorem sz_sh : ∀ (d : Nat) (t : Tm) (b : Nat), (∀ u, shB d u = true → sz u ≤ b) → 1 ≤ b → shB (d + 1) t = true → sz t ≤ 1 + 3 * b := by
  intro d t b hb h1 h
  cases t with
  | thn p ps =>
    simp [shB] at h
    have := hb p h.2.1
    have := szs_le fun q hq => hb q (h.2.2 q hq)
    have : ps.length * b ≤ 2 * b := Nat.mul_le_mul_right b h.1.2
    simp only [sz]
    omega
  | both ps =>
    simp [shB] at h
    have := szs_le fun q hq => hb q (h.2 q hq)
    have : ps.length * b ≤ 3 * b := Nat.mul_le_mul_right b h.1.2
    simp only [sz]
    omega
  | first ps =>
    simp [shB] at h
    have := szs_le fun q hq => hb q (h.2 q hq)
    have : ps.length * b ≤ 3 * b := Nat.mul_le_mul_right b h.1.2
    simp only [sz]
    omega
  | within k p =>
    simp [shB] at h
    have := hb p h.2
    simp only [sz]
    omega
  | last p q =>
    simp [shB] at h
    have := hb p h.1
    have := hb q h.2
    simp only [sz]
    omega
  | shield p =>
    simp only [shB] at h
    have := hb p h
    simp only [sz]
    omega
  | keep p => simp [shB, isLeaf] at h
  | _ => simp only [sz]; omega
theorem sz_good {d : Nat} {t : Tm} (hd : d ≤ 2) (h : shB d t = true) : sz t ≤ 13 := by
  have h0 : ∀ u, shB 0 u = true → sz u ≤ 1 := fun u hu => Nat.le_of_eq (sz_sh0 hu)
  have h1 : ∀ u, shB 1 u = true → sz u ≤ 4 := fun u hu => sz_sh 0 u 1 h0 (by omega) hu
  have h2 : ∀ u, shB 2 u = true → sz u ≤ 13 := fun u hu => sz_sh 1 u 4 h1 (by omega) hu
  have : d = 0 ∨ d = 1 ∨ d = 2 := by omega
  rcases this with rfl | rfl | rfl
  · have := h0 t h; omega
  · have := h1 t h; omega
  · exact h2 t h
/-- shapes are plans -/
theorem sh_vP : ∀ (d : Nat) (t : Tm), shB d t = true → LfOk t → vP (d + 1) t = true
  | 0, t, h, hl => by
    cases t <;> simp [shB, isLeaf] at h
    · rfl
    · have := hl _ (by simp only [leaves]; exact List.mem_singleton.mpr rfl)
      simp [leafOk] at this
      simp [vP]; omega
    · have := hl _ (by simp only [leaves]; exact List.mem_singleton.mpr rfl)
      simp [leafOk] at this
      simp [vP]; omega
  | d + 1, t, h, hl => by
    cases t with
    | rest => rfl
    | say w =>
      have := hl _ (by simp only [leaves]; exact List.mem_singleton.mpr rfl)
      simp [leafOk] at this
      simp [vP]; omega
    | wait w =>
      have := hl _ (by simp only [leaves]; exact List.mem_singleton.mpr rfl)
      simp [leafOk] at this
      simp [vP]; omega
    | thn p ps =>
      simp [shB] at h
      have hp : LfOk p := fun u hu => hl u (by simp only [leaves]; exact List.mem_append_left _ hu)
      have hps : ∀ q ∈ ps, LfOk q := fun q hq u hu => hl u (by simp only [leaves]; exact List.mem_append_right _ (mem_leavesL hq hu))
      rw [vP]
      simp
      exact ⟨by omega, sh_vP d p h.2.1 hp, fun q hq => sh_vP d q (h.2.2 q hq) (hps q hq)⟩
    | both ps =>
      simp [shB] at h
      have hps : ∀ q ∈ ps, LfOk q := fun q hq u hu => hl u (by simp only [leaves]; exact mem_leavesL hq hu)
      rw [vP]
      simp
      exact ⟨by omega, fun q hq => sh_vP d q (h.2 q hq) (hps q hq)⟩
    | first ps =>
      simp [shB] at h
      have hps : ∀ q ∈ ps, LfOk q := fun q hq u hu => hl u (by simp only [leaves]; exact mem_leavesL hq hu)
      rw [vP]
      simp
      exact ⟨by omega, fun q hq => sh_vP d q (h.2 q hq) (hps q hq)⟩
    | within k p =>
      simp [shB] at h
      rw [vP]
      simp
      exact ⟨by omega, sh_vP d p h.2 hl⟩
    | last p q =>
      simp [shB] at h
      have hp : LfOk p := fun u hu => hl u (by simp only [leaves]; exact List.mem_append_left _ hu)
      have hq : LfOk q := fun u hu => hl u (by simp only [leaves]; exact List.mem_append_right _ hu)
      rw [vP]
      simp
      exact ⟨sh_vP d p h.1 hp, sh_vP d q h.2 hq⟩
    | shield p =>
      simp only [shB] at h
      rw [vP]
      exact sh_vP d p h hl
    | keep p => simp [shB, isLeaf] at h
where
  mem_leavesL {q : Tm} {u : Tm} : ∀ {ps : List Tm}, q ∈ ps → u ∈ leaves q → u ∈ leavesL ps
    | [], h, _ => by cases h
    | p :: ps, h, hu => by
      simp only [leavesL]
      rcases List.mem_cons.mp h with e | h
      · rw [← e]; exact List.mem_append_left _ hu
      · exact List.mem_append_right _ (mem_leavesL h hu)
end LT
/-! # Tk4 -/
namespace LT
open PySem PySem.Spec PyProof.Rows L2 Tm
/-- a plan of at most m levels -/
def spPlan (K : KF) (sc : Addr) (m : Nat) : Sp := fun vs H Q _ => ∃ (a : Addr) (G : Hp) (d : Nat), vs = [.ref a, .int ((d : Int) + 1)] ∧ d + 1 ≤ m ∧ Rw K sc H a ∧ G a = none ∧ Same G H ∧
  ∀ (t : Tm) (v : V) (G' H' : Hp), Good d t → Ef (· = a) G H G' H' → Rw K sc H' a → Rp K G' v (enc t) → Q v H'
abbrev N_Lplan : List Str := ["_law_row", "_law_deep", "_law_way", "_law_head", "_law_turn"]
theorem sc_Lplan : FnScope N_Lplan ["_law_row", "_law_deep"] (defScope sLplan) := ⟨rfl, rfl, rfl, by decide +kernel, rfl, by decide +kernel, by decide +kernel⟩
theorem sh_mono : ∀ (d : Nat) (t : Tm), shB d t = true → shB (d + 1) t = true
  | 0, t, h => by cases t <;> simp [shB, isLeaf] at h <;> rfl
  | d + 1, t, h => by
    cases t with
    | thn p ps =>
      rw [shB] at h ⊢
      simp at h ⊢
      exact ⟨h.1, sh_mono d p h.2.1, fun q hq => sh_mono d q (h.2.2 q hq)⟩
    | both ps =>
      rw [shB] at h ⊢
      simp at h ⊢
      exact ⟨h.1, fun q hq => sh_mono d q (h.2 q hq)⟩
    | first ps =>
      rw [shB] at h ⊢
      simp at h ⊢
      exact ⟨h.1, fun q hq => sh_mono d q (h.2 q hq)⟩
    | within k p =>
      rw [shB] at h ⊢
      simp at h ⊢
      exact ⟨h.1, sh_mono d p h.2⟩
    | last p q =>
      rw [shB] at h ⊢
      simp at h ⊢
      exact ⟨sh_mono d p h.1, sh_mono d q h.2⟩
    | shield p =>
      rw [shB] at h ⊢
      exact sh_mono d p h
    | keep p => simp [shB, isLeaf] at h
    | _ => rfl
theorem Good.mono {d : Nat} {t : Tm} (g : Good d t) : Good (d + 1) t := ⟨sh_mono d t g.sh, g.lv, g.lf⟩
theorem leavesL_mem {u : Tm} : ∀ {ps : List Tm}, u ∈ leavesL ps → ∃ q ∈ ps, u ∈ leaves q
  | [], h => by simp [leavesL] at h
  | p :: ps, h => by
    simp only [leavesL] at h
    rcases List.mem_append.mp h with h | h
    · exact ⟨p, List.mem_cons_self, h⟩
    · obtain ⟨q, hq, h2⟩ := leavesL_mem h
      exact ⟨q, List.mem_cons_of_mem _ hq, h2⟩
/-- a row of kids under a kind -/
def mkK (k : Kd) (ps : List Tm) : Tm := match k, ps with
  | .thn, p :: ps => .thn p ps
  | .both, ps => .both ps
  | _, ps => .first ps
theorem mkK_enc {k : Kd} (hk : k = .thn ∨ k = .both ∨ k = .first) {ps : List Tm} (h : ps ≠ []) : enc (mkK k ps) = .tuple (.str (kS k) :: encs ps) := by
  cases ps with
  | nil => exact absurd rfl h
  | cons p ps => rcases hk with rfl | rfl | rfl <;> simp [mkK, enc, encs]
theorem mkK_leaves (k : Kd) (ps : List Tm) : leaves (mkK k ps) = leavesL ps := by
  unfold mkK
  split <;> simp [leaves, leavesL]
theorem mkK_sh {k : Kd} {d : Nat} {ps : List Tm} (h : 2 ≤ ps.length ∧ ps.length ≤ 3) (hp : ∀ p ∈ ps, shB d p = true) : shB (d + 1) (mkK k ps) = true := by
  unfold mkK
  split
  · rename_i p ps
    rw [shB]
    simp at h ⊢
    exact ⟨by omega, hp p (by simp), fun q hq => hp q (by simp [hq])⟩
  · rw [shB]; simp; exact ⟨by omega, hp⟩
  · rw [shB]; simp; exact ⟨by omega, hp⟩
/-- the level of the pure defs -/
abbrev LV : Nat := 150
section
variable {P : Program} {w : World} {K : KF} {sc : Addr} {mg : Str → Option Value} {base : Heap} {f : Addr} {fd : FuncData} {n : Nat}
theorem FokP.mono {j k : Nat} {x : Str} {ps : List Str} {F : List D → Option D} (h : FokP P w K mg base j x ps F) (l : j ≤ k) : FokP P w K mg base k x ps F := by
  obtain ⟨f, fd, a, b⟩ := h
  exact ⟨f, fd, a.mono l, b⟩
theorem fok_plan {m : Nat} (hm3 : m ≤ 2) (T : Txt K mg) (Ct : FokS P w K mg base n "_law_taken" ["_law_row", "_law_many"] (spTaken K sc)) (Cl : FokS P w K mg base n "_law_leaf" ["_law_row"] (spLeaf K sc))
    (Cp : FokS P w K mg base n "_law_plan" ["_law_row", "_law_deep"] (spPlan K sc m)) (Cv : FokP P w K mg base n "_law_leaves" ["_law_plan_here"] (den LV .fLleaves))
    (F : FnP K "_law_plan" sLplan f fd) (hm : mg "_law_plan" = some (.ref f)) : FokS P w K mg base (n + 1) "_law_plan" ["_law_row", "_law_deep"] (spPlan K sc (m + 1)) := by
  refine ⟨f, fd, F.ok sc_Lplan (fun vs H Q E h => ?_) (fun cdv A outer s H vs Q E hr h => ?_), hm, F.kp, F.bindsN fun _ _ _ _ _ _ us hl => match us, hl with | [_, _], _ => rfl⟩
  · obtain ⟨a, G, d, rfl, _⟩ := h
    rfl
  have nd := sc_Lplan.nd
  have S := sc_Lplan
  obtain ⟨f1, fd1, t1, t2, t3, t4⟩ := Ct
  obtain ⟨f2, fd2, l1, l2, l3, l4⟩ := Cl
  obtain ⟨f3, fd3, p1, p2, p3, p4⟩ := Cp
  refine ⟨_, PSs.nox (pss_cons (ps_set (i := 2) nd rfl (Or.inl rfl) (pe_call t1 hr rfl t2 t3 t4 .nil pass0 (pa_cons (pv 0) (pa_cons pe_int pa_nil))))
    (pss_cons (ps_if (PW.pt (pw_or (pt_cmpR op_lt (pv 1) pe_int (nomark _)) (pw_or1 (pt_cmpR op_lt (pv 2) pe_int (nomark _))))) (pss_one (ps_ret (pe_call l1 hr rfl l2 l3 l4 .nil pass0 (pa_cons (pv 0) pa_nil)))) pss_nil)
    (pss_cons (ps_if (pt_cmpR op_lt (pv 2) pe_int (nomark _))
      (pss_cons (ps_set (i := 3) nd rfl (Or.inl rfl) (pe_tup (pa_cons (pe_ix ix_list (pe_lst (pa_cons pe_str (pa_cons pe_str (pa_cons pe_str pa_nil)))) (pe_op op_modN (pe_callTy call_int1 (by rfl) T.z_int (by decide +kernel) (pa_cons (pv 2) pa_nil)) pe_int) (fun _ _ => rfl)) pa_nil)))
      (pss_cons (ps_for PassesOwn.never rfl (pi_range1 (by rfl) T.z_range (pa_cons (pe_op op_add pe_int (pe_callTy call_int1 (by rfl) T.z_int (by decide +kernel) (pa_cons (pe_cmpR op_eq (pe_call t1 hr rfl t2 t3 t4 .nil pass0 (pa_cons (pv 0) (pa_cons pe_int pa_nil))) pe_int (nomark _)) pa_nil))) pa_nil)) (pg_name (i := 4) nd rfl (Or.inl rfl))
        (pss_one (ps_set (i := 3) nd rfl (Or.inl rfl) (pe_op opD_add (pv 3) (pe_tup (pa_cons (pe_call p1 hr rfl p2 p3 p4 .nil pass0 (pa_cons (pv 0) (pa_cons (pe_op op_sub (pv 1) pe_int) pa_nil))) pa_nil))))))
      (pss_one (ps_ret (pe_ifExp (pb_cmp opD_lt (pf_cb cr_len (by rfl) T.z_len (by decide +kernel) (pf_call Cv hr (by rfl) (pl_cons (pf_var (pv 3)) pl_nil))) pf_int (nomark _)) (pv 3) (pe_ix ix_tup (pv 3) pe_int (fun _ _ => rfl))))))) pss_nil)
    (pss_cons (ps_if (pt_cmpR op_eq (pv 2) pe_int (nomark _)) (pss_one (ps_ret (pe_tup (pa_cons pe_str (pa_cons (pe_op op_add pe_int (pe_call t1 hr rfl t2 t3 t4 .nil pass0 (pa_cons (pv 0) (pa_cons pe_int pa_nil)))) (pa_cons (pe_call p1 hr rfl p2 p3 p4 .nil pass0 (pa_cons (pv 0) (pa_cons (pe_op op_sub (pv 1) pe_int) pa_nil))) pa_nil)))))) pss_nil)
    (pss_cons (ps_if (pt_cmpR op_eq (pv 2) pe_int (nomark _))
      (pss_cons (ps_set (i := 3) nd rfl (Or.inl rfl) (pe_tup (pa_cons pe_str (pa_cons (pe_call p1 hr rfl p2 p3 p4 .nil pass0 (pa_cons (pv 0) (pa_cons (pe_op op_sub (pv 1) pe_int) pa_nil))) (pa_cons (pe_call p1 hr rfl p2 p3 p4 .nil pass0 (pa_cons (pv 0) (pa_cons (pe_op op_sub (pv 1) pe_int) pa_nil))) pa_nil)))))
      (pss_one (ps_ret (pe_ifExp (pb_cmp opD_lt (pf_cb cr_len (by rfl) T.z_len (by decide +kernel) (pf_call Cv hr (by rfl) (pl_cons (pf_var (pv 3)) pl_nil))) pf_int (nomark _)) (pv 3) (pe_ix ix_tup (pv 3) pe_int (fun _ _ => rfl)))))) pss_nil)
    (pss_one (ps_ret (pe_tup (pa_cons pe_str (pa_cons (pe_call p1 hr rfl p2 p3 p4 .nil pass0 (pa_cons (pv 0) (pa_cons (pe_op op_sub (pv 1) pe_int) pa_nil))) pa_nil)))))))))), ?_⟩
  obtain ⟨a, G, d, rfl, hdm, rw_, ga, sg, hQ⟩ := h
  refine ⟨.ref a, rfl, a, 11, rfl, rw_, by decide, by decide, fun r o h0 h1 hw => ?_⟩
  have sg1 := same_updG sg ga o
  have e1 : Ef (· = a) G H G (upd H a o) := Ef.up (M := (· = a)) sg ga rfl o
  have leafB : tCall (spLeaf K sc) [] E0 (tCons (tVar 0) tNil) ((L2.start N_Lplan [.ref a, .int ((d : Int) + 1)]).set 2 (some (.int r))) (upd H a o) Q :=
    ⟨.ref a, rfl, a, G, rfl, hw, ga, sg1, fun t v G' H' hl e2 hw2 rv => hQ t v G' H' (leaf_good hl d) (e1.trans e2) hw2 rv⟩
  have callT : ∀ (σ : L2.St) (H1 : Hp) (Q1 : VK) (m : Int), σ[0]? = some (some (.ref a)) → Rw K sc H1 a → 1 ≤ m → m < 1000000 → (∀ (r : Int) (o : HO), 0 ≤ r → r < m → Rw K sc (upd H1 a o) a → Q1 (.int r) (upd H1 a o)) →
      tCall (spTaken K sc) [] E0 (tCons (tVar 0) (tCons (tC (.int m)) tNil)) σ H1 Q1 := fun σ H1 Q1 m h0 hw a1 a2 q => ⟨.ref a, h0, a, m, rfl, hw, a1, a2, q⟩
  refine ⟨.int ((d : Int) + 1), rfl, _, _, rfl, rfl, _, rfl, ?_⟩
  cases hd1 : decide ((d : Int) + 1 < 2) with
  | true => exact iteT (iteT leafB)
  | false =>
    refine iteF ⟨.int r, rfl, _, _, rfl, rfl, _, rfl, ?_⟩
    cases hd2 : decide (r < 2) with
    | true => exact iteT leafB
    | false =>
      refine iteF ?_
      have hd0 : 1 ≤ d := by have := of_decide_eq_false hd1; omega
      obtain ⟨e, rfl⟩ : ∃ e, d = e + 1 := ⟨d - 1, by omega⟩
      have callP : ∀ (σ : L2.St) (G1 H1 : Hp) (Q1 : VK), σ[0]? = some (some (.ref a)) → σ[1]? = some (some (.int (((e + 1 : Nat) : Int) + 1))) → Rw K sc H1 a → G1 a = none → Same G1 H1 → (∀ (t : Tm) (v : V) (G' H' : Hp), Good e t → Ef (· = a) G1 H1 G' H' → Rw K sc H' a → Rp K G' v (enc t) → Q1 v H') →
          tCall (spPlan K sc m) [] E0 (tCons (tVar 0) (tCons (tOp (rI0 fun i j => .int (i - j)) (tVar 1) (tC (.int 1))) tNil)) σ H1 Q1 := fun σ G1 H1 Q1 s0 s1 hw1 g1 sg1 q =>
        ⟨.ref a, s0, .int (((e + 1 : Nat) : Int) + 1), s1, _, _, rfl, rfl, a, G1, e, (by show [V.ref a, V.int (((e + 1 : Nat) : Int) + 1 - 1)] = [V.ref a, V.int ((e : Int) + 1)]; rw [show ((e + 1 : Nat) : Int) + 1 - 1 = (e : Int) + 1 by omega]), by omega, hw1, g1, sg1, q⟩
      have keepA : ∀ {G1 H1 : Hp}, Ef (· = a) G H G1 H1 → G1 a = none := fun x => x.keep ga rw_.some
      -- the end: the head, or its first kid
      have fin : ∀ (σ : L2.St) (G1 H1 : Hp) (v : V) (t k1 : Tm) (y : D) (ys : List D), σ.length = 5 → σ[3]? = some (some v) → Ef (· = a) G H G1 H1 → Rw K sc H1 a → Rp K G1 v (enc t) → enc t = .tuple (y :: enc k1 :: ys) → shB (e + 1) t = true → LfOk t → Good e k1 →
          tIf (tFB K (cmpB (intH fun i j => decide (i < j)) (cB lenH (cCall 1 (den LV .fLleaves) (cCons (cV 3) cNil))) (cK (.int 9)))) (tVar 3) (tOp (rIxT K) (tVar 3) (tC (.int 1))) σ H1 Q := by
        intro σ G1 H1 v t k1 y ys hl h3 ef hw1 rp et hsh hlf g1
        have hsz := sz_good (d := e + 1) (by omega) hsh
        have hval := (sp_den LV).Lleaves (e + 1 + 1) t (sh_vP (e + 1) t hsh hlf) (by show 4 * sz t + 2 ≤ 150; omega) (by omega)
        have ev : EnvR K G1 H1 σ [.no, .no, .no, .im (enc t), .no] := (EnvR.base (n := 5) hl.symm).add h3 rp
        refine ⟨_, G1, decide ((leaves t).length < 9), ef.gh, ev, ?_, fun G2 H2 x2 => ?_⟩
        · have dd : decide (((leaves t).length : Int) < 9) = decide ((leaves t).length < 9) := decide_eq_decide.mpr (by omega)
          simp [hval, dd]
        · have ef2 := ef.trans (Ef.of x2)
          have hw2 := hw1.ext x2.hh
          cases hb : decide ((leaves t).length < 9) with
          | true => exact iteT ⟨v, h3, hQ t v G2 H2 ⟨hsh, by have := of_decide_eq_true hb; omega, hlf⟩ ef2 hw2 (rp.same x2.gg)⟩
          | false =>
            refine iteF ⟨v, h3, ?_⟩
            have rp2 := rp.same x2.gg
            rw [et] at rp2
            cases rp2 with
            | @tup p xs _ hq z rv =>
              obtain ⟨u, hu, ru⟩ := rv.get (i := 1) rfl
              exact ⟨p, xs, 1, u, rfl, rfl, sqT_same x2.gh hq, atI_nat (j := 1) hu, hQ k1 u G2 H2 g1.mono ef2 hw2 ru⟩
      refine ⟨.int r, rfl, _, _, rfl, rfl, _, rfl, ?_⟩
      cases hd3 : decide (r < 8) with
      | true =>
        refine iteT ?_
        have hk : ∃ kd : Kd, (kd = .thn ∨ kd = .both ∨ kd = .first) ∧ atI ([.str "then", .str "both", .str "first"] : List V) (r.fmod 3) = some (.str (kS kd)) := by
          rw [Int.fmod_eq_emod_of_nonneg r (by omega)]
          have : r % 3 = 0 ∨ r % 3 = 1 ∨ r % 3 = 2 := by omega
          rcases this with h | h | h <;> rw [h]
          · exact ⟨.thn, .inl rfl, rfl⟩
          · exact ⟨.both, .inr (.inl rfl), rfl⟩
          · exact ⟨.first, .inr (.inr rfl), rfl⟩
        obtain ⟨kd, hkd, hat⟩ := hk
        refine ⟨by show (3 : Nat) ≤ sizeLine; exact small (by decide), fun l hl => ⟨.int r, rfl, .inl ⟨r, rfl, r, 3, rfl, rfl, (show (3 : Int) ≠ 0 by decide), l, _, r.fmod 3, _, rfl, rfl, SqL.of upd_same, hat, ?_⟩⟩⟩
        have x2 : Ext G (upd H a o) G (upd (upd H a o) l (.lst [.str "then", .str "both", .str "first"])) := Ext.only sg1 (same_upd hl _)
        refine ⟨by show (1 : Nat) ≤ sizeLine; exact small (by decide), fun p hp => ?_⟩
        obtain ⟨x3, rp3⟩ := mkTup (K := K) (ds := [.str (kS kd)]) (.cons (.str _ (kS_ok kd)) .nil) x2.gh hp (by show (1 : Nat) ≤ sizeLine; exact small (by decide))
        have ef3 := (e1.trans (Ef.of x2)).trans (Ef.of x3)
        have hw3 : Rw K sc _ a := (hw.ext x2.hh).ext x3.hh
        generalize upd (upd (upd H a o) l (.lst [.str "then", .str "both", .str "first"])) p (.tup [.str (kS kd)]) = H3 at ef3 hw3
        generalize upd G p (.tup [.str (kS kd)]) = G3 at rp3 ef3
        -- how many kids
        refine callT _ _ _ 6 rfl hw3 (by decide) (by decide) fun r6 o6 _ _ hw4 => ⟨rfl, .inr ⟨_, rfl, _, _, rfl, rfl, _, rfl, ?_, ?_, ?_⟩⟩
        · split <;> omega
        · split <;> omega
        have ef4 := ef3.trans (Ef.up (M := (· = a)) ef3.gh (keepA ef3) rfl o6)
        generalize hj : (2 + if decide (V.int r6 = V.int 0) = true then (1 : Int) else 0) = j
        have hj2 : j = 2 ∨ j = 3 := by rw [← hj]; split <;> simp
        refine for_range (lo := 0) (n := j.toNat) (fun i σ H' => ∃ (G' : Hp) (ps : List Tm) (v : V) (x : Option V), σ = [some (.ref a), some (.int (((e + 1 : Nat) : Int) + 1)), some (.int r), some v, x] ∧ ps.length = i ∧ (∀ q ∈ ps, Good e q) ∧ Ef (· = a) G H G' H' ∧ Rw K sc H' a ∧ Rp K G' v (.tuple (.str (kS kd) :: encs ps))) ?_ ?_ ?_
        · exact ⟨G3, [], .ref p, none, rfl, rfl, (fun q hq => by cases hq), ef4, hw4, by simpa [encs] using rp3⟩
        · rintro i σ H' hi ⟨G', ps, v, x, rfl, hl, hg, ef, hw', rp⟩
          refine ⟨v, rfl, callP _ G' H' _ rfl rfl hw' (keepA ef) ef.gh fun t v2 G2 H2 g2 ef2 hw2 rp2 => ?_⟩
          refine ⟨by show (1 : Nat) ≤ sizeLine; exact small (by decide), fun p2 hp2 => ?_⟩
          obtain ⟨x5, rp5⟩ := mkTup (K := K) (ds := [enc t]) (.cons rp2 .nil) ef2.gh hp2 (by show (1 : Nat) ≤ sizeLine; exact small (by decide))
          have hl3 : ps.length < 3 := by rcases hj2 with h | h <;> rw [h] at hi <;> simp at hi <;> omega
          refine ⟨_, _, _, _, x5.gh, rp.same (ef2.gg.trans x5.gg), rp5, (show addH _ _ = some (.tuple ((.str (kS kd) :: encs ps) ++ [enc t])) by simp only [ev_addt]; rw [chk_ok (by simp; omega)]; rfl), fun v6 G6 H6 x6 rp6 => ?_⟩
          refine ⟨G6, ps ++ [t], v6, _, rfl, by simp [hl], fun q hq => ?_, ((ef.trans ef2).trans (Ef.of x5)).trans (Ef.of x6), ((hw2.ext x5.hh).ext x6.hh), ?_⟩
          · rcases List.mem_append.mp hq with h | h
            · exact hg q h
            · rw [List.mem_singleton.mp h]; exact g2
          · have rp7 : Rp K G6 v6 (.tuple ((.str (kS kd) :: encs ps) ++ [enc t])) := rp6
            simpa [encs_app, encs] using rp7
        · rintro σ H' ⟨G', ps, v, x, rfl, hl, hg, ef, hw', rp⟩
          have hlen : 2 ≤ ps.length ∧ ps.length ≤ 3 := by rcases hj2 with h | h <;> rw [h] at hl <;> simp at hl <;> omega
          have hne : ps ≠ [] := fun z => by rw [z] at hlen; simp at hlen
          obtain ⟨k1, ks, rfl⟩ : ∃ k1 ks, ps = k1 :: ks := by
            cases ps with
            | nil => exact absurd rfl hne
            | cons k1 ks => exact ⟨k1, ks, rfl⟩
          rw [← mkK_enc hkd hne] at rp
          refine fin _ G' H' v (mkK kd (k1 :: ks)) k1 (.str (kS kd)) (encs ks) rfl rfl ef hw' rp (by rw [mkK_enc hkd hne]; rfl) (mkK_sh hlen fun q hq => (hg q hq).sh) (fun u hu => ?_) (hg k1 List.mem_cons_self)
          rw [mkK_leaves] at hu
          obtain ⟨q, hq, hu⟩ := leavesL_mem hu
          exact (hg q hq).lf u hu
      | false =>
        refine iteF ?_
        refine ⟨.int r, rfl, rfl, _, rfl, ?_⟩
        cases hd4 : decide (V.int r = V.int 8) with
        | true =>
          refine iteT ?_
          refine callT _ _ _ 2 rfl hw (by decide) (by decide) fun r2 o2 h2 h3 hw2 => ⟨_, _, rfl, rfl, ?_⟩
          have ef2 := e1.trans (Ef.up (M := (· = a)) sg1 ga rfl o2)
          refine callP _ G _ _ rfl rfl hw2 ga ef2.gh fun t v G3 H3 g3 ef3 hw3 rp3 => ?_
          refine ⟨by show (3 : Nat) ≤ sizeLine; exact small (by decide), fun p hp => ?_⟩
          obtain ⟨n2, rfl⟩ : ∃ n2 : Nat, r2 = (n2 : Int) := ⟨r2.toNat, by omega⟩
          obtain ⟨x4, rp4⟩ := mkTup (K := K) (ds := [.str (kS .within), .int (1 + (n2 : Int)), enc t]) (.cons (.str _ (kS_ok .within)) (.cons (.int _) (.cons rp3 .nil))) ef3.gh hp (by show (3 : Nat) ≤ sizeLine; exact small (by decide))
          refine hQ (.within (1 + n2) t) _ _ _ ⟨?_, g3.lv, g3.lf⟩ ((ef2.trans ef3).trans (Ef.of x4)) (hw3.ext x4.hh) ?_
          · rw [shB]; simp; exact ⟨by omega, g3.sh⟩
          · simp only [enc]
            rw [show ((1 + n2 : Nat) : Int) = 1 + (n2 : Int) by omega]
            exact rp4
        | false =>
          refine iteF ?_
          refine ⟨.int r, rfl, rfl, _, rfl, ?_⟩
          cases hd5 : decide (V.int r = V.int 9) with
          | true =>
            refine iteT ?_
            refine callP _ G _ _ rfl rfl hw ga sg1 fun t v G3 H3 g3 ef3 hw3 rp3 => ?_
            refine callP _ G3 _ _ rfl rfl hw3 (keepA (e1.trans ef3)) ef3.gh fun t2 v2 G4 H4 g4 ef4 hw4 rp4 => ?_
            refine ⟨by show (3 : Nat) ≤ sizeLine; exact small (by decide), fun p hp => ?_⟩
            obtain ⟨x5, rp5⟩ := mkTup (K := K) (ds := [.str (kS .last), enc t, enc t2]) (.cons (.str _ (kS_ok .last)) (.cons (rp3.same ef4.gg) (.cons rp4 .nil))) ef4.gh hp (by show (3 : Nat) ≤ sizeLine; exact small (by decide))
            refine fin _ _ _ _ (.last t t2) t (.str (kS .last)) [enc t2] rfl rfl (((e1.trans ef3).trans ef4).trans (Ef.of x5)) (hw4.ext x5.hh) rp5 rfl ?_ (fun u hu => ?_) g3
            · rw [shB]; simp; exact ⟨g3.sh, g4.sh⟩
            · simp only [leaves] at hu
              rcases List.mem_append.mp hu with h | h
              · exact g3.lf u h
              · exact g4.lf u h
          | false =>
            refine iteF ?_
            refine callP _ G _ _ rfl rfl hw ga sg1 fun t v G3 H3 g3 ef3 hw3 rp3 => ?_
            refine ⟨by show (2 : Nat) ≤ sizeLine; exact small (by decide), fun p hp => ?_⟩
            obtain ⟨x4, rp4⟩ := mkTup (K := K) (ds := [.str (kS .shield), enc t]) (.cons (.str _ (kS_ok .shield)) (.cons rp3 .nil)) ef3.gh hp (by show (2 : Nat) ≤ sizeLine; exact small (by decide))
            exact hQ (.shield t) _ _ _ ⟨by rw [shB]; exact g3.sh, g3.lv, g3.lf⟩ ((e1.trans ef3).trans (Ef.of x4)) (hw3.ext x4.hh) rp4
end
end LT
/-! # Tk5 -/
namespace LT
open PySem PySem.Spec PyProof.Rows L2 Tm
/-! ## words handed out in order -/
namespace Tm
mutual
def ren : Tm → List Nat → Tm × List Nat
  | say _, [] => (rest, [])
  | say _, n :: ns => (say n, ns)
  | rest, ns => (rest, ns)
  | wait e, ns => (wait e, ns)
  | thn p ps, ns => (thn (ren p ns).1 (renL ps (ren p ns).2).1, (renL ps (ren p ns).2).2)
  | both ps, ns => (both (renL ps ns).1, (renL ps ns).2)
  | first ps, ns => (first (renL ps ns).1, (renL ps ns).2)
  | within k p, ns => (within k (ren p ns).1, (ren p ns).2)
  | last p q, ns => (last (ren p ns).1 (ren q (ren p ns).2).1, (ren q (ren p ns).2).2)
  | shield p, ns => (shield (ren p ns).1, (ren p ns).2)
  | keep p, ns => (keep (ren p ns).1, (ren p ns).2)
def renL : List Tm → List Nat → List Tm × List Nat
  | [], ns => ([], ns)
  | p :: ps, ns => ((ren p ns).1 :: (renL ps (ren p ns).2).1, (renL ps (ren p ns).2).2)
end
theorem renL_app : ∀ (as bs : List Tm) (ns : List Nat), renL (as ++ bs) ns = ((renL as ns).1 ++ (renL bs (renL as ns).2).1, (renL bs (renL as ns).2).2)
  | [], bs, ns => rfl
  | a :: as, bs, ns => by
    simp only [List.cons_append, renL]
    rw [renL_app as bs]
theorem renL_len : ∀ (ts : List Tm) (ns : List Nat), (renL ts ns).1.length = ts.length
  | [], _ => rfl
  | t :: ts, ns => by simp [renL, renL_len ts]
end Tm
/-- what stands ahead of a plan's parts -/
def headD : Tm → List D
  | .rest => [.str (kS .rest)]
  | .say w => [.str (kS .say), .int w]
  | .wait e => [.str (kS .wait), .int e]
  | .thn _ _ => [.str (kS .thn)]
  | .both _ => [.str (kS .both)]
  | .first _ => [.str (kS .first)]
  | .within n _ => [.str (kS .within), .int n]
  | .last _ _ => [.str (kS .last)]
  | .shield _ => [.str (kS .shield)]
  | .keep _ => [.str (kS .keep)]
theorem enc_parts (t : Tm) : enc t = .tuple (headD t ++ encs (parts t)) := by
  cases t <;> simp [enc, headD, parts, encs]
theorem ren_parts (t : Tm) (ns : List Nat) (h : ∀ w, t ≠ .say w) : enc (ren t ns).1 = .tuple (headD t ++ encs (renL (parts t) ns).1) ∧ (ren t ns).2 = (renL (parts t) ns).2 := by
  cases t <;> simp [ren, renL, enc, headD, parts, encs] at h ⊢
theorem ren_sh : ∀ (d : Nat) (t : Tm) (ns : List Nat), shB d t = true → shB d (ren t ns).1 = true
  | 0, t, ns, h => by
    cases t <;> simp [shB, isLeaf] at h
    · rfl
    · cases ns <;> rfl
    · rfl
  | d + 1, t, ns, h => by
    have key : ∀ (ts : List Tm) (ns : List Nat), (∀ q ∈ ts, shB d q = true) → ∀ q ∈ (renL ts ns).1, shB d q = true := by
      intro ts
      induction ts with
      | nil => intro ns _ q hq; cases hq
      | cons t ts ih =>
        intro ns h q hq
        simp only [renL] at hq
        rcases List.mem_cons.mp hq with e | hq
        · rw [e]; exact ren_sh d t ns (h t List.mem_cons_self)
        · exact ih _ (fun u hu => h u (List.mem_cons_of_mem _ hu)) q hq
    cases t with
    | rest => rfl
    | say w => cases ns <;> rfl
    | wait w => rfl
    | thn p ps =>
      rw [shB] at h
      simp at h
      simp only [ren]
      rw [shB]
      simp [renL_len]
      exact ⟨h.1, ren_sh d p ns h.2.1, key ps _ h.2.2⟩
    | both ps =>
      rw [shB] at h
      simp at h
      simp only [ren]
      rw [shB]
      simp [renL_len]
      exact ⟨h.1, key ps _ h.2⟩
    | first ps =>
      rw [shB] at h
      simp at h
      simp only [ren]
      rw [shB]
      simp [renL_len]
      exact ⟨h.1, key ps _ h.2⟩
    | within k p =>
      rw [shB] at h
      simp at h
      simp only [ren]
      rw [shB]
      simp
      exact ⟨h.1, ren_sh d p ns h.2⟩
    | last p q =>
      rw [shB] at h
      simp at h
      simp only [ren]
      rw [shB]
      simp
      exact ⟨ren_sh d p ns h.1, ren_sh d q _ h.2⟩
    | shield p =>
      rw [shB] at h
      simp only [ren]
      rw [shB]
      exact ren_sh d p ns h
    | keep p => simp [shB, isLeaf] at h
mutual
theorem ren_leaves : ∀ (t : Tm) (ns : List Nat), (leaves (ren t ns).1).length = (leaves t).length
  | .rest, _ => rfl
  | .say _, [] => rfl
  | .say _, _ :: _ => rfl
  | .wait _, _ => rfl
  | .thn p ps, ns => by simp only [ren, leaves, List.length_append]; rw [ren_leaves p, renL_leaves ps]
  | .both ps, ns => by simp only [ren, leaves]; rw [renL_leaves ps]
  | .first ps, ns => by simp only [ren, leaves]; rw [renL_leaves ps]
  | .within _ p, ns => by simp only [ren, leaves]; rw [ren_leaves p]
  | .last p q, ns => by simp only [ren, leaves, List.length_append]; rw [ren_leaves p, ren_leaves q]
  | .shield p, ns => by simp only [ren, leaves]; rw [ren_leaves p]
  | .keep p, ns => by simp only [ren, leaves]; rw [ren_leaves p]
theorem renL_leaves : ∀ (ts : List Tm) (ns : List Nat), (leavesL (renL ts ns).1).length = (leavesL ts).length
  | [], _ => rfl
  | t :: ts, ns => by simp only [renL, leavesL, List.length_append]; rw [ren_leaves t, renL_leaves ts]
end
def wdL (l : List Tm) : List Nat := l.filterMap fun t => match t with
  | .say w => some w
  | _ => none
theorem wdL_app (a b : List Tm) : wdL (a ++ b) = wdL a ++ wdL b := by simp [wdL]
mutual
/-- the words, then the names that are left, are the names -/
theorem ren_words : ∀ (t : Tm) (ns : List Nat), wdL (leaves (ren t ns).1) ++ (ren t ns).2 = ns
  | .rest, _ => rfl
  | .say _, [] => rfl
  | .say _, _ :: _ => rfl
  | .wait _, _ => rfl
  | .thn p ps, ns => by
    simp only [ren, leaves]
    rw [wdL_app, List.append_assoc, renL_words ps, ren_words p]
  | .both ps, ns => by simp only [ren, leaves]; exact renL_words ps ns
  | .first ps, ns => by simp only [ren, leaves]; exact renL_words ps ns
  | .within _ p, ns => by simp only [ren, leaves]; exact ren_words p ns
  | .last p q, ns => by
    simp only [ren, leaves]
    rw [wdL_app, List.append_assoc, ren_words q, ren_words p]
  | .shield p, ns => by simp only [ren, leaves]; exact ren_words p ns
  | .keep p, ns => by simp only [ren, leaves]; exact ren_words p ns
theorem renL_words : ∀ (ts : List Tm) (ns : List Nat), wdL (leavesL (renL ts ns).1) ++ (renL ts ns).2 = ns
  | [], _ => rfl
  | t :: ts, ns => by
    simp only [renL, leavesL]
    rw [wdL_app, List.append_assoc, renL_words ts, ren_words t]
end
mutual
theorem ren_waits : ∀ (t : Tm) (ns : List Nat) (e : Nat), .wait e ∈ leaves (ren t ns).1 → .wait e ∈ leaves t
  | .rest, _, e, h => h
  | .say _, [], e, h => by simp [ren, leaves] at h
  | .say _, _ :: _, e, h => by simp [ren, leaves] at h
  | .wait _, _, e, h => h
  | .thn p ps, ns, e, h => by
    simp only [ren, leaves] at h ⊢
    rcases List.mem_append.mp h with h | h
    · exact List.mem_append_left _ (ren_waits p _ e h)
    · exact List.mem_append_right _ (renL_waits ps _ e h)
  | .both ps, ns, e, h => renL_waits ps ns e h
  | .first ps, ns, e, h => renL_waits ps ns e h
  | .within _ p, ns, e, h => ren_waits p ns e h
  | .last p q, ns, e, h => by
    simp only [ren, leaves] at h ⊢
    rcases List.mem_append.mp h with h | h
    · exact List.mem_append_left _ (ren_waits p _ e h)
    · exact List.mem_append_right _ (ren_waits q _ e h)
  | .shield p, ns, e, h => ren_waits p ns e h
  | .keep p, ns, e, h => ren_waits p ns e h
theorem renL_waits : ∀ (ts : List Tm) (ns : List Nat) (e : Nat), .wait e ∈ leavesL (renL ts ns).1 → .wait e ∈ leavesL ts
  | [], _, e, h => h
  | t :: ts, ns, e, h => by
    simp only [renL, leavesL] at h ⊢
    rcases List.mem_append.mp h with h | h
    · exact List.mem_append_left _ (ren_waits t _ e h)
    · exact List.mem_append_right _ (renL_waits ts _ e h)
end
theorem encs_eq : ∀ (ts : List Tm), encs ts = ts.map enc
  | [] => rfl
  | t :: ts => by simp [encs, encs_eq ts]
theorem encs_length (ts : List Tm) : (encs ts).length = ts.length := by rw [encs_eq, List.length_map]
theorem parts_sh {d : Nat} {t : Tm} (h : shB d t = true) (hp : parts t ≠ []) : ∃ e, d = e + 1 ∧ (∀ q ∈ parts t, shB e q = true) ∧ (parts t).length ≤ 3 := by
  cases d with
  | zero => cases t <;> simp [shB, isLeaf] at h <;> exact absurd rfl hp
  | succ e =>
    refine ⟨e, rfl, ?_⟩
    cases t <;> simp [shB, isLeaf, parts] at h hp ⊢
    · exact ⟨h.2, by omega⟩
    · exact ⟨h.2, by omega⟩
    · exact ⟨h.2, by omega⟩
    · exact h.2
    · exact h
    · exact h
theorem rpl_ints {K : KF} {G : Hp} : ∀ (ns : List Nat), RpL K G (ns.map fun (i : Nat) => V.int (i : Int)) (ns.map fun (i : Nat) => .int (i : Int))
  | [] => .nil
  | n :: ns => .cons (.int _) (rpl_ints ns)
/-- names in order -/
def spRen (K : KF) (m : Nat) : Sp := fun vs H Q _ => ∃ (nb : Addr) (v : V) (G : Hp) (d : Nat) (t : Tm) (ns : List Nat), vs = [v, .ref nb] ∧ d + 1 ≤ m ∧ shB d t = true ∧ H nb = some (.lst (ns.map fun (i : Nat) => V.int (i : Int))) ∧ ns.length ≤ 1000 ∧ G nb = none ∧ Same G H ∧ Rp K G v (enc t) ∧
  ∀ (v' : V) (G' H' : Hp), Ef (· = nb) G H G' H' → H' nb = some (.lst ((ren t ns).2.map fun (i : Nat) => V.int (i : Int))) → Rp K G' v' (enc (ren t ns).1) → Q v' H'
abbrev N_Lrenamed : List Str := ["_law_plan_here", "_law_names", "_law_pieces", "_law_piece"]
theorem sc_Lrenamed : FnScope N_Lrenamed ["_law_plan_here", "_law_names"] (defScope sLrenamed) := ⟨rfl, rfl, rfl, by decide +kernel, rfl, by decide +kernel, by decide +kernel⟩
section
variable {P : Program} {w : World} {K : KF} {mg : Str → Option Value} {base : Heap} {f : Addr} {fd : FuncData} {n : Nat}
theorem fok_renamed {m : Nat} (hm3 : m ≤ 2) (T : Txt K mg) (Cr : FokS P w K mg base n "_law_renamed" ["_law_plan_here", "_law_names"] (spRen K m)) (Cp : FokP P w K mg base n "_law_parts" ["_law_plan_here"] (den LV .fLparts))
    (F : FnP K "_law_renamed" sLrenamed f fd) (hm : mg "_law_renamed" = some (.ref f)) : FokS P w K mg base (n + 1) "_law_renamed" ["_law_plan_here", "_law_names"] (spRen K (m + 1)) := by
  refine ⟨f, fd, F.ok sc_Lrenamed (fun vs H Q E h => ?_) (fun cdv A outer s H vs Q E hr h => ?_), hm, F.kp, F.bindsN fun _ _ _ _ _ _ us hl => match us, hl with | [_, _], _ => rfl⟩
  · obtain ⟨nb, v, G, d, t, ns, rfl, _⟩ := h
    rfl
  have nd := sc_Lrenamed.nd
  have S := sc_Lrenamed
  have hu := hr.units
  obtain ⟨f1, fd1, r1, r2, r3, r4⟩ := Cr
  refine ⟨_, PSs.nox (pss_cons (ps_if (pb_cmp (opD_eq hu) (pf_ix (pf_var (pv 0)) pf_int) pf_str (nomark _))
      (pss_one (ps_ret (pe_ifExp (pt_cmpR (opD_ne hu) (pv 1) (pe_lst pa_nil) (nomark _)) (pe_tup (pa_cons pe_str (pa_cons (pe_bm PySem.F.plainAttrs_list PySem.F.slot_list_pop PySem.F.type_list_pop mt_popAt (pv 1) (pa_cons pe_int pa_nil)) pa_nil))) (pe_tup (pa_cons pe_str pa_nil))))) pss_nil)
    (pss_cons (ps_if (pb_cmp (opD_eq hu) (pf_call Cp hr (by rfl) (pl_cons (pf_var (pv 0)) pl_nil)) (pf_tup pl_nil) (nomark _)) (pss_one (ps_ret (pv 0))) pss_nil)
    (pss_cons (ps_set (i := 2) nd rfl (Or.inl rfl) (pe_tup pa_nil))
    (pss_cons (ps_for PassesOwn.never rfl (pfi_tup (pf_call Cp hr (by rfl) (pl_cons (pf_var (pv 0)) pl_nil))) (pg_name (i := 3) nd rfl (Or.inl rfl))
      (pss_one (ps_set (i := 2) nd rfl (Or.inl rfl) (pe_op opD_add (pv 2) (pe_tup (pa_cons (pe_call r1 hr rfl r2 r3 r4 .nil pass0 (pa_cons (pv 3) (pa_cons (pv 1) pa_nil))) pa_nil))))))
    (pss_one (ps_ret (pf_bin opD_add (pf_if (pb_cmp (opD_eq hu) (pf_ix (pf_var (pv 0)) pf_int) pf_str (nomark _)) (pf_slice (pf_var (pv 0)) pfo_none (pfo_some pf_int)) (pf_slice (pf_var (pv 0)) pfo_none (pfo_some pf_int))) (pf_var (pv 2))))))))), ?_⟩
  obtain ⟨nb, v, G, d, t, ns, rfl, hdm, hsh, hnb, hnl, gnb, sg, rp, hQ⟩ := h
  have lsz := sz_good (d := d) (by omega) hsh
  have ev0 : EnvR K G H (L2.start N_Lrenamed [v, .ref nb]) [.im (enc t), .no, .no, .no] := (EnvR.base (n := 4) rfl).add (i := 0) rfl rp
  by_cases hs : ∃ w, t = .say w
  · obtain ⟨w0, rfl⟩ := hs
    refine ⟨_, G, true, sg, ev0, by simp [enc], fun G1 H1 x1 => iteT ?_⟩
    have hn1 : H1 nb = some (.lst (ns.map fun (i : Nat) => V.int (i : Int))) := x1.hh _ _ hnb
    refine ⟨.ref nb, rfl, by show (0 : Nat) ≤ sizeLine; exact small (by decide), fun p hp => ?_⟩
    have hn2 : (upd H1 p (.lst [])) nb = some (.lst (ns.map fun (i : Nat) => V.int (i : Int))) := (same_upd hp _) _ _ hn1
    have x2 : Ext G1 H1 G1 (upd H1 p (.lst [])) := Ext.only x1.gh (same_upd hp _)
    have ef2 : Ef (· = nb) G H G1 (upd H1 p (.lst [])) := (Ef.of x1).trans (Ef.of x2)
    have g1 : G1 nb = none := (Ef.of (M := (· = nb)) x1).keep gnb (by rw [hnb]; exact fun z => nomatch z)
    refine ⟨upd H1 p (.lst []), .list (ns.map fun (i : Nat) => .int (i : Int)), .list [], !ns.isEmpty, Same.refl _, .lst hn2 (by rw [List.length_map]; exact small hnl) (rpl_ints ns), .lst upd_same (by show (0 : Nat) ≤ sizeLine; exact small (by decide)) .nil, ?_, _, rfl, ?_⟩
    · cases ns <;> simp [neH]
    cases ns with
    | nil =>
      refine iteF ⟨by show (1 : Nat) ≤ sizeLine; exact small (by decide), fun q hq => ?_⟩
      obtain ⟨x3, rp3⟩ := mkTup (K := K) (ds := [.str (kS .rest)]) (.cons (.str _ (kS_ok .rest)) .nil) x2.gh hq (by show (1 : Nat) ≤ sizeLine; exact small (by decide))
      exact hQ _ _ _ (ef2.trans (Ef.of x3)) (x3.hh _ _ hn2) rp3
    | cons k ns =>
      refine iteT ⟨.ref nb, rfl, .inl ⟨rfl, _, SqL.of hn2⟩, nb, _, 0, 0, .int (k : Int), rfl, rfl, hn2, by decide, by decide, by simp [seqIndex?], rfl, ?_⟩
      refine ⟨by show (2 : Nat) ≤ sizeLine; exact small (by decide), fun q hq => ?_⟩
      have ef3 := ef2.trans (Ef.up (M := (· = nb)) x2.gh g1 rfl (.lst ((((k :: ns).map fun (i : Nat) => V.int (i : Int))).eraseIdx 0)))
      obtain ⟨x3, rp3⟩ := mkTup (K := K) (ds := [.str (kS .say), .int (k : Int)]) (.cons (.str _ (kS_ok .say)) (.cons (.int _) .nil)) ef3.gh hq (by show (2 : Nat) ≤ sizeLine; exact small (by decide))
      exact hQ _ _ _ (ef3.trans (Ef.of x3)) (x3.hh _ _ upd_same) rp3
  · have hs' : ∀ w, t ≠ .say w := fun w e => hs ⟨w, e⟩
    refine ⟨_, G, false, sg, ev0, ?_, fun G1 H1 x1 => iteF ?_⟩
    · cases t <;> simp [enc] at hs' ⊢
    have ev1 := ev0.ext x1
    have hv := (sp_den LV).Lparts t (by show 1 ≤ 150; omega) (by omega)
    obtain ⟨q1, q2⟩ := ren_parts t ns hs'
    refine ⟨_, G1, (parts t).isEmpty, x1.gh, ev1, ?_, fun G2 H2 x2 => ?_⟩
    · cases e : parts t <;> simp [hv, e, encs, chk_ok]
    have efa : Ef (· = nb) G H G2 H2 := (Ef.of x1).trans (Ef.of x2)
    have hna : H2 nb = some (.lst (ns.map fun (i : Nat) => V.int (i : Int))) := x2.hh _ _ (x1.hh _ _ hnb)
    have rpa := (rp.same x1.gg).same x2.gg
    by_cases hp : parts t = []
    · rw [hp]
      rw [hp] at q1 q2
      refine iteT ⟨v, rfl, hQ v G2 H2 efa (by rw [q2]; exact hna) ?_⟩
      rw [q1]
      have := enc_parts t
      rw [hp] at this
      rw [this] at rpa
      exact rpa
    · have hpe : (parts t).isEmpty = false := by cases e : parts t <;> simp [e] at hp ⊢
      rw [hpe]
      obtain ⟨e, rfl, hk, hkl⟩ := parts_sh hsh hp
      refine iteF ⟨by show (0 : Nat) ≤ sizeLine; exact small (by decide), fun p hpn => ?_⟩
      obtain ⟨x3, rp3⟩ := mkTup (K := K) (ds := []) .nil x2.gh hpn (by show (0 : Nat) ≤ sizeLine; exact small (by decide))
      have efb := efa.trans (Ef.of x3)
      have hnb3 := x3.hh _ _ hna
      have rpb := rpa.same x3.gg
      generalize upd G2 p (.tup []) = G3 at *
      generalize upd H2 p (.tup []) = H3 at *
      refine ⟨[.im (enc t), .no, .no, .no], G3, encs (parts t), efb.gh, (EnvR.base (n := 4) rfl).add (i := 0) rfl rpb, by simp [hv], fun J Gd Y G4 H4 x4 yl => ?_⟩
      refine for_it yl.w (fun i σ H' => ∃ (G' : Hp) (v2 : V) (x : Option V), σ = [some v, some (.ref nb), some v2, x] ∧ Ef (· = nb) G4 H4 G' H' ∧ H' nb = some (.lst ((renL ((parts t).take i) ns).2.map fun (i : Nat) => V.int (i : Int))) ∧ Rp K G' v2 (.tuple (encs (renL ((parts t).take i) ns).1))) ?_ ?_ ?_ ?_
      · exact ⟨G4, _, none, rfl, Ef.refl x4.gh, x4.hh _ _ hnb3, rp3.same x4.gg⟩
      · rintro i σ H' _ ⟨G', v2, x, rfl, ef, _⟩
        exact yl.gd H' (ef.gg.trans ef.gh)
      · rintro i x σ H' H'' hlt ⟨G', v2, x0, rfl, ef, hn, rp2⟩ hy
        obtain ⟨d', hd, hkk⟩ := yl.y i H' x H'' hlt (ef.gg.trans ef.gh) hy
        obtain ⟨G5, x5, r5⟩ := hkk G' ef.gg ef.gh
        have hil : i < (parts t).length := by rw [encs_length] at hlt; exact hlt
        have hde : d' = enc (parts t)[i] := by
          rw [encs_eq, List.getElem?_map, List.getElem?_eq_getElem hil] at hd
          exact (Option.some.inj hd).symm
        subst hde
        have ef5 := ef.trans (Ef.of (M := (· = nb)) x5)
        have hn5 := x5.hh _ _ hn
        have hnz : H4 nb ≠ none := by rw [x4.hh _ _ hnb3]; exact fun z => nomatch z
        have g4 : G4 nb = none := (efb.trans (Ef.of (M := (· = nb)) x4)).keep gnb (by rw [hnb]; exact fun z => nomatch z)
        have g5 : G5 nb = none := ef5.keep g4 hnz
        have hle : (renL ((parts t).take i) ns).2.length ≤ 1000 := by
          have := congrArg List.length (renL_words ((parts t).take i) ns)
          rw [List.length_append] at this
          omega
        refine ⟨v2, rfl, x, rfl, .ref nb, rfl, nb, x, G5, e, (parts t)[i], _, rfl, by omega, hk _ (List.getElem_mem hil), hn5, hle, g5, x5.gh, r5, fun v' G6 H6 ef6 hn6 rp6 => ?_⟩
        refine ⟨by show (1 : Nat) ≤ sizeLine; exact small (by decide), fun p2 hp2 => ?_⟩
        obtain ⟨x7, rp7⟩ := mkTup (K := K) (ds := [enc ((parts t)[i].ren (renL ((parts t).take i) ns).2).1]) (.cons rp6 .nil) ef6.gh hp2 (by show (1 : Nat) ≤ sizeLine; exact small (by decide))
        have hz : (encs (renL ((parts t).take i) ns).1 ++ [enc ((parts t)[i].ren (renL ((parts t).take i) ns).2).1]).length ≤ 1000 := by
          rw [List.length_append, encs_length, renL_len, List.length_take, List.length_singleton]; omega
        refine ⟨_, _, _, _, x7.gh, ((rp2.same x5.gg).same ef6.gg).same x7.gg, rp7, (show addH _ _ = some (.tuple (encs (renL ((parts t).take i) ns).1 ++ [enc ((parts t)[i].ren (renL ((parts t).take i) ns).2).1])) by simp only [ev_addt]; rw [chk_ok (Nat.le_trans hz (by omega))]; rfl), fun v8 G8 H8 x8 rp8 => ?_⟩
        have ht : (parts t).take (i + 1) = (parts t).take i ++ [(parts t)[i]] := List.take_succ_eq_append_getElem hil
        refine ⟨G8, v8, _, rfl, ((ef5.trans ef6).trans (Ef.of x7)).trans (Ef.of x8), ?_, ?_⟩
        · rw [ht, renL_app]
          exact x8.hh _ _ (x7.hh _ _ hn6)
        · rw [ht, renL_app]
          have rp9 : Rp K G8 v8 (.tuple (encs (renL ((parts t).take i) ns).1 ++ [enc ((parts t)[i].ren (renL ((parts t).take i) ns).2).1])) := rp8
          simpa [encs_app, encs, renL] using rp9
      · rintro σ H' ⟨G', v2, x, rfl, ef, hn, rp2⟩
        rw [encs_length, List.take_length] at hn rp2
        have ef9 := (efb.trans (Ef.of (M := (· = nb)) x4)).trans ef
        refine ⟨[.im (enc t), .no, .im (.tuple (encs (renL (parts t) ns).1)), .no], G', .tuple (headD t ++ encs (renL (parts t) ns).1), ef.gh, ((EnvR.base (n := 4) rfl).add (i := 0) rfl ((rpb.same x4.gg).same ef.gg)).add (i := 2) rfl rp2, ?_, fun v' G10 H10 x10 rp10 => ?_⟩
        · have hl : (encs (renL (parts t) ns).1).length ≤ 3 := by rw [encs_length, renL_len]; exact hkl
          generalize encs (renL (parts t) ns).1 = Z at hl
          have c1 : ∀ (x : D) (xs : List D), cutL (x :: xs) none (some 1) = [x] := fun x xs => cutC (xs := x :: xs) (i := 0) (by simp)
          have c2 : ∀ (x y : D) (xs : List D), cutL (x :: y :: xs) none (some 2) = [x, y] := fun x y xs => cutC (xs := x :: y :: xs) (i := 1) (by simp)
          cases t <;> simp [enc, headD, parts] at hp hs' ⊢ <;> first | rw [c1, chk_ok (by simp; omega)]; rfl | rw [c2, chk_ok (by simp; omega)]; rfl
        · refine hQ v' G10 H10 (ef9.trans (Ef.of x10)) ?_ ?_
          · rw [q2]; exact x10.hh _ _ hn
          · rw [q1]; exact rp10
end
end LT
/-! # Tk6 -/
namespace LT
open PySem PySem.Spec PyProof.Rows L2 Tm
theorem Ef.sqL {K : KF} {nb sc : Addr} {G H G1 H1 : Hp} {xs : List V} (x : Ef (· = nb) G H G1 H1) (h : SqL K H sc xs) (ne : Apart K sc xs nb) : SqL K H1 sc xs := by
  rcases ne with ne | ne
  case inr => exact ne _
  rcases h with h | h
  · rcases h with h | ⟨q, h⟩
    · exact .inl (.inl (x.hh _ _ ne h))
    · exact .inl (.inr ⟨q, x.hh _ _ ne h⟩)
  · exact .inr h
/-- a drawn plan under names -/
def spMarked (K : KF) (sc : Addr) : Sp := fun vs H Q _ => ∃ (a nb : Addr) (G : Hp) (ns : List Nat), vs = [.ref a, .int 3, .ref nb] ∧ nb ≠ a ∧ (∀ H xs, SqL K H sc xs → Apart K sc xs nb) ∧ Rw K sc H a ∧ H nb = some (.lst (ns.map fun (i : Nat) => V.int (i : Int))) ∧ ns.length ≤ 1000 ∧ G a = none ∧ G nb = none ∧ Same G H ∧
  ∀ (t : Tm) (v' : V) (G' H' : Hp), Good 2 t → Ef (fun b => b = a ∨ b = nb) G H G' H' → Rw K sc H' a → H' nb = some (.lst ((ren t ns).2.map fun (i : Nat) => V.int (i : Int))) → Rp K G' v' (enc (ren t ns).1) → Q v' H'
abbrev N_Lmarked : List Str := ["_law_row", "_law_deep", "_law_names", "_law_plan_here"]
theorem sc_Lmarked : FnScope N_Lmarked ["_law_row", "_law_deep", "_law_names"] (defScope sLmarked) := ⟨rfl, rfl, rfl, by decide +kernel, rfl, by decide +kernel, by decide +kernel⟩
section
variable {P : Program} {w : World} {K : KF} {sc : Addr} {mg : Str → Option Value} {base : Heap} {f : Addr} {fd : FuncData} {n : Nat}
theorem fok_marked (Cp : FokS P w K mg base n "_law_plan" ["_law_row", "_law_deep"] (spPlan K sc 3)) (Cr : FokS P w K mg base n "_law_renamed" ["_law_plan_here", "_law_names"] (spRen K 3))
    (F : FnP K "_law_marked" sLmarked f fd) (hm : mg "_law_marked" = some (.ref f)) : FokS P w K mg base (n + 1) "_law_marked" ["_law_row", "_law_deep", "_law_names"] (spMarked K sc) := by
  refine ⟨f, fd, F.ok sc_Lmarked (fun vs H Q E h => ?_) (fun cdv A outer s H vs Q E hr h => ?_), hm, F.kp, F.bindsN fun _ _ _ _ _ _ us hl => match us, hl with | [_, _, _], _ => rfl⟩
  · obtain ⟨a, nb, G, ns, rfl, _⟩ := h
    rfl
  have nd := sc_Lmarked.nd
  have S := sc_Lmarked
  obtain ⟨f1, fd1, p1, p2, p3, p4⟩ := Cp
  obtain ⟨f2, fd2, r1, r2, r3, r4⟩ := Cr
  refine ⟨_, PSs.nox (pss_cons (ps_set (i := 3) nd rfl (Or.inl rfl) (pe_call p1 hr rfl p2 p3 p4 .nil pass0 (pa_cons (pv 0) (pa_cons (pv 1) pa_nil))))
    (pss_one (ps_ret (pe_call r1 hr rfl r2 r3 r4 .nil pass0 (pa_cons (pv 3) (pa_cons (pv 2) pa_nil)))))), ?_⟩
  obtain ⟨a, nb, G, ns, rfl, hne, hap, hw, hnb, hnl, ga, gnb, sg, hQ⟩ := h
  refine ⟨.ref a, rfl, .int 3, rfl, a, G, 2, rfl, by omega, hw, ga, sg, fun t v G1 H1 gd ef1 hw1 rp1 => ?_⟩
  have hn1 : H1 nb = some (.lst (ns.map fun (i : Nat) => V.int (i : Int))) := ef1.hh nb _ (fun e => hne e) hnb
  have g1 : G1 nb = none := ef1.keep gnb (by rw [hnb]; exact fun z => nomatch z)
  refine ⟨v, rfl, .ref nb, rfl, nb, v, G1, 2, t, ns, rfl, by omega, gd.sh, hn1, hnl, g1, ef1.gh, rp1, fun v' G2 H2 ef2 hn2 rp2 => ?_⟩
  refine hQ t v' G2 H2 gd ((ef1.mono fun b h => .inl h).trans (ef2.mono fun b h => .inr h)) ?_ hn2 rp2
  obtain ⟨xs, i, j, k, e, r⟩ := hw1
  obtain ⟨xs0, i0, j0, k0, e0, r0⟩ := hw
  refine ⟨xs, i, j, k, ef2.hh a _ (fun e => hne e.symm) e, ⟨?_, r.ne, r.i0, r.jb⟩⟩
  exact ef2.sqL r.sq (hap _ _ r.sq)
end
end LT
/-! # Tk7 -/
namespace LT
open PySem PySem.Spec PyProof.Rows L2 Tm
section
variable {X : Cx} {elt tg iter : Expr} {ifs : List Expr} {scope : Scope} {own : List (Str × Nat)} {pos pos2 : Pos}
theorem ps_setLcF {vs : List Nat} {i : Nat} {y : Str} {py : Pos} {fi : FL} {t : TG} {bd : D → Rho → Option Rho} {ft : FB} {fe : FE} {is : List Nat} (hc : X.calm = true) (hN : X.N.Nodup)
    (tgf : TgF X.K t bd is) (hv : ∀ j ∈ is, j ∈ vs) (hy : X.N[i]? = some y) (hyl : X.env.scope.names.lookup y = some .local) (hsw : swapsWith (.ListComp elt [⟨tg, iter, ifs, 0⟩] scope pos2) (some (.Name y py)) pos.line X.env = pure true) (hi : PFI X tg iter fi) (ok : BlkOk X.N X.env.scope scope own)
    (hg : ∀ (s : Shared) (H : Hp) (C : Addr) (cl : List (Str × Addr)) (fp : List Addr), PG (X.blk s H scope (compEnvC scope cl C X.env) fp) tg t)
    (ht : ∀ (s : Shared) (H : Hp) (C : Addr) (cl : List (Str × Addr)) (fp : List Addr), PTs (X.blk s H scope (compEnvC scope cl C X.env) fp) ifs (tFB X.K ft))
    (he : ∀ (s : Shared) (H : Hp) (C : Addr) (cl : List (Str × Addr)) (fp : List Addr), PF (X.blk s H scope (compEnvC scope cl C X.env) fp) elt fe) (hs : ∀ x, foldedSetIterable iter X.env x = pure x := by intro _; rfl) (hvs : own.map (·.2) = vs := by rfl) :
    PS X (.Assign [.Name y py] (.ListComp elt [⟨tg, iter, ifs, 0⟩] scope pos2) pos) (tAsg (tF X.K (cLc fi bd ft fe vs)) (gName i)) := by
  subst hvs
  exact ps_weak (ps_setLc hc hN hy hyl hsw hi ok hg ht he hs) fun Dn σ H w => lc_of (Q := fun x H1 => gName i x σ H1 Dn.nx) tgf hv w
end
theorem gone_moves {s : St} {l : Lb} (hl : l ≠ .off) : ∀ u ∈ moves s l, u.gone = s.gone := by
  intro u hu
  unfold moves at hu
  split at hu
  · cases hu
  · split at hu
    · split at hu
      · cases hu
      · rw [List.mem_singleton.mp hu]
    · rw [List.mem_singleton.mp hu]
    · exact absurd rfl hl
    · obtain ⟨v, _, rfl⟩ := List.mem_map.mp hu
      rfl
theorem Reach.okg {p : Tm} {row : List Lb} {s : St} (h : Reach p row s) (hp : okP p = true) : okT s.t = true ∧ s.gone = 0 := by
  induction h with
  | start => exact ⟨ok_begun p hp, rfl⟩
  | @step row s s' l _ _ hne hm ih => exact ⟨moves_ok s l ih.1 s' hm, (gone_moves hne s' hm).trans ih.2⟩
theorem Reach.ok {p : Tm} {z : Nat} {row : List Lb} {s : St} (h : Reach p row s) (hz : sz p ≤ z) (hd : dp p ≤ 7) (hp : InB p) : StOk z s := by
  induction h with
  | start => exact start_ok hz hd
  | @step row s s' l hr hl hne hm ih =>
    exact ih.moves ((Reach.step hr hl hne hm).vl hp l (List.mem_append_right _ (List.mem_singleton.mpr rfl))) s' hm
def isBusy : Lb → Bool
  | .say _ => true
  | .take _ => true
  | _ => false
theorem neH_str (x : D) (y : Str) : neH x (.str y) = some (!PyData.eqv x (.str y)) := neH_r (by simp)
theorem offF {ρ : Rho} {l : Lb} (h : cV 8 ρ = some (encL l)) : cmpB neH (bin2 atH (cV 8) (cK (.int 0))) (cK (.str "off")) ρ = some (decide (l ≠ .off)) := by
  simp only [ev_cmpB, ev_bin2, h, ev_K, Option.bind_some]
  cases l <;> simp only [encL] <;> simp [neH_str]
theorem busyF {ρ : Rho} {l : Lb} (h : cV 8 ρ = some (encL l)) : cmpB inH (bin2 atH (cV 8) (cK (.int 0))) (cLst (cCons (cK (.str "say")) (cCons (cK (.str "take")) cNil))) ρ = some (isBusy l) := by
  simp only [ev_cmpB, ev_bin2, h, ev_K, Option.bind_some, ev_Lst, ev_Cons, ev_Nil]
  rw [chk_ok (by simp)]
  cases l <;> simp only [encL, isBusy] <;> simp
/-- a row that the plan lets be drawn -/
def spDrawn (K : KF) (sc : Addr) : Sp := fun vs H Q _ => ∃ (a : Addr) (v : V) (G : Hp) (p : Tm), vs = [.ref a, v, .int 10, .bl false] ∧ Rw K sc H a ∧ G a = none ∧ Same G H ∧ Rp K G v (enc p) ∧ sz p ≤ 30 ∧ dp p ≤ 7 ∧ vP 8 p = true ∧ InB p ∧
  ∀ (row : List Lb) (s : St) (v' : V) (G' H' : Hp), Reach p row s → row.length ≤ 10 → Ef (· = a) G H G' H' → Rw K sc H' a → Rp K G' v' (.tuple [encRow row, encSt s]) → Q v' H'
abbrev N_Ldrawn : List Str := ["_law_row", "_law_plan_here", "_law_most", "_law_offs", "_law_here", "_law_line", "_law_turn", "_law_some", "_law_label", "_law_busy"]
theorem sc_Ldrawn : FnScope N_Ldrawn ["_law_row", "_law_plan_here", "_law_most", "_law_offs"] (defScope sLdrawn) := ⟨rfl, rfl, rfl, by decide +kernel, rfl, by decide +kernel, by decide +kernel⟩
section
variable {P : Program} {w : World} {K : KF} {sc : Addr} {mg : Str → Option Value} {base : Heap} {f : Addr} {fd : FuncData} {n : Nat}
theorem fok_drawn (T : Txt K mg) (Ct : FokS P w K mg base n "_law_taken" ["_law_row", "_law_many"] (spTaken K sc)) (Ck : FokS P w K mg base n "_law_pick" ["_law_row", "_law_kinds"] (spPick K sc))
    (Cb : FokP P w K mg base n "_law_begin" ["_law_plan_here"] (den LV .fLbegin)) (Cl : FokP P w K mg base n "_law_labels" ["_law_here", "_law_coming"] (den LV .fLlabels)) (Cn : FokP P w K mg base n "_law_next" ["_law_here", "_law_label"] (den LV .fLnext))
    (F : FnP K "_law_drawn" sLdrawn f fd) (hm : mg "_law_drawn" = some (.ref f)) : FokS P w K mg base (n + 1) "_law_drawn" ["_law_row", "_law_plan_here", "_law_most", "_law_offs"] (spDrawn K sc) := by
  refine ⟨f, fd, F.ok sc_Ldrawn (fun vs H Q E h => ?_) (fun cdv A outer s H vs Q E hr h => ?_), hm, F.kp, F.bindsN fun _ _ _ _ _ _ us hl => match us, hl with | [_, _, _, _], _ => rfl⟩
  · obtain ⟨a, v, G, p, rfl, _⟩ := h
    rfl
  have nd := sc_Ldrawn.nd
  have S := sc_Ldrawn
  have hu := hr.units
  have hu5 := room65 hr
  obtain ⟨f1, fd1, t1, t2, t3, t4⟩ := Ct
  obtain ⟨f2, fd2, k1, k2, k3, k4⟩ := Ck
  refine ⟨_, PSs.nox (pss_cons (ps_par (i := 4) (j := 5) (by rfl) nd rfl rfl (by decide) (by rfl) (by rfl) (pa_cons (pf_tup (pl_cons (pf_call Cb hr (by rfl) (pl_cons (pf_var (pv 1)) pl_nil)) (pl_cons (pf_tup pl_nil) (pl_cons pf_int pl_nil)))) (pa_cons (pf_tup pl_nil) pa_nil)) (by rfl))
    (pss_cons (ps_for PassesOwn.never rfl (pi_range1 (by rfl) T.z_range (pa_cons (pe_call t1 hr rfl t2 t3 t4 .nil pass0 (pa_cons (pv 0) (pa_cons (pe_op op_add (pv 2) pe_int) pa_nil))) pa_nil)) (pg_name (i := 6) nd rfl (Or.inl rfl))
      (pss_cons (ps_setLcF (vs := [8]) (i := 7) (by rfl) S.nd (tg_name 8) (by decide) (by rfl) (by rfl) (sw_true (by rfl) (by rfl) (by rfl) (by decide +kernel)) (pfi_list (pf_call Cl hr (by rfl) (pl_cons (pf_var (pv 4)) (pl_cons (pf_lst (pl_cons pf_int (pl_cons pf_int pl_nil))) pl_nil)))) (blkOk_by (own := [("_law_label", 8)]) (N := N_Ldrawn) (sc := defScope sLdrawn) (by decide +kernel)) (fun _ _ _ _ _ => (pg_name (i := 8) S.nd (by rfl) (by first | exact Or.inl rfl | exact Or.inr rfl)))
          (fun _ _ _ _ _ => (pts_one (pb_w (pwb_or (pb_val (pf_var (pv 3))) (pwb_or1 (pb_cmp (opD_ne hu) (pf_ix (pf_var (pv 8)) pf_int) pf_str (nomark _))))))) (fun _ _ _ _ _ => (pf_var (pv 8))))
      (pss_cons (ps_setLcF (vs := [8]) (i := 9) (by rfl) S.nd (tg_name 8) (by decide) (by rfl) (by rfl) (sw_true (by rfl) (by rfl) (by rfl) (by decide +kernel)) (pfi_list (pf_var (pv 7))) (blkOk_by (own := [("_law_label", 8)]) (N := N_Ldrawn) (sc := defScope sLdrawn) (by decide +kernel)) (fun _ _ _ _ _ => (pg_name (i := 8) S.nd (by rfl) (by first | exact Or.inl rfl | exact Or.inr rfl)))
          (fun _ _ _ _ _ => (pts_one (pb_cmp (opD_in hu5) (pf_ix (pf_var (pv 8)) pf_int) (pf_lst (pl_cons pf_str (pl_cons pf_str pl_nil))) (by rfl)))) (fun _ _ _ _ _ => (pf_var (pv 8))))
      (pss_one (ps_if (pb_cmp (opD_ne hu) (pf_var (pv 7)) (pf_lst pl_nil) (nomark _))
        (pss_cons (ps_set (i := 8) nd rfl (Or.inl rfl) (pe_call k1 hr rfl k2 k3 k4 .nil pass0 (pa_cons (pv 0) (pa_cons (pe_ifExp (PW.pt (pw_and (pb_cmp (opD_ne hu) (pf_var (pv 9)) (pf_lst pl_nil) (nomark _)) (pw_and1 (pt_cmpR op_gt (pe_call t1 hr rfl t2 t3 t4 .nil pass0 (pa_cons (pv 0) (pa_cons pe_int pa_nil))) pe_int (nomark _))))) (pv 9) (pv 7)) pa_nil))))
        (pss_one (ps_par (i := 5) (j := 4) (by rfl) nd rfl rfl (by decide) (by rfl) (by rfl) (pa_cons (pf_bin opD_add (pf_var (pv 5)) (pf_tup (pl_cons (pf_var (pv 8)) pl_nil))) (pa_cons (pe_call k1 hr rfl k2 k3 k4 .nil pass0 (pa_cons (pv 0) (pa_cons (pf_call Cn hr (by rfl) (pl_cons (pf_var (pv 4)) (pl_cons (pf_var (pv 8)) pl_nil))) pa_nil))) pa_nil)) (by rfl)))) pss_nil)))))
    (pss_one (ps_ret (pf_tup (pl_cons (pf_var (pv 5)) (pl_cons (pf_var (pv 4)) pl_nil))))))), ?_⟩
  obtain ⟨a, v, G, p, rfl, hw, ga, sg, rp, hsz, hdp, hvp, hib, hQ⟩ := h
  have evb : ∀ {G H : Hp} {v v4 v5 : V} {x6 x7 x8 x9 : Option V} {d4 d5 : D}, Rp K G v (enc p) → Rp K G v4 d4 → Rp K G v5 d5 → EnvR K G H [some (.ref a), some v, some (.int 10), some (.bl false), some v4, some v5, x6, x7, x8, x9] [.no, .im (enc p), .no, .im (.bool false), .im d4, .im d5, .no, .no, .no, .no] := fun r1 r4 r5 =>
    ((((EnvR.base (n := 10) rfl).add (i := 1) rfl r1).add (i := 3) rfl (.bl false)).add (i := 4) rfl r4).add (i := 5) rfl r5
  have ev0 : EnvR K G H (L2.start N_Ldrawn [.ref a, v, .int 10, .bl false]) [.no, .im (enc p), .no, .im (.bool false), .no, .no, .no, .no, .no, .no] := ((EnvR.base (n := 10) rfl).add (i := 1) rfl rp).add (i := 3) rfl (.bl false)
  have hb := (sp_den LV).Lbegin p (vP_okP 8 p hvp) (by show 4 * sz p + 1 ≤ 150; omega) (by omega)
  refine ⟨_, G, .tuple [enc (begun p), .tuple [], .int 0], sg, ev0, by simp [hb, chk_ok], fun v1 G1 H1 x1 r1 => ⟨_, G1, .tuple [], x1.gh, ev0.ext x1, by simp [chk_ok], fun v2 G2 H2 x2 r2 => ⟨v1, v2, rfl, ?_⟩⟩⟩
  have ef2 : Ef (· = a) G H G2 H2 := (Ef.of x1).trans (Ef.of x2)
  have hw2 : Rw K sc H2 a := (hw.ext x1.hh).ext x2.hh
  have keepA : ∀ {G1 H1 : Hp}, Ef (· = a) G H G1 H1 → G1 a = none := fun x => x.keep ga hw.some
  refine ⟨.ref a, rfl, .int 10, rfl, _, _, rfl, rfl, a, 11, rfl, hw2, by decide, by decide, fun r o h0 h1 hw3 => ⟨_, rfl, by omega, by omega, ?_⟩⟩
  have ef3 := ef2.trans (Ef.up (M := (· = a)) ef2.gh (keepA ef2) rfl o)
  refine for_range (lo := 0) (n := r.toNat) (fun i σ H' => ∃ (G' : Hp) (v4 v5 : V) (x6 x7 x8 x9 : Option V) (row : List Lb) (s : St), σ = [some (.ref a), some v, some (.int 10), some (.bl false), some v4, some v5, x6, x7, x8, x9] ∧ Reach p row s ∧ row.length ≤ i ∧ Ef (· = a) G H G' H' ∧ Rw K sc H' a ∧ Rp K G' v4 (encSt s) ∧ Rp K G' v5 (encRow row)) ?_ ?_ ?_
  · exact ⟨G2, v1, v2, none, none, none, none, [], _, rfl, .start, Nat.le_refl _, ef3, hw3, r1.same x2.gg, r2⟩
  · rintro i σ H' hi ⟨G', v4, v5, x6, x7, x8, x9, row, s, rfl, re, hl, ef, hw', r4, r5⟩
    have sok := re.ok hsz hdp hib
    have hog := re.okg (vP_okP 8 p hvp)
    have h4 : 4 * sz s.t + 3 ≤ 150 := by have := sok.sz; omega
    obtain ⟨L, hL, hLn, hLm⟩ := (sp_den LV).Llabels s [0, 1] hog.1 (by rw [hog.2]; omega) h4 (by have := sok.sz; omega) (by decide)
    refine ⟨_, G', .list ((L.filter fun l => decide (l ≠ .off)).map encL), ef.gh, evb (rp.same ef.gg) r4 r5, ?_, fun v7 G7 H7 x7' r7 => ?_⟩
    · have hL' : den LV .fLlabels [encSt s, .list [.int 0, .int 1]] = some (.list (L.map encL)) := hL
      refine Option.bind_eq_some_iff.mpr ⟨L.map encL, by simp [hL', chk_ok], ?_⟩
      rw [lc_fmap (f := encL) (p := fun l => decide (l ≠ .off)) fun l _ => ⟨_, rfl, ?_, ?_⟩]
      · rfl
      · exact Option.bind_eq_some_iff.mpr ⟨false, rfl, offF rfl⟩
      · rfl
    have ef7 := ef.trans (Ef.of x7')
    have hw7 := hw'.ext x7'.hh
    have ev7 : EnvR K G7 H7 [some (.ref a), some v, some (.int 10), some (.bl false), some v4, some v5, some (.int (0 + (i : Int))), some v7, x8, x9] [.no, .im (enc p), .no, .im (.bool false), .im (encSt s), .im (encRow row), .no, .im (.list ((L.filter fun l => decide (l ≠ .off)).map encL)), .no, .no] := (evb (rp.same ef7.gg) (r4.same x7'.gg) (r5.same x7'.gg)).add (i := 7) rfl r7
    refine ⟨_, G7, .list (((L.filter fun l => decide (l ≠ .off)).filter isBusy).map encL), ef7.gh, ev7, ?_, fun v9 G9 H9 x9' r9 => ?_⟩
    · refine Option.bind_eq_some_iff.mpr ⟨_, rfl, ?_⟩
      rw [lc_fmap (f := encL) (p := isBusy) fun l _ => ⟨_, rfl, ?_, ?_⟩]
      · rfl
      · exact busyF rfl
      · rfl
    have ef9 := ef7.trans (Ef.of x9')
    have hw9 := hw7.ext x9'.hh
    have ev9 := (ev7.ext x9').set r9 9
    generalize hS : (L.filter fun l => decide (l ≠ .off)) = S7 at *
    have hS7 : ∀ l ∈ S7, l ∈ LT.labels s [0, 1] ∧ l ≠ .off := fun l hl => by
      rw [← hS] at hl
      obtain ⟨a1, a2⟩ := List.mem_filter.mp hl
      exact ⟨(hLm l).mp a1, by simpa using a2⟩
    refine ⟨_, G9, !S7.isEmpty, ef9.gh, ev9, ?_, fun G10 H10 x10 => ?_⟩
    · cases S7 <;> simp [chk_ok]
    have hlenL : L.length ≤ 1000 := by
      have h1 := nodup_len hLn fun x hx => (hLm x).mp hx
      have h2 := (steps_len s.came).1 s.t
      have h3 : (LT.labels s [0, 1]).length ≤ 4 + (steps s.came s.t).length := by
        unfold LT.labels
        split
        · simp
        · have := List.length_filter_le (fun e => decide (e ∉ s.came)) [0, 1]
          simp only [List.length_append, List.length_map, List.length_cons, List.length_nil] at this ⊢
          split <;> simp only [List.length_cons, List.length_nil] <;> omega
      have := sok.sz
      omega
    have hlen7 : S7.length ≤ 1000 := by
      rw [← hS]
      exact Nat.le_trans (List.length_filter_le _ _) hlenL
    cases hemp : S7.isEmpty with
    | true => exact iteF ⟨G10, v4, v5, _, _, _, _, row, s, rfl, re, by omega, ef9.trans (Ef.of x10), hw9.ext x10.hh, ((r4.same x7'.gg).same x9'.gg).same x10.gg, ((r5.same x7'.gg).same x9'.gg).same x10.gg⟩
    | false =>
      have ef10 := ef9.trans (Ef.of x10)
      have hw10 := hw9.ext x10.hh
      have ev10 := ev9.ext x10
      have r4a := ((r4.same x7'.gg).same x9'.gg).same x10.gg
      have r5a := ((r5.same x7'.gg).same x9'.gg).same x10.gg
      have r7a := (r7.same x9'.gg).same x10.gg
      have r9a := r9.same x10.gg
      have key : ∀ Qk : VK, (∀ (G12 H12 : Hp) (u : V) (S' : List Lb), Ef (· = a) G10 H10 G12 H12 → Rw K sc H12 a → Rp K G12 u (.list (S'.map encL)) → S' ≠ [] → S'.length ≤ 1000 → (∀ l ∈ S', l ∈ S7) → Qk u H12) →
          tIf (tAnd (tFB K (cmpB neH (cV 9) (cLst cNil))) (tTest (tOp (rI0 fun i j => V.bl (decide (j < i))) (tCall (spTaken K sc) [] E0 (tCons (tVar 0) (tCons (tC (.int 3)) tNil))) (tC (.int 0))))) (tVar 9) (tVar 7)
            [some (.ref a), some v, some (.int 10), some (.bl false), some v4, some v5, some (.int (0 + (i : Int))), some v7, x8, some v9] H10 Qk := by
        intro Qk q
        have g10 : G10 a = none := keepA ef10
        have lo : ∀ {G12 H12 : Hp}, Ef (· = a) G10 H10 G12 H12 → Rw K sc H12 a → Qk v7 H12 := fun e12 w12 => q _ _ v7 S7 e12 w12 (r7a.same e12.gg) (fun z => by rw [z] at hemp; cases hemp) hlen7 fun _ h => h
        refine ⟨_, G10, !(S7.filter isBusy).isEmpty, ef10.gh, ev10, ?_, fun G11 H11 x11 => ?_⟩
        · cases S7.filter isBusy <;> simp [chk_ok]
        have e11 : Ef (· = a) G10 H10 G11 H11 := Ef.of x11
        have w11 := hw10.ext x11.hh
        cases hb2 : (S7.filter isBusy).isEmpty with
        | true => exact iteF (iteF ⟨v7, rfl, lo e11 w11⟩)
        | false =>
          refine iteT ⟨.ref a, rfl, a, 3, rfl, w11, by decide, by decide, fun r3 o3 _ _ w12 => ⟨_, _, rfl, rfl, _, rfl, ?_⟩⟩
          have e12 := e11.trans (Ef.up (M := (· = a)) e11.gh (e11.keep g10 hw10.some) rfl o3)
          cases decide ((0 : Int) < r3) with
          | false => exact iteF ⟨v7, rfl, lo e12 w12⟩
          | true => exact iteT ⟨v9, rfl, q _ _ v9 (S7.filter isBusy) e12 w12 (r9a.same e12.gg) (fun z => by rw [z] at hb2; cases hb2) (Nat.le_trans (List.length_filter_le _ _) hlen7) fun l h => (List.mem_filter.mp h).1⟩
      refine iteT ⟨.ref a, rfl, key _ fun G12 H12 u S' e12 w12 ru hne hl' hsub => ?_⟩
      have ef12 := ef10.trans e12
      refine ⟨a, u, G12, S'.map encL, rfl, w12, keepA ef12, ef12.gh, ru, by simpa using hne, by rw [List.length_map]; omega, fun d v8 o2 hd r8 hw13 => ?_⟩
      obtain ⟨l, hlS, rfl⟩ := List.mem_map.mp hd
      obtain ⟨hll, hlo⟩ := hS7 l (hsub l hlS)
      have ef13 := ef12.trans (Ef.up (M := (· = a)) ef12.gh (keepA ef12) rfl o2)
      have ev13 : EnvR K G12 (upd H12 a o2) [some (.ref a), some v, some (.int 10), some (.bl false), some v4, some v5, some (.int (0 + (i : Int))), some v7, some v8, some v9] [.no, .im (enc p), .no, .im (.bool false), .im (encSt s), .im (encRow row), .no, .no, .im (encL l), .no] :=
        (evb (x6 := some (.int (0 + (i : Int)))) (x7 := some v7) (x8 := x8) (x9 := some v9) (rp.same ef12.gg) (r4a.same e12.gg) (r5a.same e12.gg)).set r8 8
      obtain ⟨M, hM, hMl, hMm⟩ := (sp_den LV).Lnext s l hog.1 (by rw [hog.2]; omega) h4 (by have := sok.sz; omega) sok.dp (by have := sok.cm; omega)
      have hMne : M ≠ [] := fun z => by
        obtain ⟨y, ys, e⟩ := List.exists_cons_of_ne_nil (labels_move hll)
        have := (hMm y).mpr (by rw [e]; exact List.mem_cons_self)
        rw [z] at this
        cases this
      refine ⟨_, G12, .tuple (row.map encL ++ [encL l]), ef13.gh, ev13, ?_, fun v5' G14 H14 x14 r14 => ⟨.ref a, rfl, _, G14, .list (M.map encSt), x14.gh, ev13.ext x14, by simp [hM], fun vm G15 H15 x15 r15 => ?_⟩⟩
      · simp only [ev_bin2, ev_V, List.getElem?_cons_succ, List.getElem?_cons_zero, Option.bind_some, ev_Tup, ev_Cons, ev_Nil, encRow]
        rw [chk_ok (by simp)]
        simp only [Option.map_some, Option.bind_some, ev_addt]
        rw [chk_ok (by simp; omega)]
        rfl
      have ef15 := (ef13.trans (Ef.of x14)).trans (Ef.of x15)
      refine ⟨a, vm, G15, M.map encSt, rfl, (hw13.ext x14.hh).ext x15.hh, keepA ef15, x15.gh, r15, by simpa using hMne, by rw [List.length_map]; omega, fun d4 v4' o4 hd4 r4' hw16 => ⟨v5', v4', rfl, ?_⟩⟩
      obtain ⟨s', hs', rfl⟩ := List.mem_map.mp hd4
      refine ⟨G15, v4', v5', _, _, _, _, row ++ [l], s', rfl, .step re hll hlo ((hMm s').mp hs'), by simp; omega, ef15.trans (Ef.up (M := (· = a)) ef15.gh (keepA ef15) rfl o4), hw16, r4', ?_⟩
      rw [encRow, List.map_append]
      exact r14.same x15.gg
  · rintro σ H' ⟨G', v4, v5, x6, x7, x8, x9, row, s, rfl, re, hl, ef, hw', r4, r5⟩
    refine ⟨_, G', .tuple [encRow row, encSt s], ef.gh, evb (rp.same ef.gg) r4 r5, by simp [chk_ok], fun v6 G6 H6 x6 r6 => ?_⟩
    exact hQ row s v6 G6 H6 re (by omega) (ef.trans (Ef.of x6)) (hw'.ext x6.hh) r6
end
end LT
/-! # Di1 -/
namespace LT
open PySem PySem.Spec PyProof.Rows L2 Tm
/-! ## dicts keyed by nested tuples -/
abbrev EN := NestedKey × Addr × V
abbrev PN : List EN → List (NestedKey × Addr × Value) → Prop := Paired fun p q => p.1 = q.1 ∧ p.2.1 = q.2.1 ∧ RelV p.2.2 q.2.2
/-- the dict at a: its keys, where they stand, its values -/
def dN (P : Program) (w : World) (a : Addr) (xs : List EN) : HO := .ext fun h => xs.length ≤ sizeLine ∧ (a == sysModules) = false ∧ ∃ ys, PN xs ys ∧
  ∃ (o : Obj) (es : Array DictEntry) (ep : Nat), h.get? a = some o ∧ o.ExactDict ∧ o.data = .dict es ep ∧ es.toList = ys.map (entryOfKey (nestedKind P w)) ∧ (ys.map (·.1)).Nodup
theorem dN_ok {P : Program} {w : World} {H : Hp} {h : Heap} {a : Addr} {xs : List EN} {ys : List (NestedKey × Addr × Value)} {o : Obj} {es : Array DictEntry} {ep : Nat} (z : xs.length ≤ sizeLine) (ha : (a == sysModules) = false) (pn : PN xs ys)
    (ho : h.get? a = some o) (hx : o.ExactDict) (hd : o.data = .dict es ep) (he : es.toList = ys.map (entryOfKey (nestedKind P w))) (hn : (ys.map (·.1)).Nodup) : ObjOk P w H h a (dN P w a xs) :=
  ⟨⟨z, ha, ys, pn, o, es, ep, ho, hx, hd, he, hn⟩, ⟨o, ho⟩, fun _ _ ⟨z, ha, ys, pn, o, es, ep, ho, r⟩ k => ⟨z, ha, ys, pn, o, es, ep, k o ho, r⟩⟩
/-- the keys stand -/
def KAll (K : KF) (H : Hp) (xs : List EN) : Prop := ∀ x ∈ xs, ∃ d, Rp K H (.ref x.2.1) d ∧ kD d = some x.1 ∧ x.1.depth ≤ 8
theorem KAll.same {K : KF} {H H' : Hp} {xs : List EN} (h : KAll K H xs) (s : Same H H') : KAll K H' xs := fun x hx => by
  obtain ⟨d, a, b⟩ := h x hx
  exact ⟨d, a.same s, b⟩
def putE (k : NestedKey) (v : V) (x : EN) : EN := if x.1 = k then (x.1, x.2.1, v) else x
def putN (xs : List EN) (k : NestedKey) (b : Addr) (v : V) : List EN := if (xs.any fun x => decide (x.1 = k)) = true then xs.map (putE k v) else xs ++ [(k, b, v)]
def atN (xs : List EN) (k : NestedKey) : Option V := (xs.find? fun x => decide (x.1 = k)).map (·.2.2)
theorem PN.val {xs : List EN} {ys : List (NestedKey × Addr × Value)} (r : PN xs ys) (k : NestedKey) : RelO (atN xs k) ((atKey ys k).map (·.2)) := by
  induction r with
  | nil => exact True.intro
  | @cons p q ps qs h t ih =>
    by_cases e : p.1 = k
    · have e' : q.1 = k := h.1.symm.trans e
      rw [show atKey (q :: qs) k = some q.2 by simp [atKey, List.find?_cons, e'], show atN (p :: ps) k = some p.2.2 by simp [atN, List.find?_cons, e]]
      exact h.2.2
    · have e' : ¬ q.1 = k := fun z => e (h.1.trans z)
      rw [show atKey (q :: qs) k = atKey qs k by simp [atKey, List.find?_cons, e'], show atN (p :: ps) k = atN ps k by simp [atN, List.find?_cons, e]]
      exact ih
theorem PN.put {xs : List EN} {ys : List (NestedKey × Addr × Value)} (r : PN xs ys) (k : NestedKey) (b : Addr) {v : V} {u : Value} (ru : RelV v u) : PN (putN xs k b v) (storedH ys k b u) := by
  have e : (xs.any fun x => decide (x.1 = k)) = (atKey ys k).isSome := by
    induction r with
    | nil => rfl
    | @cons p q ps qs h t ih =>
      by_cases e : p.1 = k
      · have e' : q.1 = k := h.1.symm.trans e
        simp [atKey, e, e']
      · have e' : ¬ q.1 = k := fun z => e (h.1.trans z)
        rw [show atKey (q :: qs) k = atKey qs k by simp [atKey, List.find?_cons, e'], ← ih]
        simp [e]
  have m : PN (xs.map (putE k v)) (ys.map (putAt k u)) := by
    clear e
    induction r with
    | nil => exact .nil
    | @cons p q ps qs h t ih =>
      refine .cons ?_ ih
      obtain ⟨h1, h2, h3⟩ := h
      unfold putAt putE
      by_cases e : p.1 = k
      · rw [if_pos e, if_pos (h1.symm.trans e)]; exact ⟨h1, h2, ru⟩
      · rw [if_neg e, if_neg (fun z => e (h1.trans z))]; exact ⟨h1, h2, h3⟩
  unfold putN storedH
  rw [e]
  by_cases q : (atKey ys k).isSome = true
  · rw [if_pos q, if_pos q]; exact m
  · rw [if_neg q, if_neg q]; exact Paired.snoc r ⟨rfl, rfl, ru⟩
theorem putN_len (xs : List EN) (k : NestedKey) (b : Addr) (v : V) : (putN xs k b v).length ≤ xs.length + 1 := by
  unfold putN
  split <;> simp
section
variable {X : Cx} {pins : List (Addr × Obj)} {σ : L2.St} {H : Hp} {s : Shared} {a b : Addr} {A : Around} {E : Value → Shared → Prop}
theorem key_is (I : Inv X pins σ H s) {d : D} {k : NestedKey} (r : Rp X.K H (.ref b) d) (hk : kD d = some k) (h8 : k.depth ≤ 8) : (nestedKind X.prog X.w).is s.heap k b :=
  ⟨(r.key I hk rfl).ns, h8⟩
theorem dN_of (I : Inv X pins σ H s) {xs : List EN} (e : H a = some (dN X.prog X.w a xs)) (ka : KAll X.K H xs) : xs.length ≤ sizeLine ∧ (a == sysModules) = false ∧ ∃ ys, PN xs ys ∧ s.heap.DictOfH (nestedKind X.prog X.w) a ys := by
  obtain ⟨⟨z, ha, ys, pn, o, es, ep, ho, hx, hd, he, hn⟩, hrest⟩ := I.hok a _ e
  refine ⟨z, ha, ys, pn, o, es, ep, ho, hx, hd, he, ?_, hn⟩
  clear he hn e z hrest
  induction pn with
  | nil => intro x hx; cases hx
  | @cons p q ps qs h t ih =>
    intro x hx
    rcases List.mem_cons.mp hx with e | hx
    · subst e
      obtain ⟨d, r, kd, k8⟩ := ka p List.mem_cons_self
      rw [← h.1, ← h.2.1]
      exact key_is I r kd k8
    · exact ih (fun y hy => ka y (List.mem_cons_of_mem _ hy)) x hx
/-- d[k] = v -/
theorem dN_set {xs : List EN} {d : D} {k : NestedKey} {v : V} {u : Value} {Q : Unit → Shared → Prop} (hu : (nestedKind X.prog X.w).room A.in1) (I : Inv X pins σ H s) (e : H a = some (dN X.prog X.w a xs)) (ka : KAll X.K H xs) (hl : xs.length < sizeLine)
    (r : Rp X.K H (.ref b) d) (hk : kD d = some k) (h8 : k.depth ≤ 8) (ru : RelV v u) (h : ∀ s', Inv X pins σ (upd H a (dN X.prog X.w a (putN xs k b v))) s' → Q () s') :
    wpAny (model X.prog X.w) A (setItem (.ref a) (.ref b) u) Q E s := by
  obtain ⟨z, ha, ys, pn, dd⟩ := dN_of I e ka
  refine wpAny_setItem_heap (hsz := by rw [← Paired.length pn]; exact z) hu (key_is I r hk h8) dd fun h' dd' hs => h _ ?_
  obtain ⟨q, es, ep, hq, h2, h3, h4, _, h5⟩ := dd'
  exact d_write I (by rw [e]; exact True.intro) hs ⟨q, hq⟩ (dN_ok (by have := putN_len xs k b v; omega) ha (pn.put k b ru) hq h2 h3 h4 h5)
/-- d[k] -/
theorem dN_get {xs : List EN} {d : D} {k : NestedKey} {v : V} {Q : Value → Shared → Prop} (hu : (nestedKind X.prog X.w).room A.in1) (I : Inv X pins σ H s) (e : H a = some (dN X.prog X.w a xs)) (ka : KAll X.K H xs)
    (r : Rp X.K H (.ref b) d) (hk : kD d = some k) (h8 : k.depth ≤ 8) (hv : atN xs k = some v) (h : ∀ u s', Inv X pins σ H s' → RelV v u → Q u s') :
    wpAny (model X.prog X.w) A (getItem (.ref a) (.ref b)) Q E s := by
  obtain ⟨z, ha, ys, pn, dd⟩ := dN_of I e ka
  obtain ⟨u, hw, ru⟩ := RelO.some_of (v := v) (o := (atKey ys k).map (·.2)) (by rw [← hv]; exact pn.val k)
  obtain ⟨p, hp, hp2⟩ := Option.map_eq_some_iff.mp hw
  refine wpAny_getItem_heap hu (key_is I r hk h8) dd hp ?_
  rw [hp2]
  exact h u _ (I.tok _) ru
end
end LT
/-! # Di2 -/
namespace LT
open PySem PySem.Spec PyProof.Rows L2 Tm
theorem PN.refs {xs : List EN} {ys : List (NestedKey × Addr × Value)} (r : PN xs ys) : ys.map (fun x => Value.ref x.2.1) = (xs.map fun z => z.2.1).map Value.ref := by
  induction r with
  | nil => rfl
  | @cons p q ps qs h t ih =>
    simp only [List.map_cons]
    rw [h.2.1, ih]
section
variable {X : Cx} {pos : Pos}
/-- {} , keyed by nested tuples -/
def tNewN (X : Cx) : TE := fun _ H Q => ∀ p, H p = none → Q (.ref p) (upd H p (dN X.prog X.w p []))
theorem pe_newN : PE X (.Dict [] [] pos) (tNewN X) := ⟨fun pins s σ H Q I h =>
  wpAny_Dict_empty ⟨.ref s.heap.objs.size, _, I.laid (a := s.heap.objs.size) (o := dN X.prog X.w s.heap.objs.size []) (t' := s.toks) (fun _ _ q => Heap.get?_push_of_some _ q) (Nat.le_refl _)
    (dN_ok (Nat.zero_le _) (beq_eq_false_iff_ne.mpr (Ne.symm (Nat.ne_of_lt I.big))) .nil (Heap.get?_push_size _ rfl) ⟨rfl, rfl, rfl⟩ rfl rfl List.nodup_nil), rfl, h _ (I.hok.fresh (Nat.le_refl _))⟩⟩
/-- list(d): the keys in order -/
theorem call_listN (hc : X.calm = true) : CallR X (.type "list") (fun xs H Q => ∃ a zs, xs = [V.ref a] ∧ H a = some (dN X.prog X.w a zs) ∧ ∀ p, H p = none → Q (.ref p) (upd H p (.lst (zs.map fun z => V.ref z.2.1)))) := by
  intro pins s σ H xs us Q I r h
  obtain ⟨d, zs, rfl, hd, q⟩ := h
  obtain ⟨u, rfl, rx⟩ := r.one
  cases rx
  obtain ⟨⟨z, hs, ks, pr, o, es, ep, ho, hx, hdt, he, hn⟩, _⟩ := I.hok d _ hd
  have l1 : es.size = ks.length := size_of_entries he
  have l2 : zs.length = ks.length := Paired.length pr
  refine PySem.W.kdl_call (kdl_raw hs hx hdt) (I.ok.hd hc) ho (by omega) fun h' tk acc' c' kp e it => ?_
  have ek : ks.map (fun x => Value.ref x.2.1) = (zs.map fun z => z.2.1).map Value.ref := pr.refs
  have ea : acc'.toList = (zs.map fun z => z.2.1).map Value.ref := by
    rw [← ek]
    refine List.ext_getElem? fun j => ?_
    by_cases hj : j < ks.length
    · have hj2 : j < acc'.toList.length := by rw [Array.length_toList, it.1]; omega
      obtain ⟨en, hen, hv⟩ := it.2 j acc'.toList[j] (by rw [← Array.getElem?_toList]; exact List.getElem?_eq_getElem hj2)
      have qe := entry_at he j
      rw [hen, List.getElem?_eq_getElem hj] at qe
      rw [List.getElem?_eq_getElem hj2, hv, List.getElem?_map, List.getElem?_eq_getElem hj, Option.some.inj qe]
      rfl
    · rw [List.getElem?_eq_none (by rw [Array.length_toList, it.1]; omega), List.getElem?_eq_none (by rw [List.length_map]; omega)]
  have rv : Vals (zs.map fun z => V.ref z.2.1) acc'.toList := by
    rw [ea]
    have := vals_refs (zs.map fun z => z.2.1)
    rwa [List.map_map] at this
  refine ⟨.ref s.heap.objs.size, _, I.laid (t' := tk) (o := .lst (zs.map fun z => V.ref z.2.1)) kp (Nat.le_refl _) ?_, rfl, q _ (I.hok.fresh (Nat.le_refl _))⟩
  exact ⟨by rw [List.length_map]; exact z, acc'.toList, c', rv, by rw [Array.toArray_toList]; exact e⟩
/-- d[k] = v (for pg_sub) -/
def rSetN (X : Cx) : TSet := fun o i v H Q => ∃ (a b : Addr) (xs : List EN) (d : D) (k : NestedKey), o = .ref a ∧ i = .ref b ∧ H a = some (dN X.prog X.w a xs) ∧ KAll X.K H xs ∧ xs.length < sizeLine ∧ Rp X.K H (.ref b) d ∧ kD d = some k ∧ k.depth ≤ 8 ∧ Q (upd H a (dN X.prog X.w a (putN xs k b v)))
theorem set_N (hu : X.A.units + 64 < cLine) : PSet X (rSetN X) := by
  intro pins s σ H o i v ov iv u Q I ro ri rv h
  obtain ⟨a, b, xs, d, k, rfl, rfl, e, ka, hl, r, hk, h8, q⟩ := h
  cases (show ov = Value.ref a from ro)
  cases (show iv = Value.ref b from ri)
  exact dN_set (by show X.A.units + 1 + 8 < cLine; omega) I e ka hl r hk h8 rv fun s' I' => ⟨_, I', q⟩
end
end LT
/-! # Di3 -/
namespace LT
open PySem PySem.Spec PyProof.Rows L2 Tm
section
variable {X : Cx} {o i : Expr} {es : List Expr} {pos : Pos} {td ty : TE} {t : TA}
/-- d[k] of a dict keyed by nested tuples -/
def tGetN (X : Cx) (td ty : TE) : TE := fun σ H Q => td σ H fun x H1 => ty σ H1 fun y H2 => ∃ (a b : Addr) (xs : List EN) (d : D) (k : NestedKey) (v : V), x = .ref a ∧ y = .ref b ∧ H2 a = some (dN X.prog X.w a xs) ∧ KAll X.K H2 xs ∧ Rp X.K H2 (.ref b) d ∧ kD d = some k ∧ k.depth ≤ 8 ∧ atN xs k = some v ∧ Q v H2
theorem pe_getN (hu : X.A.units + 64 < cLine) (ho : PE X o td) (hi : PE X i ty) (hs : NoSl i) : PE X (.Subscript o i pos) (tGetN X td ty) := by
  refine ⟨fun pins s σ H Q I h => ?_⟩
  refine subD_of PySem.F.slot_dict_getitem.lookup hs (thn (ho.run pins s σ H _ I h) fun u s1 ⟨x, H1, I1, rx, q1⟩ => thn (hi.run pins s1 σ H1 _ I1 q1) fun iv s2 ⟨y, H2, I2, ry, a, b, xs, d, k, v, ex, ey, e, ka, r, hk, h8, hv, q2⟩ => ?_)
  subst ex ey
  obtain rfl : u = Value.ref a := rx
  obtain rfl : iv = Value.ref b := ry
  obtain ⟨_, _, _, _, dd⟩ := dN_of I2 e ka
  exact ⟨dd.typeIs, dN_get (by show X.A.units + 1 + 8 < cLine; omega) I2 e ka r hk h8 hv fun w' s3 I3 rw' => ⟨v, H2, I3, rw', q2⟩⟩
/-- [..]: the new object is none of the written part's -/
def tLstK (K : KF) (t : TA) : TE := fun σ H Q => t σ H fun xs H1 => xs.length ≤ sizeLine ∧ ∀ p, H1 p = none → K.lookup p = none → Q (.ref p) (upd H1 p (.lst xs))
theorem pe_lstK (h : PA X es t) : PE X (.List es pos) (tLstK X.K t) := by
  refine ⟨fun pins s σ H Q I hq => ?_⟩
  refine wpAny_List_spliced (thn (h.run pos pins s σ H _ I hq) fun us s1 ⟨xs, H1, I1, r, z, q⟩ => ⟨by rw [← r.length]; exact z, ?_⟩)
  have hf : H1 s1.heap.objs.size = none := I1.hok.fresh (Nat.le_refl _)
  have hk : X.K.lookup s1.heap.objs.size = none := by
    cases e : X.K.lookup s1.heap.objs.size with
    | none => rfl
    | some ob => exact absurd (Heap.lt_size (I1.bk _ _ (I1.mod.kin _ _ e))) (Nat.lt_irrefl _)
  refine ⟨.ref s1.heap.objs.size, upd H1 s1.heap.objs.size (.lst xs), I1.laid (t' := s1.toks) (fun b u e => Heap.get?_push_of_some _ e) (Nat.le_refl _) ?_, rfl, q _ hf hk⟩
  exact ⟨z, us, 0, r, Heap.get?_push_size _ rfl⟩
end
theorem sqL_apart {K : KF} {H : Hp} {sc p : Addr} {xs : List V} (h : SqL K H sc xs) (hp : H p = none) (hk : K.lookup p = none) : sc ≠ p := fun e => by
  subst e
  rcases h with h | ⟨o, its, n, h, _⟩
  · rcases h with h | ⟨q, h⟩ <;> rw [hp] at h <;> cases h
  · rw [hk] at h; cases h
end LT
/-! # Nl -/
namespace LT
open PySem PySem.Spec PyProof.Rows L2 Tm
def cLR (f : FE) : FE := fun ρ => match f ρ with
  | some (.int j) => if 0 ≤ j ∧ j ≤ 1000 then some (.list (rangeD 0 j.toNat)) else none
  | _ => none
theorem rpl_range {K : KF} {G : Hp} (lo : Int) : ∀ js : List Nat, RpL K G (js.map fun i => V.int (lo + (i : Nat))) (js.map fun i => .int (lo + (i : Nat)))
  | [] => .nil
  | _ :: js => .cons (.int _) (rpl_range lo js)
section
variable {X : Cx} {e : Expr} {f : FE} {p p2 pos pos2 : Pos}
theorem pf_listRg (hc : X.calm = true) (hg : Gl X "list") (hm : X.mg "list" = none) (hg2 : Gl X "range") (hm2 : X.mg "range" = none) (ha : PF X e f) (na : starEach [e] X.env = (false, eval e X.env) :: starEach [] X.env := by rfl)
    (nb : starEach [(Expr.Call (.Name "range" p2) [e] [] pos2)] X.env = (false, eval (Expr.Call (.Name "range" p2) [e] [] pos2) X.env) :: starEach [] X.env := by rfl) : PF X (.Call (.Name "list" p) [.Call (.Name "range" p2) [e] [] pos2] [] pos) (cLR f) :=
  pe_weak (pe_listRg hc hg hm (prg_1 hg2 hm2 ha na) nb) fun σ H Q ⟨ρ, G, d, sg, ev, hf, q⟩ => by
    unfold cLR at hf
    split at hf
    · rename_i j e1
      split at hf
      · rename_i hj
        cases hf
        refine ⟨ρ, G, .int j, sg, ev, e1, fun v G1 H1 x1 r1 => ?_⟩
        cases r1
        refine ⟨j, rfl, ⟨by omega, by omega, by omega, by omega, by omega⟩, fun l hl => ?_⟩
        have x2 := Ext.new x1.gh hl (.lst (rgV 0 j))
        refine q _ _ _ (x1.trans x2) (.lst upd_same (by rw [rgV_length]; exact small (by omega)) ?_)
        unfold rgV rangeD
        rw [show (j - 0).toNat = j.toNat by omega]
        exact rpl_range 0 _
      · cases hf
    · cases hf
end
theorem putN_keys (xs : List EN) (k : NestedKey) (b : Addr) (v : V) : (putN xs k b v).map (·.1) = if k ∈ xs.map (·.1) then xs.map (·.1) else xs.map (·.1) ++ [k] := by
  have e : (xs.any fun x => decide (x.1 = k)) = true ↔ k ∈ xs.map (·.1) := by
    rw [List.any_eq_true]
    constructor
    · rintro ⟨x, hx, h⟩
      exact List.mem_map.mpr ⟨x, hx, of_decide_eq_true h⟩
    · intro h
      obtain ⟨x, hx, h⟩ := List.mem_map.mp h
      exact ⟨x, hx, decide_eq_true h⟩
  unfold putN
  by_cases h : k ∈ xs.map (·.1)
  · rw [if_pos h, if_pos (e.mpr h), List.map_map]
    refine List.map_congr_left fun x _ => ?_
    simp only [Function.comp_apply, putE]
    split <;> rfl
  · rw [if_neg h, if_neg (fun z => h (e.mp z)), List.map_append]
    rfl
theorem putN_mem {xs : List EN} {k : NestedKey} {b : Addr} {v : V} : ∀ x ∈ putN xs k b v, (∃ y ∈ xs, y.1 = x.1 ∧ y.2.1 = x.2.1) ∨ x = (k, b, v) := by
  intro x hx
  unfold putN at hx
  split at hx
  · obtain ⟨y, hy, rfl⟩ := List.mem_map.mp hx
    refine .inl ⟨y, hy, ?_⟩
    unfold putE
    split <;> exact ⟨rfl, rfl⟩
  · rcases List.mem_append.mp hx with h | h
    · exact .inl ⟨x, h, rfl, rfl⟩
    · exact .inr (List.mem_singleton.mp h)
theorem kall_rpl {K : KF} {G : Hp} : ∀ {zs : List EN}, KAll K G zs → ∃ ds, RpL K G (zs.map fun z => V.ref z.2.1) ds ∧ kDs ds = some (zs.map (·.1))
  | [], _ => ⟨[], .nil, rfl⟩
  | z :: zs, h => by
    obtain ⟨d, a, b, _⟩ := h z List.mem_cons_self
    obtain ⟨ds, e, g⟩ := kall_rpl (zs := zs) fun x hx => h x (List.mem_cons_of_mem _ hx)
    exact ⟨d :: ds, .cons a e, by simp [kDs, b, g]⟩
abbrev N_nl : List Str := ["plan", "row", "found", "standing", "label"]
theorem sc_nl : FnScope N_nl ["plan", "row"] (defScope snextlabels) := ⟨rfl, rfl, rfl, by decide +kernel, rfl, by decide +kernel, by decide +kernel⟩
section
variable {P : Program} {w : World} {K : KF} {mg : Str → Option Value} {base : Heap} {f : Addr} {fd : FuncData} {n : Nat} {c : Fns}
theorem fok_nl (T : Txt K mg) (C : ∀ i, FokP P w K mg base n (Fn.nm i) (Fn.ps i) (c i)) (F : FnP K "next_labels" snextlabels f fd) (hm : mg "next_labels" = some (.ref f)) : FokP P w K mg base (n + 1) "next_labels" ["plan", "row"] (nlF c) := by
  refine ⟨f, fd, F.ok sc_nl (fun vs H Q E h => ?_) (fun cdv A outer s H vs Q E hr h => ?_), hm, F.kp, F.bindsN fun _ _ _ _ _ _ us hl => match us, hl with | [_, _], _ => rfl⟩
  · obtain ⟨G, ds, d, sg, r, hl, _⟩ := h
    rw [r.length]
    exact hl
  have nd := sc_nl.nd
  have S := sc_nl
  have hu := hr.units
  refine ⟨_, PSs.nox (pss_cons (ps_set (i := 2) nd rfl (Or.inl rfl) pe_newN)
    (pss_cons (ps_for PassesOwn.never rfl (pfi_list (pf_call (C .fstandings) hr (by rfl) (pl_cons (pf_var (pv 0)) (pl_cons (pf_var (pv 1)) pl_nil)))) (pg_name (i := 3) nd rfl (Or.inl rfl))
      (pss_one (ps_for PassesOwn.never rfl (pfi_list (pf_call (C .flabelsof) hr (by rfl) (pl_cons (pf_var (pv 3)) (pl_cons (pf_listRg (by rfl) (by rfl) T.z_list (by rfl) T.z_range (pf_gint T.i_MOST_EVENTS (by rfl))) pl_nil)))) (pg_name (i := 4) nd rfl (Or.inl rfl))
        (pss_one (ps_asg pe_bl (pg_sub (pv 2) (pv 4) (set_N hu)))))))
    (pss_one (ps_ret (pe_callTy cr_tuple (by rfl) T.z_tuple (by decide +kernel) (pa_cons (pe_callB (cr_sort hr) (by rfl) T.z_sorted (by decide +kernel) (pa_cons (pe_callTy (call_listN (by rfl)) (by rfl) T.z_list (by decide +kernel) (pa_cons (pv 2) pa_nil)) pa_nil)) pa_nil)))))), ?_⟩
  obtain ⟨G, ds, d, sg, r, hl, hF, hQ⟩ := h
  match ds, hl, r, hF with
  | [dp, dr], _, r, hF =>
  obtain ⟨vp, vr, rfl, rp, rr⟩ : ∃ vp vr, vs = [vp, vr] ∧ Rp K G vp dp ∧ Rp K G vr dr := by
    cases r with
    | cons a r => cases r with
      | cons b r => cases r; exact ⟨_, _, rfl, a, b⟩
  unfold nlF at hF
  simp only at hF
  split at hF
  case h_2 => cases hF
  rename_i ss hst
  obtain ⟨ls, hls, hF⟩ := Option.bind_eq_some_iff.mp hF
  obtain ⟨ks, hks, hF⟩ := Option.bind_eq_some_iff.mp hF
  obtain ⟨hok, rfl⟩ := ite_some hF
  simp only [nlOk, Bool.and_eq_true, List.all_eq_true, decide_eq_true_eq] at hok
  obtain ⟨⟨hso, hkt⟩, hkl⟩ := hok
  intro p hp
  have gp : G p = none := none_of_same sg hp
  have ef1 : Ef (· = p) G H G (upd H p (dN P w p [])) := Ef.up (M := (· = p)) sg gp rfl _
  have hpn : upd H p (dN P w p []) p ≠ none := by rw [upd_same]; exact fun z => nomatch z
  have hup : upd H p (dN P w p []) p = some (dN P w p []) := upd_same
  refine ⟨[.im dp, .im dr, .no, .no, .no], G, ss, ef1.gh, ((EnvR.base (n := 5) rfl).add (i := 0) rfl rp).add (i := 1) rfl rr, by simp [hst, Fn.ps], fun J Gd Y G2 H2 x2 yl => ?_⟩
  have g2 : G2 p = none := by
    cases e : G2 p with
    | none => rfl
    | some u =>
      rcases x2.nw p (by rw [e]; exact fun z => nomatch z) with z | z
      · exact absurd gp z
      · exact absurd z hpn
  refine for_it yl.w (fun i σ H' => ∃ (G' : Hp) (x3 x4 : Option V) (zs : List EN) (rest : List D) (kr : List NestedKey), σ = [some vp, some vr, some (.ref p), x3, x4] ∧ Ef (· = p) G2 H2 G' H' ∧ H' p = some (dN P w p zs) ∧ G' p = none ∧ KAll K G' zs ∧ (zs.map (·.1)).Nodup ∧ nlGo c (ss.drop i) = some rest ∧ kDs rest = some kr ∧ ∀ k, k ∈ ks ↔ k ∈ zs.map (·.1) ∨ k ∈ kr) ?_ ?_ ?_ ?_
  · exact ⟨G2, none, none, [], ls, ks, rfl, Ef.refl x2.gh, x2.hh _ _ hup, g2, (fun x hx => by cases hx), List.nodup_nil, hls, hks, (fun k => by simp)⟩
  · rintro i σ H' _ ⟨G', x3, x4, zs, rest, kr, rfl, ef, _⟩
    exact yl.gd H' (ef.gg.trans ef.gh)
  · rintro i x σ H' H'' hlt ⟨G', x3, x4, zs, rest, kr, rfl, ef, hz, gz, ka, nd2, hgo, hkr, hmem⟩ hy
    obtain ⟨d', hd, hkk⟩ := yl.y i H' x H'' hlt (ef.gg.trans ef.gh) hy
    obtain ⟨G5, x5, r5⟩ := hkk G' ef.gg ef.gh
    have hil : i < ss.length := hlt
    have hdr : ss.drop i = d' :: ss.drop (i + 1) := by
      rw [List.drop_eq_getElem_cons hil]
      rw [List.getElem?_eq_getElem hil] at hd
      rw [Option.some.inj hd]
    rw [hdr] at hgo
    simp only [nlGo] at hgo
    split at hgo
    case h_2 => cases hgo
    rename_i l hlab
    obtain ⟨rest', hr', rfl⟩ := Option.map_eq_some_iff.mp hgo
    have ef5 := ef.trans (Ef.of (M := (· = p)) x5)
    have g5 : G5 p = none := (Ef.of (M := (· = p)) x5).keep gz (by rw [hz]; exact fun z => nomatch z)
    refine ⟨[.no, .no, .no, .im d', .no], G5, l, x5.gh, (EnvR.base (n := 5) rfl).add (i := 3) rfl r5, ?_, fun J2 Gd2 Y2 G6 H6 x6 yl2 => ?_⟩
    · have : rangeD 0 4 = [.int 0, .int 1, .int 2, .int 3] := rfl
      simp [cLR, this, hlab, Fn.ps]
    have hz6 := x6.hh _ _ (x5.hh _ _ hz)
    have g6 : G6 p = none := (Ef.of (M := (· = p)) x6).keep g5 (by rw [x5.hh _ _ hz]; exact fun z => nomatch z)
    refine for_it yl2.w (fun j σ H' => ∃ (G' : Hp) (x4 : Option V) (zs : List EN) (kr : List NestedKey), σ = [some vp, some vr, some (.ref p), some x, x4] ∧ Ef (· = p) G6 H6 G' H' ∧ H' p = some (dN P w p zs) ∧ G' p = none ∧ KAll K G' zs ∧ (zs.map (·.1)).Nodup ∧ kDs (l.drop j ++ rest') = some kr ∧ ∀ k, k ∈ ks ↔ k ∈ zs.map (·.1) ∨ k ∈ kr) ?_ ?_ ?_ ?_
    · exact ⟨G6, x4, zs, kr, rfl, Ef.refl x6.gh, hz6, g6, (ka.same x5.gg).same x6.gg, nd2, hkr, hmem⟩
    · rintro j σ H3 _ ⟨G', x4, zs, kr, rfl, ef, _⟩
      exact yl2.gd H3 (ef.gg.trans ef.gh)
    · rintro j x' σ H3 H4 hjl ⟨G', x4, zs, kr, rfl, efi, hz, gz, ka, nd2, hkr, hmem⟩ hy2
      obtain ⟨d2, hd2, hkk2⟩ := yl2.y j H3 x' H4 hjl (efi.gg.trans efi.gh) hy2
      obtain ⟨G7, x7, r7⟩ := hkk2 G' efi.gg efi.gh
      have hdr2 : l.drop j = d2 :: l.drop (j + 1) := by
        rw [List.drop_eq_getElem_cons hjl]
        rw [List.getElem?_eq_getElem hjl] at hd2
        rw [Option.some.inj hd2]
      rw [hdr2] at hkr
      simp only [List.cons_append, kDs] at hkr
      obtain ⟨k, hk1, hkr⟩ := Option.bind_eq_some_iff.mp hkr
      obtain ⟨kr', hk2, rfl⟩ := Option.map_eq_some_iff.mp hkr
      have hkin : k ∈ ks := (hmem k).mpr (.inr List.mem_cons_self)
      obtain ⟨b, rfl⟩ : ∃ b, x' = .ref b := by
        have ht := (hkt k hkin).1
        cases r7 with
        | non => simp only [kD, Option.some.injEq] at hk1; subst hk1; cases ht
        | bl b => simp [kD] at hk1
        | int i => simp only [kD, Option.some.injEq] at hk1; subst hk1; cases ht
        | str x h => simp only [kD, Option.some.injEq] at hk1; subst hk1; cases ht
        | lst h z r => exact ⟨_, rfl⟩
        | tup h z r => exact ⟨_, rfl⟩
      have ef7 := efi.trans (Ef.of (M := (· = p)) x7)
      have hz7 := x7.hh _ _ hz
      have g7 : G7 p = none := (Ef.of (M := (· = p)) x7).keep gz (by rw [hz]; exact fun z => nomatch z)
      have ka7 := ka.same x7.gg
      have hlen : zs.length ≤ 100000 := by
        have := nodup_len nd2 fun k hk => (hmem k).mpr (.inl hk)
        rw [List.length_map] at this
        omega
      refine ⟨.ref p, rfl, .ref b, rfl, p, b, zs, d2, k, rfl, rfl, hz7, ka7.same x7.gh, by rw [sizeLine_eq]; omega, r7.same x7.gh, hk1, (hkt k hkin).2, ?_⟩
      refine ⟨G7, _, putN zs k b (.bl true), kr', rfl, ef7.trans (Ef.up (M := (· = p)) x7.gh g7 rfl _), upd_same, g7, fun y hy => ?_, ?_, hk2, fun k' => ?_⟩
      · rcases putN_mem y hy with ⟨z, hzz, e1, e2⟩ | rfl
        · rw [← e1, ← e2]; exact ka7 z hzz
        · exact ⟨d2, r7, hk1, (hkt k hkin).2⟩
      · rw [putN_keys]
        split
        · exact nd2
        · rename_i hn
          exact List.nodup_append.mpr ⟨nd2, (by simp), fun a ha b hb e => hn (by rw [← List.mem_singleton.mp hb, ← e]; exact ha)⟩
      · rw [hmem k', putN_keys]
        split
        · rename_i hn
          rw [List.mem_cons]
          constructor
          · rintro (h | rfl | h)
            · exact .inl h
            · exact .inl hn
            · exact .inr h
          · rintro (h | h)
            · exact .inl h
            · exact .inr (.inr h)
        · rw [List.mem_cons, List.mem_append, List.mem_singleton]
          constructor
          · rintro (h | h | h)
            · exact .inl (.inl h)
            · exact .inl (.inr h)
            · exact .inr h
          · rintro ((h | h) | h)
            · exact .inl h
            · exact .inr (.inl h)
            · exact .inr (.inr h)
    · rintro σ H3 ⟨G', x4, zs, kr, rfl, efi, hz, gz, ka, nd2, hkr, hmem⟩
      rw [List.drop_length, List.nil_append] at hkr
      exact ⟨G', _, x4, zs, rest', kr, rfl, (ef5.trans (Ef.of (M := (· = p)) x6)).trans efi, hz, gz, ka, nd2, hr', hkr, hmem⟩
  · rintro σ H' ⟨G', x3, x4, zs, rest, kr, rfl, ef, hz, gz, ka, nd2, hgo, hkr, hmem⟩
    rw [List.drop_length] at hgo
    cases hgo
    cases hkr
    refine ⟨.ref p, rfl, p, zs, rfl, hz, fun q hq => ?_⟩
    obtain ⟨es, hes, hke⟩ := kall_rpl ka
    have x6 := Ext.new ef.gh hq (.lst (zs.map fun z => V.ref z.2.1))
    have hzk : ∀ k, k ∈ zs.map (·.1) ↔ k ∈ ks := fun k => by rw [hmem k]; simp
    have hlen : zs.length ≤ 100000 := by
      have := nodup_len nd2 fun k hk => (hzk k).mp hk
      rw [List.length_map] at this
      omega
    have hso2 : sortOk (zs.map (·.1)) = true := by
      obtain ⟨a1, a2⟩ := sortOk_iff.mp hso
      refine sortOk_iff.mpr ⟨fun x hx => ⟨(a1 x ((hzk x).mp hx)).1, fun y hy => (a1 x ((hzk x).mp hx)).2 y ((hzk y).mp hy)⟩, ?_⟩
      rcases a2 with a2 | a2
      · exact .inl fun x hx => a2 x ((hzk x).mp hx)
      · exact .inr fun x hx => a2 x ((hzk x).mp hx)
    have hsk : sortK (zs.map (·.1)) = sortK (dedK ks) := by
      refine sortK_eq (sortK_srt _) ((sortK_perm _).trans ((List.perm_ext_iff_of_nodup nd2 (dedK_nodup ks)).mpr fun k => ?_))
      rw [hzk k, mem_dedK]
    refine ⟨_, .ref q, .list es, .list (NestedKey.datas (sortK (dedK ks))), rfl, x6.gh, .lst upd_same (by rw [List.length_map, sizeLine_eq]; omega) (hes.same x6.gg), ?_, fun v7 G7 H7 x7 r7 => ?_⟩
    · simp only [sortH, hke, Option.bind_some]
      rw [if_pos hso2, hsk]
    refine ⟨G7, v7, _, _, rfl, x7.gh, r7, rfl, fun v8 G8 H8 x8 r8 => hQ v8 G8 H8 ?_ r8⟩
    have efz := ((((ef1.trans (Ef.of (M := (· = p)) x2)).trans ef).trans (Ef.of x6)).trans (Ef.of x7)).trans (Ef.of x8)
    refine ⟨fun b u hb => efz.hh b u (fun e => by rw [e, hp] at hb; cases hb) hb, efz.gg, efz.gh, fun b hb => efz.nw b hb⟩
end
end LT
namespace LT
open PySem PySem.Spec PyProof.Rows L2 Tm
/-- every pure def, whole -/
theorem fok_all {P : Program} {w : World} {K : KF} {mg : Str → Option Value} {base : Heap} (T : Txt K mg) (Ds : Defs K mg) (n : Nat) (i : Fn) : FokP P w K mg base n (Fn.nm i) (Fn.ps i) (den n i) :=
  fok_den T Ds (fun _ _ C => let ⟨_, _, F, hm⟩ := Ds.d_fnextlabels; fok_nl T C F hm) n i
end LT
/-! # Ce -/
namespace LT
open PySem PySem.Spec PyProof.Rows L2 Tm
/-- the defs with effects -/
structure EDefs (K : KF) (mg : Str → Option Value) : Prop where
  taken : ∃ f fd, FnP K "_law_taken" sLtaken f fd ∧ mg "_law_taken" = some (.ref f)
  pick : ∃ f fd, FnP K "_law_pick" sLpick f fd ∧ mg "_law_pick" = some (.ref f)
  leaf : ∃ f fd, FnP K "_law_leaf" sLleaf f fd ∧ mg "_law_leaf" = some (.ref f)
  plan : ∃ f fd, FnP K "_law_plan" sLplan f fd ∧ mg "_law_plan" = some (.ref f)
  marked : ∃ f fd, FnP K "_law_marked" sLmarked f fd ∧ mg "_law_marked" = some (.ref f)
  renamed : ∃ f fd, FnP K "_law_renamed" sLrenamed f fd ∧ mg "_law_renamed" = some (.ref f)
  drawn : ∃ f fd, FnP K "_law_drawn" sLdrawn f fd ∧ mg "_law_drawn" = some (.ref f)
section
variable {P : Program} {w : World} {K : KF} {sc : Addr} {mg : Str → Option Value} {base : Heap}
theorem fok_plan0 (Es : EDefs K mg) (n : Nat) : FokS P w K mg base (n + 1) "_law_plan" ["_law_row", "_law_deep"] (spPlan K sc 0) := by
  obtain ⟨f, fd, F, hm⟩ := Es.plan
  refine ⟨f, fd, F.ok sc_Lplan (fun vs H Q E h => ?_) (fun cdv A outer s H vs Q E hr h => ?_), hm, F.kp, F.bindsN fun _ _ _ _ _ _ us hl => match us, hl with | [_, _], _ => rfl⟩
  · obtain ⟨a, G, d, _, h, _⟩ := h
    omega
  · obtain ⟨a, G, d, _, h, _⟩ := h
    omega
theorem fok_ren0 (Es : EDefs K mg) (n : Nat) : FokS P w K mg base (n + 1) "_law_renamed" ["_law_plan_here", "_law_names"] (spRen K 0) := by
  obtain ⟨f, fd, F, hm⟩ := Es.renamed
  refine ⟨f, fd, F.ok sc_Lrenamed (fun vs H Q E h => ?_) (fun cdv A outer s H vs Q E hr h => ?_), hm, F.kp, F.bindsN fun _ _ _ _ _ _ us hl => match us, hl with | [_, _], _ => rfl⟩
  · obtain ⟨nb, v, G, d, t, ns, _, h, _⟩ := h
    omega
  · obtain ⟨nb, v, G, d, t, ns, _, h, _⟩ := h
    omega
/-- taken, marked and drawn at 160 -/
theorem fok_eff (T : Txt K mg) (Ds : Defs K mg) (Es : EDefs K mg) (sc : Addr) : FokS P w K mg base 1 "_law_taken" ["_law_row", "_law_many"] (spTaken K sc) ∧
    FokS P w K mg base 160 "_law_marked" ["_law_row", "_law_deep", "_law_names"] (spMarked K sc) ∧ FokS P w K mg base 160 "_law_drawn" ["_law_row", "_law_plan_here", "_law_most", "_law_offs"] (spDrawn K sc) := by
  have A := fun i => fok_all (P := P) (w := w) (base := base) T Ds LV i
  obtain ⟨f1, fd1, F1, m1⟩ := Es.taken
  obtain ⟨f2, fd2, F2, m2⟩ := Es.pick
  obtain ⟨f3, fd3, F3, m3⟩ := Es.leaf
  obtain ⟨f4, fd4, F4, m4⟩ := Es.plan
  obtain ⟨f5, fd5, F5, m5⟩ := Es.marked
  obtain ⟨f6, fd6, F6, m6⟩ := Es.renamed
  obtain ⟨f7, fd7, F7, m7⟩ := Es.drawn
  have tk : FokS P w K mg base 1 "_law_taken" ["_law_row", "_law_many"] (spTaken K sc) := fok_taken T F1 m1
  have pk := fok_pick T tk F2 m2
  have lf := fok_leaf T tk F3 m3
  have p1 := fok_plan (m := 0) (by omega) T (tk.mono (by decide : 1 ≤ LV)) (lf.mono (by decide : 2 ≤ LV)) (fok_plan0 Es 149) (A .fLleaves) F4 m4
  have p2 := fok_plan (m := 1) (by omega) T (tk.mono (by decide : 1 ≤ LV + 1)) (lf.mono (by decide : 2 ≤ LV + 1)) p1 ((A .fLleaves).mono (by decide : LV ≤ LV + 1)) F4 m4
  have p3 := fok_plan (m := 2) (by omega) T (tk.mono (by decide : 1 ≤ LV + 2)) (lf.mono (by decide : 2 ≤ LV + 2)) p2 ((A .fLleaves).mono (by decide : LV ≤ LV + 2)) F4 m4
  have r1 := fok_renamed (m := 0) (by omega) T (fok_ren0 Es 149) (A .fLparts) F6 m6
  have r2 := fok_renamed (m := 1) (by omega) T r1 ((A .fLparts).mono (by decide : LV ≤ LV + 1)) F6 m6
  have r3 := fok_renamed (m := 2) (by omega) T r2 ((A .fLparts).mono (by decide : LV ≤ LV + 2)) F6 m6
  have mk := fok_marked p3 r3 F5 m5
  have dr := fok_drawn T (tk.mono (by decide : 1 ≤ LV)) (pk.mono (by decide : 2 ≤ LV)) (A .fLbegin) (A .fLlabels) (A .fLnext) F7 m7
  exact ⟨tk, mk.mono (by decide), dr.mono (by decide)⟩
end
end LT
/-! # Ga -/
namespace LT
open PySem PySem.Spec PyProof.Rows L2
/-! ## a def's promise where no repr is under way -/
/-- as FnOk, at stacks whose guards are none -/
def FnG (P : Program) (w : World) (K : KF) (mg : Str → Option Value) (base : Heap) (k : Nat) (f : Addr) (fd : FuncData) (ps : List Str) (sp : Sp) : Prop :=
  ∀ (A : Around) (outer : List Env) (s : Shared) (H : Hp) (args : Args) (us : List Value) (vs : List V) (Q : VK) (E : XK), A.guards = some [] → Room k A → Env0 P w K mg base A outer s H → BindsTo s fd args (ps.zip us) → Vals vs us → sp vs H Q E →
    codeAny (model P w) A (.call (.ref f) args) (CR CX0 outer P w H s Q E) s
theorem fn_guard {P : Program} {w : World} {K : KF} {mg : Str → Option Value} {base : Heap} {k : Nat} {f : Addr} {x qual : Str} {params : Arguments} {body : List Stmt} {scope : Scope} {fd : FuncData} {N ps : List Str} {sp : Sp}
    (F : FunD K x qual params body scope [] [] f fd) (S : FnScope N ps scope) (len : ∀ vs H Q E, sp vs H Q E → vs.length = ps.length)
    (hbody : ∀ (cdv : Value) (A : Around) (outer : List Env) (s : Shared) (H : Hp) (vs : List V) (Q : VK) (E : XK), A.guards = some [] → Room k (A.deeper (envOfC qual scope s.heap.objs.size f cdv)) → sp vs H Q E →
      ∃ t, PSs (cxOf CX0 P w K mg base N qual scope f cdv A outer s H E) body t ∧ t { nx := fun _ H' => Q .non H', rt := Q } (L2.start N vs) H) : FnG P w K mg base (k + 1) f fd ps sp := by
  obtain ⟨oc, od, dV, kV, doc, pm, an, cdv, ct, osl, rfl, lk, hcd, _, _⟩ := F.ex
  intro A outer s H args us vs Q E hg hr e0 hb r hsp
  have hl := len _ _ _ _ hsp
  have KX : K.In s.heap := e0.mod.kin.keeps fun b o e => (e0.bs b o e).1
  have hkind : ∀ y ∈ ps.zip us, scope.names.lookup y.1 = some .local ∨ (scope.names.lookup y.1 = some .cell ∧ ((cellsFrom (s.heap.objs.size + 1) scope.names []).lookup y.1).isSome = true) := fun ⟨n, v⟩ hy =>
    (S.par n (List.of_mem_zip hy).1).elim .inl fun q => .inr ⟨q, PySem.W.cellsFrom_some _ _ _ (.inl q)⟩
  refine codeAny_call_function hr.depth (KX _ _ lk) rfl S.co S.gen rfl (PySem.W.codeRec_of KX hcd) (hb _ _ _ _ (wpAny_newFunctionEnv_cells S.kind hkind fun env he s1 x => ?_))
  subst he
  refine ⟨(e0.mod.nolimit.keeps fun b o e => (e0.bs b o e).1).keeps x.toInCall.keep, codeAny_func ?_⟩
  obtain ⟨t, ht, hq⟩ := hbody cdv A outer s H vs Q E hg (hr.deeper _) hsp
  refine wpAny_mono (ht.run [] s1 (L2.start N vs) H _ (inv_start S hr.hd e0 hl r x) hq) (fun fl s' hs => ?_) fun e s' hs => hs
  cases fl with
  | ret u =>
    obtain ⟨v, σ', H', J, rv, q⟩ := hs
    exact ⟨v, H', J.os, J.bare, J.base, J.hok, rv, q⟩
  | next =>
    obtain ⟨σ', H', J, q⟩ := hs
    exact ⟨.non, H', J.os, J.bare, J.base, J.hok, rfl, q⟩
  | brk => exact hs.choose_spec.choose_spec.2.elim
  | cont => exact hs.choose_spec.choose_spec.2.elim
end LT
/-! # Gb -/
namespace LT
open PySem PySem.Spec PyProof.Rows L2
/-- the law's end, from its promise where no repr is under way -/
theorem call_guard {P : Program} {w : World} {K : KF} {mg mb : Str → Option Value} {k : Nat} {fa a : Addr} {fd : FuncData} {x : Str} {sp : Sp} {s₁ : Shared} {vs : List Value} {ns : List Int}
    (KX : K.In s₁.heap) (hns : s₁.heap.Ns mainGlobals mg) (hb : s₁.heap.Ns builtinsNs mb) (hbb : ∀ x : Str, x ≠ "__name__" → mb x = bootBuiltins x) (hlim : s₁.heap.NoLimit) (hg : s₁.gens = #[])
    (ha : s₁.heap.get? a = some { cls := .type "list", data := .seq vs.toArray }) (hi : IntsAre vs ns) (hl : ns.length ≤ sizeLine) (hr : Room k callerA)
    (F : ∀ base : Heap, K.In base → base.Ns mainGlobals mg → FnG P w K mg base k fa fd [x] sp) (hbind : ∀ (s : Shared) (u : Value), BindsTo s fd ⟨[u], []⟩ [(x, u)])
    (hsp : ∀ H : Hp, Only H → SqL K H a (ns.map V.int) → sp [.ref a] H (fun v _ => v = .bl true) fun _ _ _ => False) :
    codeAny (model P w) callerA (.call (.ref fa) ⟨[.ref a], []⟩) (fun r s' => r = .ok (.ret (.bool true)) ∧ OldK s₁.heap s'.heap ∧ s'.os = s₁.os ∧ AllBare s'.gens) s₁ := by
  have rv := vals_ints hi
  have core : ∀ H : Hp, Only H → SqL K H a (ns.map V.int) → HOk P w H s₁.heap → (∀ b, H b ≠ none → b = a) → (H a ≠ none → K.lookup a = none) →
      codeAny (model P w) callerA (.call (.ref fa) ⟨[.ref a], []⟩) (fun r s' => r = .ok (.ret (.bool true)) ∧ OldK s₁.heap s'.heap ∧ s'.os = s₁.os ∧ AllBare s'.gens) s₁ := by
    intro H hO hS hok hA hK
    have off : ∀ {b : Addr}, b ≠ a → H b = none := fun {b} hne => Classical.byContradiction fun z => hne (hA b z)
    have noA : ∀ {b : Addr} {o : Obj} {es : Array DictEntry} {ep : Nat}, s₁.heap.get? b = some o → o.data = .dict es ep → H b = none := fun {b o es ep} e d => off fun e' => by
      subst e'
      rw [ha] at e
      cases e
      cases (show Data.seq vs.toArray _ = Data.dict es ep from d)
    have nsK : ∀ {b : Addr} {m : Str → Option Value}, s₁.heap.Ns b m → (hidT s₁.heap H).Ns b m := fun {b m} ⟨o, es, ep, e, d, r⟩ => ⟨o, es, ep, hidT_get e (noA e d), d, r⟩
    have hKb : K.In (hidT s₁.heap H) := fun b o e => hidT_get (KX b o e) (by
      by_cases e' : b = a
      · subst e'
        exact Classical.byContradiction fun z => by rw [hK z] at e; cases e
      · exact off e')
    have hM : Mod K mg (hidT s₁.heap H) := ⟨hKb, nsK hns, ⟨mb, nsK hb, hbb⟩, let ⟨mc, h1, h2⟩ := hlim; ⟨mc, nsK h1, h2⟩⟩
    have e0 : Env0 P w K mg (hidT s₁.heap H) callerA [] s₁ H := ⟨rfl, hM, fun b o e => of_hidT e, Nat.le_of_eq (hidT_size _ _), trivial, fun b hb => absurd (show b ∈ ([] : List Addr) from hb) (by simp), hok, .of_eq hg⟩
    refine codeAny_mono (F _ hKb (nsK hns) callerA [] s₁ H ⟨[.ref a], []⟩ [.ref a] [.ref a] _ _ rfl hr e0 (hbind s₁ (.ref a)) (.cons rfl .nil) (hsp H hO hS)) fun r s' h => ?_
    cases r with
    | error e => exact False.elim h
    | ok fl =>
      cases fl with
      | next => exact False.elim h
      | brk => exact False.elim h
      | cont => exact False.elim h
      | ret u =>
        obtain ⟨v, H', os, bare, un, hok', r', q⟩ := h
        obtain rfl : v = .bl true := q
        obtain rfl : u = Value.bool true := r'
        refine ⟨rfl, OldK.of_keep fun b o e => ?_, os, bare⟩
        cases q : H b with
        | none => exact un.keep b o e q (by intro z; exact absurd (show b ∈ ([] : List Addr) from z) (by simp)) (by simp)
        | some u =>
          rcases hO b with z | ⟨ob, xs, z⟩
          · rw [q] at z; cases z
          · have z2 := un.frzs b ob _ z
            obtain ⟨e1, _⟩ := hok b _ z
            obtain ⟨e2, _⟩ := hok' b _ z2
            rw [e] at e1; cases e1
            exact e2
  cases hk : K.lookup a with
  | some o =>
    have e := KX a o hk
    rw [ha] at e
    cases e
    exact core (fun _ => none) (fun _ => .inl rfl) (.inr ⟨_, vs.toArray, _, hk, rfl, rfl, rfl, by rw [List.size_toArray, hi.length]; exact hl, by simpa using rv⟩) (fun b u z => by cases (show (none : Option HO) = some u from z)) (fun b z => absurd rfl z) fun z => absurd rfl z
  | none =>
    refine core (fun b => if b = a then some (.frz { cls := .type "list", data := .seq vs.toArray } (.lst (ns.map V.int))) else none) (fun b => ?_) (.inl (.inr ⟨{ cls := .type "list", data := .seq vs.toArray }, if_pos rfl⟩)) (fun b u z => ?_) (fun b z => ?_) fun _ => hk
    · by_cases hb : b = a
      · exact .inr ⟨_, _, if_pos hb⟩
      · exact .inl (if_neg hb)
    · by_cases hb : b = a
      · cases (if_pos hb).symm.trans z
        subst hb
        exact ⟨ha, by rw [List.length_map]; exact hl, vs, _, rv, ha⟩
      · cases (if_neg hb).symm.trans z
    · exact Classical.byContradiction fun hb => absurd (if_neg hb) z
end LT
/-! # Gc -/
namespace LT
open PySem PySem.Spec PyProof.Rows L2
/-- a law: F gives the written part, the function object, the promise over every base -/
theorem walk_guard {l : PySem.W.OpenLaw} {n k : Nat} {q : Program} {loose : List Str} {XP : (Str → Option Value) → Heap → Prop} {YP : World → Heap → Prop} {d : DefRec} {x : Str}
    (hn : l.most = some n) (hn2 : n ≤ sizeLine) (hdf : d.params.defaults = []) (hr : Room k callerA)
    (F : ∀ (w : World) (mg : Str → Option Value) (fa : Addr) (h : Heap), YP w h → h.Ns mainGlobals mg → mg d.name = some (.ref fa) →
      ∃ (K : KF) (fd : FuncData) (sp : Sp), K.In h ∧ (∀ (s : Shared) (u : Value), BindsTo s fd ⟨[u], []⟩ [(x, u)]) ∧
        (∀ (H : Hp) (a : Addr) (ns : List Int), ns.length ≤ n → Only H → SqL K H a (ns.map V.int) → sp [.ref a] H (fun v _ => v = .bl true) fun _ _ _ => False) ∧
        ∀ base : Heap, K.In base → base.Ns mainGlobals mg → FnG l.prog w K mg base k fa fd [x] sp) :
    PySem.W.WalkO q loose XP YP l.row.toRowW d [] (fun f vs => PySem.call f vs) := by
  refine Att.attach_call hn hdf fun w s₀ s₁ mg mb fa o pm cd doc a vs ns G Y ho hd hcd hmg hobj hints hlen hg => ?_
  obtain ⟨K, fd, sp, KX, hb, hsp, hF⟩ := F w mg fa _ Y G.T.g hmg
  exact call_guard KX G.T.g G.T.b G.T.builtins G.T.nolimit hg hobj hints (Nat.le_trans hlen hn2) hr hF hb fun H hO hS => hsp H a ns hlen hO hS
end LT
/-! # Sr -/
namespace LT
open PySem PySem.Spec PyProof.Rows L2
section
variable {X : Cx} {pins : List (Addr × Obj)} {σ : L2.St} {H : Hp} {s : Shared}
mutual
theorem Rp.reads (I : Inv X pins σ H s) : ∀ {d : D} {v : V} {k : NestedKey} {u : Value}, Rp X.K H v d → kD d = some k → RelV v u → Reads s.heap u d []
  | _, _, k, u, .non, h, r => by
    obtain rfl : u = Value.none := r
    exact .none
  | _, _, k, u, .bl b, h, r => by simp [kD] at h
  | _, _, k, u, .int i, h, r => by
    obtain ⟨t, rfl⟩ := r
    exact .int i t
  | _, _, k, u, .str x _, h, r => by
    obtain ⟨t, rfl⟩ := r
    exact .str x t
  | _, _, k, u, .lst _ _ _, h, r => by simp [kD] at h
  | _, _, k, u, .tup hq z rv, h, r => by
    simp only [kD] at h
    obtain ⟨ks, h1, rfl⟩ := Option.map_eq_some_iff.mp h
    obtain rfl : u = Value.ref _ := r
    obtain ⟨its, r2, ⟨o, ho, hc, n, hd⟩, _⟩ := I.tuple hq
    exact .tuple ho hc hd (by simpa using RpL.reads I rv h1 r2)
theorem RpL.reads (I : Inv X pins σ H s) : ∀ {ds : List D} {vs : List V} {ks : List NestedKey} {us : List Value}, RpL X.K H vs ds → kDs ds = some ks → Vals vs us → ReadsAll s.heap us ds []
  | _, _, ks, us, .nil, h, r => by
    cases r
    exact .nil
  | _, _, ks, us, .cons a b, h, r => by
    simp only [kDs] at h
    obtain ⟨k, h1, h2⟩ := Option.bind_eq_some_iff.mp h
    obtain ⟨ks', h3, rfl⟩ := Option.map_eq_some_iff.mp h2
    cases r with
    | cons r1 r2 => exact .cons (as := []) (bs := []) (Rp.reads I a h1 r1) (RpL.reads I b h3 r2)
end
/-- str of a tuple that is a key: its text -/
theorem call_strT (hg : X.A.guards = some []) (hu : X.A.units + 64 < cLine) : CallR X (.type "str") (fun xs H Q => ∃ (a : Addr) (d : D) (k : NestedKey), xs = [V.ref a] ∧ Rp X.K H (.ref a) d ∧ kD d = some k ∧ d.showable = true ∧ d.hasDict = false ∧ d.depth ≤ 60 ∧ d.shown.length ≤ sizeLine ∧ Q (.str d.shown) H) := by
  intro pins s σ H xs us Q I r h
  obtain ⟨a, d, k, rfl, rd, hk, hs, hdd, hdp, hz, q⟩ := h
  obtain rfl := Vals.ref1 r
  refine str_of_reads (h₀ := s.heap) (rd.reads I hk rfl) hs (fun z => by rw [hdd] at z; cases z) hg (by omega) (fun _ _ e => e) (fun h' u tk hk => ?_) hz
  exact ⟨.str d.shown, H, I.kept hk, ⟨u, rfl⟩, q⟩
end
end LT
/-! # Sw -/
namespace LT
open PySem PySem.Spec PyProof.Rows L2 Tm
/-! ## the text of a plan -/
theorem kS_w (k : Kd) : PyData.weight (.str (kS k)) ≤ 10 := by cases k <;> decide +kernel
/-- a small number's text -/
structure Sm (i : Int) : Prop where
  sh : PyData.showable (.int i) = true
  wt : PyData.weight (.int i) ≤ 10
  ln : PyData.intsShort 13 (.int i) = true
theorem sm_nat {w : Nat} (h : w < 8) : Sm (w : Int) := by
  have : w = 0 ∨ w = 1 ∨ w = 2 ∨ w = 3 ∨ w = 4 ∨ w = 5 ∨ w = 6 ∨ w = 7 := by omega
  rcases this with rfl | rfl | rfl | rfl | rfl | rfl | rfl | rfl <;> exact ⟨by decide +kernel, by decide +kernel, by decide +kernel⟩
def okS (x : Str) : Prop := ∀ c ∈ x.cps.toList, c < 0x110000
theorem okS_iff {x : Str} : okS x ↔ PyData.strOk x = true := by
  unfold okS PyData.strOk
  rw [Array.all_eq_true_iff_forall_mem]
  constructor
  · intro h c hc
    exact decide_eq_true (h c (Array.mem_toList_iff.mpr hc))
  · intro h c hc
    exact of_decide_eq_true (h c (Array.mem_toList_iff.mp hc))
theorem toL_app (x y : Str) : (x ++ y).cps.toList = x.cps.toList ++ y.cps.toList := by rw [Str.cps_append, Array.toList_append]
theorem okS_app {x y : Str} (hx : okS x) (hy : okS y) : okS (x ++ y) := fun c hc => by
  rw [toL_app] at hc
  rcases List.mem_append.mp hc with h | h
  · exact hx c h
  · exact hy c h
theorem okS_lit {x : Str} (h : PyData.strOk x = true := by decide +kernel) : okS x := okS_iff.mpr h
theorem okS_join {sep : Str} (hs : okS sep) : ∀ {ts : List Str}, (∀ t ∈ ts, okS t) → okS (Str.join sep ts)
  | [], _ => by show okS Str.empty; intro c hc; simp [Str.empty] at hc
  | [x], h => h x List.mem_cons_self
  | x :: y :: r, h => okS_app (okS_app (h x List.mem_cons_self) hs) (okS_join hs fun t ht => h t (List.mem_cons_of_mem _ ht))
theorem okS_tup {ts : List D} (h : ∀ t ∈ PyData.shownAll ts, okS t) : okS (PyData.shown (.tuple ts)) := by
  rw [PyData.shown_tuple]
  refine okS_app (okS_app okS_lit (okS_join okS_lit h)) ?_
  split <;> exact okS_lit
theorem sm_txt {w : Nat} (h : w < 8) : okS (PyData.shown (.int (w : Int))) := by
  have : w = 0 ∨ w = 1 ∨ w = 2 ∨ w = 3 ∨ w = 4 ∨ w = 5 ∨ w = 6 ∨ w = 7 := by omega
  rcases this with rfl | rfl | rfl | rfl | rfl | rfl | rfl | rfl <;> exact okS_lit
theorem kS_txt (k : Kd) : okS (PyData.shown (.str (kS k))) := by cases k <;> exact okS_lit
/-- what str needs of a datum -/
structure TxB (d : D) (n m : Nat) : Prop where
  sh : d.showable = true
  ln : d.intsShort 13 = true
  ly : d.canLay0 = true
  wt : d.weight + 1 ≤ 30 * n
  dp : d.depth ≤ m
  ok : okS d.shown
structure TxBs (ds : List D) (n m : Nat) : Prop where
  sh : PyData.showableAll ds = true
  ln : PyData.intsShortAll 13 ds = true
  ly : PyData.canLayAll0 ds = true
  wt : PyData.weightAll ds ≤ 30 * n
  dp : PyData.depthAll ds ≤ m
  ok : ∀ t ∈ PyData.shownAll ds, okS t
theorem txs_nil {m : Nat} : TxBs [] 0 m := ⟨by simp [PyData.showableAll], by simp [PyData.intsShortAll], by simp [PyData.canLayAll0], by simp [PyData.weightAll], by simp, fun t h => by rw [PyData.shownAll_nil] at h; cases h⟩
theorem txs_cons {d : D} {ds : List D} {a b m : Nat} (h : TxB d a m) (r : TxBs ds b m) : TxBs (d :: ds) (a + b) m := by
  refine ⟨by simp [PyData.showableAll, h.sh, r.sh], by simp [PyData.intsShortAll, h.ln, r.ln], by simp [PyData.canLayAll0, h.ly, r.ly], ?_, ?_, fun t ht => ?_⟩
  · have := h.wt
    have := r.wt
    simp only [PyData.weightAll]
    omega
  · have := h.dp
    have := r.dp
    simp only [dpa_cons]
    omega
  · rw [PyData.shownAll_cons] at ht
    rcases List.mem_cons.mp ht with e | ht
    · rw [e]; exact h.ok
    · exact r.ok t ht
theorem tx_head {k : Kd} {ds : List D} {n m : Nat} (r : TxBs ds n m) : TxB (.tuple (.str (kS k) :: ds)) (1 + n) (m + 1) := by
  have := kS_w k
  have hw := r.wt
  have hd := r.dp
  refine ⟨by simp [PyData.showable, PyData.showableAll, r.sh], by simp [PyData.intsShort, PyData.intsShortAll, r.ln], by simp [PyData.canLay0, PyData.canLayAll0, kS_ok k, r.ly], ?_, ?_, okS_tup fun t ht => ?_⟩
  · simp only [PyData.weight, PyData.weightAll] at this ⊢
    omega
  · simp only [dp_tup, dpa_cons, dp_str]
    omega
  · rw [PyData.shownAll_cons] at ht
    rcases List.mem_cons.mp ht with e | ht
    · rw [e]; exact kS_txt k
    · exact r.ok t ht
theorem tx_num {k : Kd} {w : Nat} {ds : List D} {n m : Nat} (h : w < 8) (r : TxBs ds n m) : TxB (.tuple (.str (kS k) :: .int (w : Int) :: ds)) (1 + n) (m + 1) := by
  have s := sm_nat h
  have := kS_w k
  have hs := s.wt
  have hw := r.wt
  have hd := r.dp
  refine ⟨by simp only [PyData.showable, PyData.showableAll, r.sh] at *; simpa [PyData.showable] using s.sh, by simp only [PyData.intsShort, PyData.intsShortAll, r.ln] at *; simpa [PyData.intsShort] using s.ln, by simp [PyData.canLay0, PyData.canLayAll0, kS_ok k, r.ly], ?_, ?_, okS_tup fun t ht => ?_⟩
  · simp only [PyData.weight, PyData.weightAll] at this hs ⊢
    omega
  · simp only [dp_tup, dpa_cons, dp_str, dp_int]
    omega
  · rw [PyData.shownAll_cons, PyData.shownAll_cons] at ht
    rcases List.mem_cons.mp ht with e | ht
    · rw [e]; exact kS_txt k
    · rcases List.mem_cons.mp ht with e | ht
      · rw [e]; exact sm_txt h
      · exact r.ok t ht
theorem TxB.mono {d : D} {n m a b : Nat} (h : TxB d n m) (h1 : n ≤ a) (h2 : m ≤ b) : TxB d a b := ⟨h.sh, h.ln, h.ly, by have := h.wt; omega, Nat.le_trans h.dp h2, h.ok⟩
theorem txs_encs {m : Nat} : ∀ {ts : List Tm}, (∀ t ∈ ts, TxB (enc t) (sz t) m) → TxBs (encs ts) (szs ts) m
  | [], _ => txs_nil
  | t :: ts, h => txs_cons (h t List.mem_cons_self) (txs_encs fun u hu => h u (List.mem_cons_of_mem _ hu))
theorem enc_tx : ∀ (d : Nat) (t : Tm), vP d t = true → TxB (enc t) (sz t) d
  | 0, t, h => by simp [vP] at h
  | d + 1, t, h => by
    cases t with
    | rest => exact (tx_head (k := .rest) txs_nil).mono (by simp [sz]) (Nat.le_refl _)
    | say w =>
      simp [vP] at h
      exact (tx_num (k := .say) h txs_nil).mono (by simp [sz]) (Nat.le_refl _)
    | wait w =>
      simp [vP] at h
      exact (tx_num (k := .wait) (by omega) txs_nil).mono (by simp [sz]) (Nat.le_refl _)
    | thn p ps =>
      rw [vP] at h
      simp at h
      exact (tx_head (k := .thn) (txs_cons (enc_tx d p h.2.1) (txs_encs fun q hq => enc_tx d q (h.2.2 q hq)))).mono (by simp only [sz]; omega) (Nat.le_refl _)
    | both ps =>
      rw [vP] at h
      simp at h
      exact (tx_head (k := .both) (txs_encs fun q hq => enc_tx d q (h.2 q hq))).mono (by simp only [sz]; omega) (Nat.le_refl _)
    | first ps =>
      rw [vP] at h
      simp at h
      exact (tx_head (k := .first) (txs_encs fun q hq => enc_tx d q (h.2 q hq))).mono (by simp only [sz]; omega) (Nat.le_refl _)
    | within k p =>
      rw [vP] at h
      simp at h
      exact (tx_num (k := .within) (by omega) (txs_cons (enc_tx d p h.2) txs_nil)).mono (by simp only [sz]; omega) (Nat.le_refl _)
    | last p q =>
      rw [vP] at h
      simp at h
      exact (tx_head (k := .last) (txs_cons (enc_tx d p h.1) (txs_cons (enc_tx d q h.2) txs_nil))).mono (by simp only [sz]; omega) (Nat.le_refl _)
    | shield p =>
      rw [vP] at h
      exact (tx_head (k := .shield) (txs_cons (enc_tx d p h) txs_nil)).mono (by simp only [sz]; omega) (Nat.le_refl _)
    | keep p => simp [vP] at h
/-! ### words within it -/
def infx (a b : Str) : Prop := ∃ p q : List Nat, b.cps.toList = p ++ (a.cps.toList ++ q)
theorem infx_r {a b c : Str} (h : infx a b) : infx a (b ++ c) := by
  obtain ⟨p, q, e⟩ := h
  exact ⟨p, q ++ c.cps.toList, by rw [toL_app, e, List.append_assoc, List.append_assoc]⟩
theorem infx_l {a b c : Str} (h : infx a b) : infx a (c ++ b) := by
  obtain ⟨p, q, e⟩ := h
  exact ⟨c.cps.toList ++ p, q, by rw [toL_app, e, List.append_assoc]⟩
theorem infx_join {a sep x : Str} (h : infx a x) : ∀ {ts : List Str}, x ∈ ts → infx a (Str.join sep ts)
  | [], hx => by cases hx
  | [y], hx => by rw [← List.mem_singleton.mp hx]; exact h
  | y :: z :: r, hx => by
    show infx a (y ++ sep ++ Str.join sep (z :: r))
    rcases List.mem_cons.mp hx with e | hx
    · rw [← e]; exact infx_r (infx_r h)
    · exact infx_l (infx_join h hx)
theorem mem_shown {d : D} : ∀ {ds : List D}, d ∈ ds → d.shown ∈ PyData.shownAll ds
  | [], h => by cases h
  | e :: ds, h => by
    rw [PyData.shownAll_cons]
    rcases List.mem_cons.mp h with r | h
    · rw [r]; exact List.mem_cons_self
    · exact List.mem_cons_of_mem _ (mem_shown h)
theorem infx_tup {a : Str} {d : D} {ds : List D} (hd : d ∈ ds) (h : infx a d.shown) : infx a (PyData.shown (.tuple ds)) := by
  rw [PyData.shown_tuple]
  exact infx_r (infx_l (infx_join h (mem_shown hd)))
theorem infx_kS (k : Kd) : infx (kS k) (PyData.shown (.str (kS k))) := by
  cases k <;> exact ⟨[39], [39], by decide +kernel⟩
theorem infx_found {a b : Str} (h : infx a b) : (!(Builtin.Str.occurrences b a 0 b.length 1).isEmpty) = true := by
  obtain ⟨p, q, e⟩ := h
  refine (StrLaws.found_iff b a).mpr ⟨p.length, ?_, ?_⟩
  · have h1 : b.length = b.cps.toList.length := by simp [Str.length]
    have h2 : a.length = a.cps.toList.length := by simp [Str.length]
    rw [h1, h2, e]
    simp
  · rw [StrLaws.subAt_eq, e]
    have h2 : a.length = a.cps.toList.length := by simp [Str.length]
    rw [h2]
    simp
/-- a plan that is not plain tells so -/
def Tells (t : Tm) : Prop := infx (kS .last) (enc t).shown ∨ infx (kS .shield) (enc t).shown
theorem tells_in {u : Tm} {k : Kd} {xs : List D} (h : Tells u) (hm : enc u ∈ xs) : infx (kS .last) (PyData.shown (.tuple (.str (kS k) :: xs))) ∨ infx (kS .shield) (PyData.shown (.tuple (.str (kS k) :: xs))) :=
  h.imp (infx_tup (List.mem_cons_of_mem _ hm)) (infx_tup (List.mem_cons_of_mem _ hm))
theorem wts_some {f : Lb → Nat} {k : Nat} : ∀ {ts : List Tm}, wts f k ts ≠ 0 → ∃ t ∈ ts, wt f k t ≠ 0
  | [], h => absurd rfl h
  | t :: ts, h => by
    by_cases e : wt f k t = 0
    · simp only [wts, e, Nat.zero_add] at h
      obtain ⟨u, hu, q⟩ := wts_some h
      exact ⟨u, List.mem_cons_of_mem _ hu, q⟩
    · exact ⟨t, List.mem_cons_self, e⟩
theorem mem_encs {t : Tm} {ts : List Tm} (h : t ∈ ts) : enc t ∈ encs ts := by rw [encs_map]; exact List.mem_map.mpr ⟨t, h, rfl⟩
theorem tells : ∀ (d : Nat) (t : Tm), vP d t = true → ¬ plainT t → Tells t
  | 0, t, h, _ => by simp [vP] at h
  | d + 1, t, h, hn => by
    unfold plainT at hn
    cases t with
    | rest => exact absurd rfl hn
    | say w => exact absurd rfl hn
    | wait w => exact absurd rfl hn
    | thn p ps =>
      rw [vP] at h
      simp at h
      unfold Tells
      simp only [wt] at hn
      simp only [enc]
      by_cases e : wt (fun _ => 0) 1 p = 0
      · obtain ⟨u, hu, q⟩ := wts_some (f := fun _ => 0) (k := 1) (ts := ps) (by omega)
        exact tells_in (tells d u (h.2.2 u hu) q) (List.mem_cons_of_mem _ (mem_encs hu))
      · exact tells_in (tells d p h.2.1 e) List.mem_cons_self
    | both ps =>
      rw [vP] at h
      simp at h
      obtain ⟨u, hu, q⟩ := wts_some (f := fun _ => 0) (k := 1) (ts := ps) (by simpa only [wt] using hn)
      exact tells_in (tells d u (h.2 u hu) q) (mem_encs hu)
    | first ps =>
      rw [vP] at h
      simp at h
      obtain ⟨u, hu, q⟩ := wts_some (f := fun _ => 0) (k := 1) (ts := ps) (by simpa only [wt] using hn)
      exact tells_in (tells d u (h.2 u hu) q) (mem_encs hu)
    | within k p =>
      rw [vP] at h
      simp at h
      exact tells_in (tells d p h.2 (by simpa only [wt] using hn)) (List.mem_cons_of_mem _ List.mem_cons_self)
    | last p q => exact .inl (infx_tup List.mem_cons_self (infx_kS .last))
    | shield p => exact .inr (infx_tup List.mem_cons_self (infx_kS .shield))
    | keep p => simp [vP] at h
end LT
/-! # Tt -/
namespace LT
open PySem PySem.Spec PyProof.Rows L2
/-! ## tuple * int, one time or more -/
theorem tuple_once (l : Addr) (items : Array Value) (n : Nat) (dd : Option Addr) (sl : Array (Option Value)) (u : Tok) :
    Meets (Builtin.«tuple.__mul__» ⟨[.ref l, .int 1 u], []⟩) (fun _ R s => s.heap.get? l = some { cls := .type "tuple", dict := dd, data := .seq items n, slots := sl } ∧ R (.ok (.ret (.ref l))) s) :=
  .of_wp fun prog w A R s h => by
    obtain ⟨hp, g, d, tk, os⟩ := s
    obtain ⟨hl, h⟩ := h
    have f1 := AutoSeq1.idx_int
    wp_walk using wpAny_loadPart' hl
    repeat (first
      | (refine wpAny_ite_false (by decide) ?_; wp_walk using wpAny_loadPart' hl)
      | (refine wpAny_ite_true (by simp) ?_; wp_walk using wpAny_loadPart' hl))
    exact ⟨_, rfl, h⟩
section
variable {X : Cx}
def rRepO (K : PySem.W.Frag) : R2 := fun x y H Q => ∃ l xs, x = .ref l ∧ y = .int 1 ∧ SqT K H l xs ∧ Q (.ref l) H
theorem op_repO : OpR X (binaryOp .Mult) (rRepO X.K) := by
  intro pins s σ H x y v u Q I rx ry h
  obtain ⟨l, xs, rfl, rfl, hT, q⟩ := h
  cases rx
  obtain ⟨t, rfl⟩ := ry
  obtain ⟨its, r, ⟨⟨cls, dd, data, sl⟩, ho, hc, n, hd⟩, hs⟩ := I.tuple hT
  simp only at hc hd
  subst hc hd
  exact wpAny_binaryOp_repeat_ref (T := "tuple") (U := "int") (by decide) ⟨_, ho, rfl⟩ (fun s' => typeIs_int s' 1 t) noFill_tuple_mul F.fills_int_mul F.slot_int_rmul repeat_tuple F.slot_int_index.lookup
    (call_meets F.slot_int_rmul (typeIs_int s 1 t) F.entry_int_rmul (F.args_int_rmul_2 _ _) (int_rmul_tuple 1 t l its.toArray n dd sl)
      ⟨ho, rfl, ⟨_, ho, rfl⟩, call_meets F.slot_tuple_mul ⟨_, ho, rfl⟩ F.entry_tuple_mul (F.args_tuple_mul_2 _ _) (tuple_once l its.toArray n dd sl t) ⟨ho, ⟨.ref l, H, I, rfl, q⟩⟩⟩)
def mulTH (x y : D) : Option D := match x, y with
  | .tuple xs, .int i => if (xs ≠ [] ∧ xs.length ≤ 1000) ∧ 1 ≤ i ∧ i ≤ 1000 then some (.tuple (repL xs i.toNat)) else none
  | _, _ => none
theorem opD_mulT : OpR X (binaryOp .Mult) (rD X.K mulTH) := opr_weak (op_repO.or op_repT) fun x y H Q ⟨G, d, e, r, sg, rd, re, h, q⟩ => by
  cases rd with
  | @tup pa va da h1 z1 r1 =>
    cases re with
    | int j =>
      unfold mulTH at h
      simp only at h
      obtain ⟨⟨⟨a1, a2⟩, a3, a4⟩, rfl⟩ := ite_some h
      have l1 := r1.length
      by_cases e1 : j = 1
      · subst e1
        refine .inl ⟨pa, va, rfl, rfl, sqT_same sg h1, q _ G H (Ext.refl sg) ?_⟩
        have : repL da (1 : Int).toNat = da := by simp [repL]
        rw [this]
        exact .tup h1 z1 r1
      · have b : j.toNat * va.length ≤ 1000 * 1000 := Nat.mul_le_mul (by omega) (by omega)
        refine .inr ⟨pa, j, va, rfl, rfl, sqT_same sg h1, fun e => a1 ?_, by omega, a4, by omega, fun p hp => ?_⟩
        · subst e; cases r1; rfl
        · have x2 := Ext.new sg hp (.tup (List.replicate j.toNat va).flatten)
          have rr := r1.rep j.toNat
          have hz : (List.replicate j.toNat va).flatten.length ≤ sizeLine := by
            rw [rr.length]
            have := rep_len da j.toNat
            unfold repL at this
            rw [this, ← l1]
            exact Nat.le_trans b (by rw [sizeLine_eq]; decide)
          exact q _ _ _ x2 (.tup (SqT.of upd_same) hz (rr.same x2.gg))
    | _ => cases h
  | _ => cases h
end
/-! ## texts as data -/
def isTupD : D → Bool
  | .tuple _ => true
  | _ => false
def strH (d : D) : Option D := if (((kD d).isSome = true ∧ d.showable = true) ∧ (d.hasDict = false ∧ d.depth ≤ 60)) ∧ ((d.shown.length ≤ 1000000 ∧ PyData.strOk d.shown = true) ∧ isTupD d = true) then some (.str d.shown) else none
def addSH (x y : D) : Option D := match x, y with
  | .str i, .str j => if i.length + j.length ≤ 10000000 then some (.str (i ++ j)) else none
  | _, _ => none
def inSH (x y : D) : Option Bool := match x, y with
  | .str i, .str j => some (!(Builtin.Str.occurrences j i 0 j.length 1).isEmpty)
  | _, _ => none
section
variable {X : Cx}
theorem cr_str (hg : X.A.guards = some []) (hu : X.A.units + 64 < cLine) : CallR X (.type "str") (rB X.K strH) := callr_weak (call_strT hg hu) fun xs H Q ⟨G, v, d, r, e1, sg, rd, h, q⟩ => by
  obtain ⟨⟨⟨⟨a1, a2⟩, a3, a4⟩, ⟨a5, a6⟩, a7⟩, rfl⟩ := ite_some h
  obtain ⟨k, hk⟩ := Option.isSome_iff_exists.mp a1
  cases rd with
  | @tup pa va da hq z rv => exact ⟨pa, _, k, e1, (Rp.tup hq z rv).same sg, hk, a2, a3, a4, by rw [sizeLine_eq]; omega, q _ G H (Ext.refl sg) (.str _ a6)⟩
  | _ => cases a7
theorem opD_addS : OpR X (binaryOp .Add) (rD X.K addSH) := opr_weak op_add_str fun x y H Q ⟨G, d, e, r, sg, rd, re, h, q⟩ => by
  cases rd with
  | str i hi =>
    cases re with
    | str j hj =>
      obtain ⟨z, rfl⟩ := ite_some h
      exact ⟨i, j, rfl, rfl, by rw [sizeLine_eq]; omega, q _ G H (Ext.refl sg) (.str _ (okS_iff.mp (okS_app (okS_iff.mpr hi) (okS_iff.mpr hj))))⟩
    | _ => cases h
  | _ => cases h
theorem opD_inS : OpR X (compareOp .In) (rDB X.K inSH) := opr_weak op_in_str fun x y H Q ⟨G, d, e, r, sg, rd, re, h, q⟩ => by
  cases rd with
  | str i hi =>
    cases re with
    | str j hj => cases h; exact ⟨i, j, rfl, rfl, q⟩
    | _ => cases h
  | _ => cases h
end
/-- str of a plan -/
theorem strH_enc {d : Nat} {t : Tm} (h : vP d t = true) (hd : d ≤ 8) (hz : Tm.sz t ≤ 1000) : strH (enc t) = some (.str (enc t).shown) := by
  have x := enc_tx d t h
  have hl := PyData.shown_le 13 (by decide) (enc t) (PyData.leavesShort_of_canLay0 13 _ x.ly x.ln)
  have hw := x.wt
  have hp := x.dp
  refine if_pos ⟨⟨⟨by rw [kD_enc]; rfl, x.sh⟩, PyData.hasDict_of_canLay _ x.ly, by omega⟩, ⟨?_, okS_iff.mp x.ok⟩, ?_⟩
  · have : (13 + 2) * (enc t).weight ≤ 15 * 30000 := Nat.mul_le_mul (by omega) (by omega)
    omega
  · cases t <;> rfl
end LT
/-! # Lf -/
namespace LT
open PySem PySem.Spec PyProof.Rows L2
/-! ## law: its pure statements -/
abbrev N_law : List Str := ["_law_script", "_law_row", "_law_ticks", "_law_names", "_law_one", "_law_other", "_law_plain", "_law_kind", "_law_race_here", "_law_limit", "_law_line", "_law_here", "_law_ended", "_law_said", "_law_label", "_law_piece", "_law_own", "_law_word", "_law_at", "_law_gone", "_law_bare", "_law_late"]
theorem sc_law : FnScope N_law ["_law_script"] (defScope slaw) := ⟨rfl, rfl, rfl, by decide +kernel, rfl, by decide +kernel, by decide +kernel⟩
theorem N_law_nd : N_law.Nodup := sc_law.nd
def lw (i : Nat) : Stmt := (defBody slaw).getD i (.Pass ⟨0, 0, 0, 0⟩)
/-- the body of the if behind the race -/
def lwIf : List Stmt := match lw 10 with
  | .If _ a _ _ => a
  | _ => []
def lwI (i : Nat) : Stmt := lwIf.getD i (.Pass ⟨0, 0, 0, 0⟩)
def lwFor : List Stmt := match lwI 1 with
  | .For _ _ a _ _ => a
  | _ => []
def lwF (i : Nat) : Stmt := lwFor.getD i (.Pass ⟨0, 0, 0, 0⟩)
def lawSc : Scope := match lwF 0 with
  | .Assign _ (.Call _ (.ListComp _ _ sc _ :: _) _ _) _ => sc
  | _ => defScope slaw
abbrev LX (P : Program) (w : World) (K : KF) (mg : Str → Option Value) (base : Heap) (f : Addr) (cdv : Value) (A : Around) (outer : List Env) (s : Shared) (H : Hp) (E : XK) : Cx := (cxOf CX0 P w K mg base N_law "law" (defScope slaw) f cdv A outer s H E).nox
section
variable {P : Program} {w : World} {K : KF} {mg : Str → Option Value} {base : Heap} {n : Nat} {c : Fns} {f : Addr} {cdv : Value} {A : Around} {outer : List Env} {s : Shared} {H : Hp} {E : XK}
def g_w4 (c : Fns) : FS := (sIf (cmpB (intH fun i j => decide (j < i)) (bin2 addH (cB lenH (cCall 1 (c .fLleaves) (cCons (cV 4) cNil))) (cB lenH (cCall 1 (c .fLleaves) (cCons (cV 5) cNil)))) (cK (.int 12))) (sRet (cK (.bool true))) sNil)
theorem ok_w4 (T : Txt K mg) (C : ∀ i, FokP P w K mg base n (Fn.nm i) (Fn.ps i) (c i)) (hr : Room n (LX P w K mg base f cdv A outer s H E).A) (hg : (LX P w K mg base f cdv A outer s H E).A.guards = some []) : SF (LX P w K mg base f cdv A outer s H E) (lw 4) (g_w4 c) := by
  have hu := hr.units
  have hu5 := room65 hr
  exact (sf_if (pb_cmp opD_gt (pf_bin opD_add (pf_cb cr_len (by rfl) T.z_len (by decide +kernel) (pf_call (C .fLleaves) hr (by rfl) (pl_cons (pf_var (pv 4)) pl_nil))) (pf_cb cr_len (by rfl) T.z_len (by decide +kernel) (pf_call (C .fLleaves) hr (by rfl) (pl_cons (pf_var (pv 5)) pl_nil)))) pf_int (nomark _)) (sf_one (sf_ret pf_bl)) sf_nil)
def g_w5 (c : Fns) : FS := (sSet 6 (cmp2 eqH (cLc (itL (cLst (cCons (cK (.str "last")) (cCons (cK (.str "shield")) cNil)))) (bdN 7) (cmpB inSH (cV 7) (bin2 addSH (cB strH (cV 4)) (cB strH (cV 5)))) (cV 7) [7]) (cLst cNil)))
theorem ok_w5 (T : Txt K mg) (C : ∀ i, FokP P w K mg base n (Fn.nm i) (Fn.ps i) (c i)) (hr : Room n (LX P w K mg base f cdv A outer s H E).A) (hg : (LX P w K mg base f cdv A outer s H E).A.guards = some []) : SF (LX P w K mg base f cdv A outer s H E) (lw 5) (g_w5 c) := by
  have hu := hr.units
  have hu5 := room65 hr
  exact (sf_set (i := 6) N_law_nd (by rfl) (by first | exact Or.inl rfl | exact Or.inr rfl) (pf_cmp (opD_eq hu) (pf_lc (by rfl) N_law_nd (tg_name 7) (by decide) (pfi_list (pf_lst (pl_cons pf_str (pl_cons pf_str pl_nil)))) (blkOk_by (own := [("_law_kind", 7)]) (N := N_law) (sc := defScope slaw) (by decide +kernel)) (fun _ _ _ _ _ => (pg_name (i := 7) N_law_nd (by rfl) (by first | exact Or.inl rfl | exact Or.inr rfl))) (fun _ _ _ _ _ => (pts_one (pb_cmp opD_inS (pf_var (pv 7)) (pf_bin opD_addS (pf_ct (cr_str hg hu) (by rfl) T.z_str (by decide +kernel) (pf_var (pv 4))) (pf_ct (cr_str hg hu) (by rfl) T.z_str (by decide +kernel) (pf_var (pv 5)))) (by rfl)))) (fun _ _ _ _ _ => (pf_var (pv 7)))) (pf_lst pl_nil) (nomark _)))
def g_w6 (c : Fns) : FS := (sPar 8 9 (cCons (cTup (cCons (cK (.str "first")) (cCons (cV 4) (cCons (cV 5) cNil)))) (cCons (cTup (cCons (cK (.str "within")) (cCons (cV 2) (cCons (cTup (cCons (cK (.str "both")) (cCons (cV 4) (cCons (cV 5) cNil)))) cNil)))) cNil)))
theorem ok_w6 (T : Txt K mg) (C : ∀ i, FokP P w K mg base n (Fn.nm i) (Fn.ps i) (c i)) (hr : Room n (LX P w K mg base f cdv A outer s H E).A) (hg : (LX P w K mg base f cdv A outer s H E).A.guards = some []) : SF (LX P w K mg base f cdv A outer s H E) (lw 6) (g_w6 c) := by
  have hu := hr.units
  have hu5 := room65 hr
  exact (sf_par (i := 8) (j := 9) (ps_par (by rfl) N_law_nd (by rfl) (by rfl) (by decide) (by rfl) (by rfl) (pl_cons (pf_tup (pl_cons pf_str (pl_cons (pf_var (pv 4)) (pl_cons (pf_var (pv 5)) pl_nil)))) (pl_cons (pf_tup (pl_cons pf_str (pl_cons (pf_var (pv 2)) (pl_cons (pf_tup (pl_cons pf_str (pl_cons (pf_var (pv 4)) (pl_cons (pf_var (pv 5)) pl_nil)))) pl_nil)))) pl_nil)) (by rfl)))
def g_w9 (c : Fns) : FS := (sIf (bOr (cmpB eqH (cCall 2 (c .fstandings) (cCons (cV 8) (cCons (cV 10) cNil))) (cLst cNil)) (cmpB niH (cV 11) (cCall 2 (c .fstandings) (cCons (cV 8) (cCons (cV 10) cNil))))) (sRet (cK (.bool false))) sNil)
theorem ok_w9 (T : Txt K mg) (C : ∀ i, FokP P w K mg base n (Fn.nm i) (Fn.ps i) (c i)) (hr : Room n (LX P w K mg base f cdv A outer s H E).A) (hg : (LX P w K mg base f cdv A outer s H E).A.guards = some []) : SF (LX P w K mg base f cdv A outer s H E) (lw 9) (g_w9 c) := by
  have hu := hr.units
  have hu5 := room65 hr
  exact (sf_if (pb_w (pwb_or (pb_cmp (opD_eq hu) (pf_call (C .fstandings) hr (by rfl) (pl_cons (pf_var (pv 8)) (pl_cons (pf_var (pv 10)) pl_nil))) (pf_lst pl_nil) (nomark _)) (pwb_or1 (pb_cmp (opD_ni hu5) (pf_var (pv 11)) (pf_call (C .fstandings) hr (by rfl) (pl_cons (pf_var (pv 8)) (pl_cons (pf_var (pv 10)) pl_nil))) (by rfl))))) (sf_one (sf_ret pf_bl)) sf_nil)
def g_i0 (c : Fns) : FS := (sSet 13 (cLc (itT (cV 10)) (bdN 14) (cmpB eqH (bin2 atH (cV 14) (cK (.int 0))) (cK (.str "say"))) (cV 14) [14]))
theorem ok_i0 (T : Txt K mg) (C : ∀ i, FokP P w K mg base n (Fn.nm i) (Fn.ps i) (c i)) (hr : Room n (LX P w K mg base f cdv A outer s H E).A) (hg : (LX P w K mg base f cdv A outer s H E).A.guards = some []) : SF (LX P w K mg base f cdv A outer s H E) (lwI 0) (g_i0 c) := by
  have hu := hr.units
  have hu5 := room65 hr
  exact (sf_setLc (i := 13) (by rfl) N_law_nd (tg_name 14) (by decide) (by rfl) (by rfl) (sw_true (by rfl) (by rfl) (by rfl) (by decide +kernel)) (pfi_tup (pf_var (pv 10))) (blkOk_by (own := [("_law_label", 14)]) (N := N_law) (sc := defScope slaw) (by decide +kernel)) (fun _ _ _ _ _ => (pg_name (i := 14) N_law_nd (by rfl) (by first | exact Or.inl rfl | exact Or.inr rfl))) (fun _ _ _ _ _ => (pts_one (pb_cmp (opD_eq hu) (pf_ix (pf_var (pv 14)) pf_int) pf_str (nomark _)))) (fun _ _ _ _ _ => (pf_var (pv 14))))
def g_i3 (c : Fns) : FS := (sIf (cmpB (intH fun i j => decide (j < i)) (cB lenH (cV 13)) (bin2 addH (cB lenH (cCall 1 (c .fLspoken) (cCons (cV 4) cNil))) (cB lenH (cCall 1 (c .fLspoken) (cCons (cV 5) cNil))))) (sRet (cK (.bool false))) sNil)
theorem ok_i3 (T : Txt K mg) (C : ∀ i, FokP P w K mg base n (Fn.nm i) (Fn.ps i) (c i)) (hr : Room n (LX P w K mg base f cdv A outer s H E).A) (hg : (LX P w K mg base f cdv A outer s H E).A.guards = some []) : SF (LX P w K mg base f cdv A outer s H E) (lwI 3) (g_i3 c) := by
  have hu := hr.units
  have hu5 := room65 hr
  exact (sf_if (pb_cmp opD_gt (pf_cb cr_len (by rfl) T.z_len (by decide +kernel) (pf_var (pv 13))) (pf_bin opD_add (pf_cb cr_len (by rfl) T.z_len (by decide +kernel) (pf_call (C .fLspoken) hr (by rfl) (pl_cons (pf_var (pv 4)) pl_nil))) (pf_cb cr_len (by rfl) T.z_len (by decide +kernel) (pf_call (C .fLspoken) hr (by rfl) (pl_cons (pf_var (pv 5)) pl_nil)))) (nomark _)) (sf_one (sf_ret pf_bl)) sf_nil)
def g_f0 (c : Fns) : FS := (sSet 16 (cB tupleH (cLc (itT (cV 10)) (bdN 14) (bOr (cmpB inH (bin2 atH (cV 14) (cK (.int 0))) (cLst (cCons (cK (.str "come")) (cCons (cK (.str "tick")) (cCons (cK (.str "take")) cNil))))) (cmpB inH (cV 14) (cLc (itL (cCall 1 (c .fLspoken) (cCons (cV 15) cNil))) (bdN 17) bYes (cTup (cCons (cK (.str "say")) (cCons (cV 17) cNil))) [17]))) (cV 14) [14])))
theorem ok_f0 (T : Txt K mg) (C : ∀ i, FokP P w K mg base n (Fn.nm i) (Fn.ps i) (c i)) (hr : Room n (LX P w K mg base f cdv A outer s H E).A) (hg : (LX P w K mg base f cdv A outer s H E).A.guards = some []) : SF (LX P w K mg base f cdv A outer s H E) (lwF 0) (g_f0 c) := by
  have hu := hr.units
  have hu5 := room65 hr
  exact (sf_set (i := 16) N_law_nd (by rfl) (by first | exact Or.inl rfl | exact Or.inr rfl) (pf_ct cr_tuple (by rfl) T.z_tuple (by decide +kernel) (pf_lc (by rfl) N_law_nd (tg_name 14) (by decide) (pfi_tup (pf_var (pv 10))) (blkOk_by (own := [("_law_label", 14)]) (N := N_law) (sc := defScope slaw) (by decide +kernel)) (fun _ _ _ _ _ => (pg_name (i := 14) N_law_nd (by rfl) (by first | exact Or.inl rfl | exact Or.inr rfl))) (fun _ _ _ _ _ => (pts_one (pb_w (pwb_or (pb_cmp (opD_in hu5) (pf_ix (pf_var (pv 14)) pf_int) (pf_lst (pl_cons pf_str (pl_cons pf_str (pl_cons pf_str pl_nil)))) (by rfl)) (pwb_or1 (pb_cmp (opD_in hu5) (pf_var (pv 14)) (pf_lc (by rfl) N_law_nd (tg_name 17) (by decide) (pfi_list (pf_call (C .fLspoken) hr (by rfl) (pl_cons (pf_var (pv 15)) pl_nil))) (blkOk_by (own := [("_law_word", 17)]) (N := N_law) (sc := relS lawSc (defScope slaw)) (by decide +kernel)) (fun _ _ _ _ _ => (pg_name (i := 17) N_law_nd (by rfl) (by first | exact Or.inl rfl | exact Or.inr rfl))) (fun _ _ _ _ _ => pts_yes) (fun _ _ _ _ _ => (pf_tup (pl_cons pf_str (pl_cons (pf_var (pv 17)) pl_nil))))) (by rfl))))))) (fun _ _ _ _ _ => (pf_var (pv 14))))))
def g_w12 (c : Fns) : FS := (sSet 19 (cLc (itR1 (cB lenH (cV 10))) (bdN 18) (cmpB eqH (bin2 atH (bin2 atH (cV 10) (cV 18)) (cK (.int 0))) (cK (.str "tick"))) (cV 18) [18]))
theorem ok_w12 (T : Txt K mg) (C : ∀ i, FokP P w K mg base n (Fn.nm i) (Fn.ps i) (c i)) (hr : Room n (LX P w K mg base f cdv A outer s H E).A) (hg : (LX P w K mg base f cdv A outer s H E).A.guards = some []) : SF (LX P w K mg base f cdv A outer s H E) (lw 12) (g_w12 c) := by
  have hu := hr.units
  have hu5 := room65 hr
  exact (sf_setLc (i := 19) (by rfl) N_law_nd (tg_name 18) (by decide) (by rfl) (by rfl) (sw_true (by rfl) (by rfl) (by rfl) (by decide +kernel)) (pfi_range1 (by rfl) T.z_range (pf_cb cr_len (by rfl) T.z_len (by decide +kernel) (pf_var (pv 10)))) (blkOk_by (own := [("_law_at", 18)]) (N := N_law) (sc := defScope slaw) (by decide +kernel)) (fun _ _ _ _ _ => (pg_name (i := 18) N_law_nd (by rfl) (by first | exact Or.inl rfl | exact Or.inr rfl))) (fun _ _ _ _ _ => (pts_one (pb_cmp (opD_eq hu) (pf_ix (pf_ix (pf_var (pv 10)) (pf_var (pv 18))) pf_int) pf_str (nomark _)))) (fun _ _ _ _ _ => (pf_var (pv 18))))
def g_w13 (c : Fns) : FS := (sIf (bAnd (bV (cV 6)) (bAnd (cmpB (intH fun i j => decide (j ≤ i)) (cB lenH (cV 19)) (cV 2)) (cmpB neH (bin2 atH (cV 11) (cK (.int 0))) (cTup (cCons (cK (.str "rest")) cNil))))) (sRet (cK (.bool false))) sNil)
theorem ok_w13 (T : Txt K mg) (C : ∀ i, FokP P w K mg base n (Fn.nm i) (Fn.ps i) (c i)) (hr : Room n (LX P w K mg base f cdv A outer s H E).A) (hg : (LX P w K mg base f cdv A outer s H E).A.guards = some []) : SF (LX P w K mg base f cdv A outer s H E) (lw 13) (g_w13 c) := by
  have hu := hr.units
  have hu5 := room65 hr
  exact (sf_if (pb_w (pwb_and (pb_val (pf_var (pv 6))) (pwb_and (pb_cmp opD_ge (pf_cb cr_len (by rfl) T.z_len (by decide +kernel) (pf_var (pv 19))) (pf_var (pv 2)) (nomark _)) (pwb_and1 (pb_cmp (opD_ne hu) (pf_ix (pf_var (pv 11)) pf_int) (pf_tup (pl_cons pf_str pl_nil)) (nomark _)))))) (sf_one (sf_ret pf_bl)) sf_nil)
def g_w14 (c : Fns) : FS := (sIf (bAnd (bV (cV 6)) (bAnd (cmpB (intH fun i j => decide (j ≤ i)) (cB lenH (cV 19)) (cV 2)) (cmpB neH (cLc (itT (cSl (cV 10) (cPt (bin2 addH (bin2 atH (cV 19) (bin2 subH (cV 2) (cK (.int 1)))) (cK (.int 1)))) cNo)) (bdN 14) bYes (cV 14) [14]) (cLst cNil)))) (sRet (cK (.bool false))) sNil)
theorem ok_w14 (T : Txt K mg) (C : ∀ i, FokP P w K mg base n (Fn.nm i) (Fn.ps i) (c i)) (hr : Room n (LX P w K mg base f cdv A outer s H E).A) (hg : (LX P w K mg base f cdv A outer s H E).A.guards = some []) : SF (LX P w K mg base f cdv A outer s H E) (lw 14) (g_w14 c) := by
  have hu := hr.units
  have hu5 := room65 hr
  exact (sf_if (pb_w (pwb_and (pb_val (pf_var (pv 6))) (pwb_and (pb_cmp opD_ge (pf_cb cr_len (by rfl) T.z_len (by decide +kernel) (pf_var (pv 19))) (pf_var (pv 2)) (nomark _)) (pwb_and1 (pb_cmp (opD_ne hu) (pf_lc (by rfl) N_law_nd (tg_name 14) (by decide) (pfi_tup (pf_slice (pf_var (pv 10)) (pfo_some (pf_bin opD_add (pf_ix (pf_var (pv 19)) (pf_bin opD_sub (pf_var (pv 2)) pf_int)) pf_int)) pfo_none)) (blkOk_by (own := [("_law_label", 14)]) (N := N_law) (sc := defScope slaw) (by decide +kernel)) (fun _ _ _ _ _ => (pg_name (i := 14) N_law_nd (by rfl) (by first | exact Or.inl rfl | exact Or.inr rfl))) (fun _ _ _ _ _ => pts_yes) (fun _ _ _ _ _ => (pf_var (pv 14)))) (pf_lst pl_nil) (nomark _)))))) (sf_one (sf_ret pf_bl)) sf_nil)
def g_w15 (c : Fns) : FS := (sIf (bAnd (cmpB (intH fun i j => decide (i < j)) (cB lenH (cV 19)) (cV 2)) (cmpB neH (cCall 2 (c .fisrun) (cCons (cTup (cCons (cK (.str "both")) (cCons (cV 4) (cCons (cV 5) cNil)))) (cCons (cV 10) cNil))) (cCall 2 (c .fisrun) (cCons (cV 9) (cCons (cV 10) cNil))))) (sRet (cK (.bool false))) sNil)
theorem ok_w15 (T : Txt K mg) (C : ∀ i, FokP P w K mg base n (Fn.nm i) (Fn.ps i) (c i)) (hr : Room n (LX P w K mg base f cdv A outer s H E).A) (hg : (LX P w K mg base f cdv A outer s H E).A.guards = some []) : SF (LX P w K mg base f cdv A outer s H E) (lw 15) (g_w15 c) := by
  have hu := hr.units
  have hu5 := room65 hr
  exact (sf_if (pb_w (pwb_and (pb_cmp opD_lt (pf_cb cr_len (by rfl) T.z_len (by decide +kernel) (pf_var (pv 19))) (pf_var (pv 2)) (nomark _)) (pwb_and1 (pb_cmp (opD_ne hu) (pf_call (C .fisrun) hr (by rfl) (pl_cons (pf_tup (pl_cons pf_str (pl_cons (pf_var (pv 4)) (pl_cons (pf_var (pv 5)) pl_nil)))) (pl_cons (pf_var (pv 10)) pl_nil))) (pf_call (C .fisrun) hr (by rfl) (pl_cons (pf_var (pv 9)) (pl_cons (pf_var (pv 10)) pl_nil))) (nomark _))))) (sf_one (sf_ret pf_bl)) sf_nil)
def g_w16 (c : Fns) : FS := (sIf (bAnd (cmpB (intH fun i j => decide (i < j)) (cB lenH (cV 19)) (cV 2)) (cmpB neH (cCall 2 (c .fiswhole) (cCons (cTup (cCons (cK (.str "both")) (cCons (cV 4) (cCons (cV 5) cNil)))) (cCons (cV 10) cNil))) (cCall 2 (c .fiswhole) (cCons (cV 9) (cCons (cV 10) cNil))))) (sRet (cK (.bool false))) sNil)
theorem ok_w16 (T : Txt K mg) (C : ∀ i, FokP P w K mg base n (Fn.nm i) (Fn.ps i) (c i)) (hr : Room n (LX P w K mg base f cdv A outer s H E).A) (hg : (LX P w K mg base f cdv A outer s H E).A.guards = some []) : SF (LX P w K mg base f cdv A outer s H E) (lw 16) (g_w16 c) := by
  have hu := hr.units
  have hu5 := room65 hr
  exact (sf_if (pb_w (pwb_and (pb_cmp opD_lt (pf_cb cr_len (by rfl) T.z_len (by decide +kernel) (pf_var (pv 19))) (pf_var (pv 2)) (nomark _)) (pwb_and1 (pb_cmp (opD_ne hu) (pf_call (C .fiswhole) hr (by rfl) (pl_cons (pf_tup (pl_cons pf_str (pl_cons (pf_var (pv 4)) (pl_cons (pf_var (pv 5)) pl_nil)))) (pl_cons (pf_var (pv 10)) pl_nil))) (pf_call (C .fiswhole) hr (by rfl) (pl_cons (pf_var (pv 9)) (pl_cons (pf_var (pv 10)) pl_nil))) (nomark _))))) (sf_one (sf_ret pf_bl)) sf_nil)
def g_w17 (c : Fns) : FS := (sSet 20 (cTup (cCons (cK (.str "within")) (cCons (cV 2) (cCons (cTup (cCons (cK (.str "wait")) (cCons (cK (.int 3)) cNil))) cNil)))))
theorem ok_w17 (T : Txt K mg) (C : ∀ i, FokP P w K mg base n (Fn.nm i) (Fn.ps i) (c i)) (hr : Room n (LX P w K mg base f cdv A outer s H E).A) (hg : (LX P w K mg base f cdv A outer s H E).A.guards = some []) : SF (LX P w K mg base f cdv A outer s H E) (lw 17) (g_w17 c) := by
  have hu := hr.units
  have hu5 := room65 hr
  exact (sf_set (i := 20) N_law_nd (by rfl) (by first | exact Or.inl rfl | exact Or.inr rfl) (pf_tup (pl_cons pf_str (pl_cons (pf_var (pv 2)) (pl_cons (pf_tup (pl_cons pf_str (pl_cons pf_int pl_nil))) pl_nil)))))
def g_w18 (c : Fns) : FS := (sIf (bOr (bNot (bV (cCall 2 (c .fisrun) (cCons (cV 20) (cCons (bin2 mulTH (cTup (cCons (cTup (cCons (cK (.str "tick")) (cCons (cK (.int 0)) cNil))) cNil)) (cV 2)) cNil))))) (bV (cCall 2 (c .fisrun) (cCons (cV 20) (cCons (bin2 mulTH (cTup (cCons (cTup (cCons (cK (.str "tick")) (cCons (cK (.int 0)) cNil))) cNil)) (bin2 addH (cV 2) (cK (.int 1)))) cNil))))) (sRet (cK (.bool false))) sNil)
theorem ok_w18 (T : Txt K mg) (C : ∀ i, FokP P w K mg base n (Fn.nm i) (Fn.ps i) (c i)) (hr : Room n (LX P w K mg base f cdv A outer s H E).A) (hg : (LX P w K mg base f cdv A outer s H E).A.guards = some []) : SF (LX P w K mg base f cdv A outer s H E) (lw 18) (g_w18 c) := by
  have hu := hr.units
  have hu5 := room65 hr
  exact (sf_if (pb_w (pwb_or (pb_not (pb_val (pf_call (C .fisrun) hr (by rfl) (pl_cons (pf_var (pv 20)) (pl_cons (pf_bin opD_mulT (pf_tup (pl_cons (pf_tup (pl_cons pf_str (pl_cons pf_int pl_nil))) pl_nil)) (pf_var (pv 2))) pl_nil))))) (pwb_or1 (pb_val (pf_call (C .fisrun) hr (by rfl) (pl_cons (pf_var (pv 20)) (pl_cons (pf_bin opD_mulT (pf_tup (pl_cons (pf_tup (pl_cons pf_str (pl_cons pf_int pl_nil))) pl_nil)) (pf_bin opD_add (pf_var (pv 2)) pf_int)) pl_nil))))))) (sf_one (sf_ret pf_bl)) sf_nil)
def g_w19 (c : Fns) : FS := (sIf (bNot (bV (cCall 2 (c .fiswhole) (cCons (cV 20) (cCons (bin2 mulTH (cTup (cCons (cTup (cCons (cK (.str "tick")) (cCons (cK (.int 0)) cNil))) cNil)) (cV 2)) cNil))))) (sRet (cK (.bool false))) sNil)
theorem ok_w19 (T : Txt K mg) (C : ∀ i, FokP P w K mg base n (Fn.nm i) (Fn.ps i) (c i)) (hr : Room n (LX P w K mg base f cdv A outer s H E).A) (hg : (LX P w K mg base f cdv A outer s H E).A.guards = some []) : SF (LX P w K mg base f cdv A outer s H E) (lw 19) (g_w19 c) := by
  have hu := hr.units
  have hu5 := room65 hr
  exact (sf_if (pb_not (pb_val (pf_call (C .fiswhole) hr (by rfl) (pl_cons (pf_var (pv 20)) (pl_cons (pf_bin opD_mulT (pf_tup (pl_cons (pf_tup (pl_cons pf_str (pl_cons pf_int pl_nil))) pl_nil)) (pf_var (pv 2))) pl_nil))))) (sf_one (sf_ret pf_bl)) sf_nil)
def g_w20 (c : Fns) : FS := (sSet 21 (cTup (cCons (cK (.str "last")) (cCons (cV 20) (cCons (cTup (cCons (cK (.str "within")) (cCons (cK (.int 1)) (cCons (cTup (cCons (cK (.str "say")) (cCons (cK (.int 7)) cNil))) cNil)))) cNil)))))
theorem ok_w20 (T : Txt K mg) (C : ∀ i, FokP P w K mg base n (Fn.nm i) (Fn.ps i) (c i)) (hr : Room n (LX P w K mg base f cdv A outer s H E).A) (hg : (LX P w K mg base f cdv A outer s H E).A.guards = some []) : SF (LX P w K mg base f cdv A outer s H E) (lw 20) (g_w20 c) := by
  have hu := hr.units
  have hu5 := room65 hr
  exact (sf_set (i := 21) N_law_nd (by rfl) (by first | exact Or.inl rfl | exact Or.inr rfl) (pf_tup (pl_cons pf_str (pl_cons (pf_var (pv 20)) (pl_cons (pf_tup (pl_cons pf_str (pl_cons pf_int (pl_cons (pf_tup (pl_cons pf_str (pl_cons pf_int pl_nil))) pl_nil)))) pl_nil)))))
def g_w21 (c : Fns) : FS := (sIf (bNot (bV (cCall 2 (c .fiswhole) (cCons (cV 21) (cCons (bin2 mulTH (cTup (cCons (cTup (cCons (cK (.str "tick")) (cCons (cK (.int 0)) cNil))) cNil)) (bin2 addH (cV 2) (cK (.int 1)))) cNil))))) (sRet (cK (.bool false))) sNil)
theorem ok_w21 (T : Txt K mg) (C : ∀ i, FokP P w K mg base n (Fn.nm i) (Fn.ps i) (c i)) (hr : Room n (LX P w K mg base f cdv A outer s H E).A) (hg : (LX P w K mg base f cdv A outer s H E).A.guards = some []) : SF (LX P w K mg base f cdv A outer s H E) (lw 21) (g_w21 c) := by
  have hu := hr.units
  have hu5 := room65 hr
  exact (sf_if (pb_not (pb_val (pf_call (C .fiswhole) hr (by rfl) (pl_cons (pf_var (pv 21)) (pl_cons (pf_bin opD_mulT (pf_tup (pl_cons (pf_tup (pl_cons pf_str (pl_cons pf_int pl_nil))) pl_nil)) (pf_bin opD_add (pf_var (pv 2)) pf_int)) pl_nil))))) (sf_one (sf_ret pf_bl)) sf_nil)
def g_w22 (c : Fns) : FS := (sIf (cmpB neH (cCall 2 (c .ffirstwrong) (cCons (cV 21) (cCons (bin2 addH (bin2 mulTH (cTup (cCons (cTup (cCons (cK (.str "tick")) (cCons (cK (.int 0)) cNil))) cNil)) (cV 2)) (cTup (cCons (cTup (cCons (cK (.str "say")) (cCons (cK (.int 7)) cNil))) (cCons (cTup (cCons (cK (.str "say")) (cCons (cK (.int 7)) cNil))) cNil)))) cNil))) (bin2 addH (cV 2) (cK (.int 1)))) (sRet (cK (.bool false))) sNil)
theorem ok_w22 (T : Txt K mg) (C : ∀ i, FokP P w K mg base n (Fn.nm i) (Fn.ps i) (c i)) (hr : Room n (LX P w K mg base f cdv A outer s H E).A) (hg : (LX P w K mg base f cdv A outer s H E).A.guards = some []) : SF (LX P w K mg base f cdv A outer s H E) (lw 22) (g_w22 c) := by
  have hu := hr.units
  have hu5 := room65 hr
  exact (sf_if (pb_cmp (opD_ne hu) (pf_call (C .ffirstwrong) hr (by rfl) (pl_cons (pf_var (pv 21)) (pl_cons (pf_bin opD_add (pf_bin opD_mulT (pf_tup (pl_cons (pf_tup (pl_cons pf_str (pl_cons pf_int pl_nil))) pl_nil)) (pf_var (pv 2))) (pf_tup (pl_cons (pf_tup (pl_cons pf_str (pl_cons pf_int pl_nil))) (pl_cons (pf_tup (pl_cons pf_str (pl_cons pf_int pl_nil))) pl_nil)))) pl_nil))) (pf_bin opD_add (pf_var (pv 2)) pf_int) (nomark _)) (sf_one (sf_ret pf_bl)) sf_nil)
def g_w23 (c : Fns) : FS := (sIf (bNot (cmpB inH (cTup (cCons (cK (.str "say")) (cCons (cK (.int 7)) cNil))) (cCall 2 (c .fnextlabels) (cCons (cV 21) (cCons (bin2 mulTH (cTup (cCons (cTup (cCons (cK (.str "tick")) (cCons (cK (.int 0)) cNil))) cNil)) (cV 2)) cNil))))) (sRet (cK (.bool false))) sNil)
theorem ok_w23 (T : Txt K mg) (C : ∀ i, FokP P w K mg base n (Fn.nm i) (Fn.ps i) (c i)) (hr : Room n (LX P w K mg base f cdv A outer s H E).A) (hg : (LX P w K mg base f cdv A outer s H E).A.guards = some []) : SF (LX P w K mg base f cdv A outer s H E) (lw 23) (g_w23 c) := by
  have hu := hr.units
  have hu5 := room65 hr
  exact (sf_if (pb_not (pb_cmp (opD_in hu5) (pf_tup (pl_cons pf_str (pl_cons pf_int pl_nil))) (pf_call (C .fnextlabels) hr (by rfl) (pl_cons (pf_var (pv 21)) (pl_cons (pf_bin opD_mulT (pf_tup (pl_cons (pf_tup (pl_cons pf_str (pl_cons pf_int pl_nil))) pl_nil)) (pf_var (pv 2))) pl_nil))) (by rfl))) (sf_one (sf_ret pf_bl)) sf_nil)
def g_w24 (c : Fns) : FS := (sRet (cmp2 eqH (cCall 2 (c .fnextlabels) (cCons (cV 21) (cCons (bin2 mulTH (cTup (cCons (cTup (cCons (cK (.str "tick")) (cCons (cK (.int 0)) cNil))) cNil)) (bin2 addH (cV 2) (cK (.int 1)))) cNil))) (cTup cNil)))
theorem ok_w24 (T : Txt K mg) (C : ∀ i, FokP P w K mg base n (Fn.nm i) (Fn.ps i) (c i)) (hr : Room n (LX P w K mg base f cdv A outer s H E).A) (hg : (LX P w K mg base f cdv A outer s H E).A.guards = some []) : SF (LX P w K mg base f cdv A outer s H E) (lw 24) (g_w24 c) := by
  have hu := hr.units
  have hu5 := room65 hr
  exact (sf_ret (pf_cmp (opD_eq hu) (pf_call (C .fnextlabels) hr (by rfl) (pl_cons (pf_var (pv 21)) (pl_cons (pf_bin opD_mulT (pf_tup (pl_cons (pf_tup (pl_cons pf_str (pl_cons pf_int pl_nil))) pl_nil)) (pf_bin opD_add (pf_var (pv 2)) pf_int)) pl_nil))) (pf_tup pl_nil) (nomark _)))
end
end LT
/-! # Lf2 -/
namespace LT
open PySem PySem.Spec PyProof.Rows L2
/-! ## law: pieces of the if behind the race -/
def ifC : Stmt → Expr
  | .If c _ _ _ => c
  | _ => .Constant .none 0 ⟨0, 0, 0, 0⟩
def ifB : Stmt → List Stmt
  | .If _ b _ _ => b
  | _ => []
def asgV : Stmt → Expr
  | .Assign _ e _ => e
  | _ => .Constant .none 0 ⟨0, 0, 0, 0⟩
def f1V : Expr := asgV ((ifB (lwF 1)).getD 0 (.Pass ⟨0, 0, 0, 0⟩))
section
variable {P : Program} {w : World} {K : KF} {mg : Str → Option Value} {base : Heap} {n : Nat} {c : Fns} {f : Addr} {cdv : Value} {A : Around} {outer : List Env} {s : Shared} {H : Hp} {E : XK}
theorem pb_if (T : Txt K mg) (C : ∀ i, FokP P w K mg base n (Fn.nm i) (Fn.ps i) (c i)) (hr : Room n (LX P w K mg base f cdv A outer s H E).A) : PB (LX P w K mg base f cdv A outer s H E) (ifC (lw 10)) (bAnd (bV (cV 6)) (cmpB eqH (bin2 atH (cV 11) (cK (.int 0))) (cTup (cCons (cK (.str "rest")) cNil)))) := by
  have hu := hr.units
  have hu5 := room65 hr
  exact (pb_w (pwb_and (pb_val (pf_var (pv 6))) (pwb_and1 (pb_cmp (opD_eq hu) (pf_ix (pf_var (pv 11)) pf_int) (pf_tup (pl_cons pf_str pl_nil)) (nomark _)))))
theorem pb_f1 (T : Txt K mg) (C : ∀ i, FokP P w K mg base n (Fn.nm i) (Fn.ps i) (c i)) (hr : Room n (LX P w K mg base f cdv A outer s H E).A) : PB (LX P w K mg base f cdv A outer s H E) (ifC (lwF 1)) (cmpB niH (cK (.str "take")) (cLc (itT (cV 10)) (bdN 14) bYes (bin2 atH (cV 14) (cK (.int 0))) [14])) := by
  have hu := hr.units
  have hu5 := room65 hr
  exact (pb_cmp (opD_ni hu5) pf_str (pf_lc (by rfl) N_law_nd (tg_name 14) (by decide) (pfi_tup (pf_var (pv 10))) (blkOk_by (own := [("_law_label", 14)]) (N := N_law) (sc := defScope slaw) (by decide +kernel)) (fun _ _ _ _ _ => (pg_name (i := 14) N_law_nd (by rfl) (by first | exact Or.inl rfl | exact Or.inr rfl))) (fun _ _ _ _ _ => pts_yes) (fun _ _ _ _ _ => (pf_ix (pf_var (pv 14)) pf_int))) (by rfl))
theorem pf_f1v (T : Txt K mg) (C : ∀ i, FokP P w K mg base n (Fn.nm i) (Fn.ps i) (c i)) (hr : Room n (LX P w K mg base f cdv A outer s H E).A) : PF (LX P w K mg base f cdv A outer s H E) (f1V) (vOr (cCall 2 (c .fiswhole) (cCons (cV 15) (cCons (cV 16) cNil))) (cmp2 neH (cLc (itR1 (cB lenH (cV 16))) (bdN 18) (bV (cCall 2 (c .fiswhole) (cCons (cV 15) (cCons (cSl (cV 16) cNo (cPt (cV 18))) cNil)))) (cV 18) [18]) (cLst cNil))) := by
  have hu := hr.units
  have hu5 := room65 hr
  exact (pf_or (pf_call (C .fiswhole) hr (by rfl) (pl_cons (pf_var (pv 15)) (pl_cons (pf_var (pv 16)) pl_nil))) (pf_one (pf_cmp (opD_ne hu) (pf_lc (by rfl) N_law_nd (tg_name 18) (by decide) (pfi_range1 (by rfl) T.z_range (pf_cb cr_len (by rfl) T.z_len (by decide +kernel) (pf_var (pv 16)))) (blkOk_by (own := [("_law_at", 18)]) (N := N_law) (sc := defScope slaw) (by decide +kernel)) (fun _ _ _ _ _ => (pg_name (i := 18) N_law_nd (by rfl) (by first | exact Or.inl rfl | exact Or.inr rfl))) (fun _ _ _ _ _ => (pts_one (pb_val (pf_call (C .fiswhole) hr (by rfl) (pl_cons (pf_var (pv 15)) (pl_cons (pf_slice (pf_var (pv 16)) pfo_none (pfo_some (pf_var (pv 18)))) pl_nil)))))) (fun _ _ _ _ _ => (pf_var (pv 18)))) (pf_lst pl_nil) (nomark _))))
theorem pt_i2 (T : Txt K mg) (C : ∀ i, FokP P w K mg base n (Fn.nm i) (Fn.ps i) (c i)) (hr : Room n (LX P w K mg base f cdv A outer s H E).A) : PT (LX P w K mg base f cdv A outer s H E) (ifC (lwI 2)) (tAnd (tFB K (cmpB niH (cK (.str "take")) (cLc (itT (cV 10)) (bdN 14) bYes (bin2 atH (cV 14) (cK (.int 0))) [14]))) (tTest (tOp (rDB K eqH) (tLc (tFI K (itT (cTup (cCons (cV 4) (cCons (cV 5) cNil))))) (gName 15) (tB (tGetN (LX P w K mg base f cdv A outer s H E) (tVar 12) (tVar 15))) (tF K (cV 15)) [15]) (tF K (cLst cNil))))) := by
  have hu := hr.units
  have hu5 := room65 hr
  exact (PW.pt (pw_and (pb_cmp (opD_ni hu5) pf_str (pf_lc (by rfl) N_law_nd (tg_name 14) (by decide) (pfi_tup (pf_var (pv 10))) (blkOk_by (own := [("_law_label", 14)]) (N := N_law) (sc := defScope slaw) (by decide +kernel)) (fun _ _ _ _ _ => (pg_name (i := 14) N_law_nd (by rfl) (by first | exact Or.inl rfl | exact Or.inr rfl))) (fun _ _ _ _ _ => pts_yes) (fun _ _ _ _ _ => (pf_ix (pf_var (pv 14)) pf_int))) (by rfl)) (pw_and1 (pt_cmpR (opD_eq hu) (pe_lc (own := [("_law_piece", 15)]) (by rfl) N_law_nd (pfi_tup (pf_tup (pl_cons (pf_var (pv 4)) (pl_cons (pf_var (pv 5)) pl_nil)))) (blkOk_by (own := [("_law_piece", 15)]) (N := N_law) (sc := defScope slaw) (by decide +kernel)) (fun _ _ _ _ _ => (pg_name (i := 15) N_law_nd (by rfl) (by first | exact Or.inl rfl | exact Or.inr rfl))) (fun _ _ _ _ _ => (pts_one (pt_val (pe_getN hu (pv 12) (pv 15) (by intro _ _; rfl))))) (fun _ _ _ _ _ => (pf_var (pv 15)))) (pf_lst pl_nil) (nomark _)))))
end
end LT
/-! # Lp -/
namespace LT
open PySem PySem.Spec PyProof.Rows L2 Tm
/-! ## law's plans -/
theorem vP_succ : ∀ (d : Nat) (t : Tm), vP d t = true → vP (d + 1) t = true
  | 0, t, h => by simp [vP] at h
  | d + 1, t, h => by
    cases t with
    | rest => rfl
    | say w => exact h
    | wait w => exact h
    | thn p ps =>
      rw [vP] at h ⊢
      simp at h ⊢
      exact ⟨h.1, vP_succ d p h.2.1, fun q hq => vP_succ d q (h.2.2 q hq)⟩
    | both ps =>
      rw [vP] at h ⊢
      simp at h ⊢
      exact ⟨h.1, fun q hq => vP_succ d q (h.2 q hq)⟩
    | first ps =>
      rw [vP] at h ⊢
      simp at h ⊢
      exact ⟨h.1, fun q hq => vP_succ d q (h.2 q hq)⟩
    | within k p =>
      rw [vP] at h ⊢
      simp at h ⊢
      exact ⟨h.1, vP_succ d p h.2⟩
    | last p q =>
      rw [vP] at h ⊢
      simp at h ⊢
      exact ⟨vP_succ d p h.1, vP_succ d q h.2⟩
    | shield p =>
      rw [vP] at h ⊢
      exact vP_succ d p h
    | keep p => simp [vP] at h
theorem vP_mono {d e : Nat} {t : Tm} (h : vP d t = true) (l : d ≤ e) : vP e t = true := by
  induction l with
  | refl => exact h
  | step _ ih => exact vP_succ _ t ih
theorem dp_vP : ∀ (d : Nat) (t : Tm), vP d t = true → dp t ≤ d
  | 0, t, h => by simp [vP] at h
  | d + 1, t, h => by
    cases t with
    | rest => simp [dp]
    | say w => simp [dp]
    | wait w => simp [dp]
    | thn p ps =>
      rw [vP] at h
      simp at h
      have h1 := dp_vP d p h.2.1
      have h2 : dps ps ≤ d := dps_le.mpr fun q hq => dp_vP d q (h.2.2 q hq)
      simp only [dp]
      omega
    | both ps =>
      rw [vP] at h
      simp at h
      have h2 : dps ps ≤ d := dps_le.mpr fun q hq => dp_vP d q (h.2 q hq)
      simp only [dp]
      omega
    | first ps =>
      rw [vP] at h
      simp at h
      have h2 : dps ps ≤ d := dps_le.mpr fun q hq => dp_vP d q (h.2 q hq)
      simp only [dp]
      omega
    | within k p =>
      rw [vP] at h
      simp at h
      have h1 := dp_vP d p h.2
      simp only [dp]
      omega
    | last p q =>
      rw [vP] at h
      simp at h
      have h1 := dp_vP d p h.1
      have h2 := dp_vP d q h.2
      simp only [dp]
      omega
    | shield p =>
      rw [vP] at h
      have h1 := dp_vP d p h
      simp only [dp]
      omega
    | keep p => simp [vP] at h
theorem mem_leavesL {q : Tm} {u : Tm} : ∀ {ps : List Tm}, q ∈ ps → u ∈ leaves q → u ∈ leavesL ps
  | [], h, _ => by cases h
  | p :: ps, h, hu => by
    simp only [leavesL]
    rcases List.mem_cons.mp h with e | h
    · rw [← e]; exact List.mem_append_left _ hu
    · exact List.mem_append_right _ (mem_leavesL h hu)
/-- leaves within bounds -/
def Lf8 (t : Tm) : Prop := (∀ w, Tm.say w ∈ leaves t → w < 8) ∧ ∀ e, Tm.wait e ∈ leaves t → e < 4
theorem Lf8.sub {t q : Tm} (h : Lf8 t) (hs : ∀ u, u ∈ leaves q → u ∈ leaves t) : Lf8 q := ⟨fun w hw => h.1 w (hs _ hw), fun e he => h.2 e (hs _ he)⟩
theorem sh_vP8 : ∀ (d : Nat) (t : Tm), shB d t = true → Lf8 t → vP (d + 1) t = true
  | 0, t, h, hl => by
    cases t <;> simp [shB, isLeaf] at h
    · rfl
    · exact decide_eq_true (hl.1 _ (by simp [leaves]))
    · exact decide_eq_true (hl.2 _ (by simp [leaves]))
  | d + 1, t, h, hl => by
    cases t with
    | rest => rfl
    | say w => exact decide_eq_true (hl.1 _ (by simp [leaves]))
    | wait w => exact decide_eq_true (hl.2 _ (by simp [leaves]))
    | thn p ps =>
      simp [shB] at h
      rw [vP]
      simp
      exact ⟨by omega, sh_vP8 d p h.2.1 (hl.sub fun u hu => by simp only [leaves]; exact List.mem_append_left _ hu), fun q hq => sh_vP8 d q (h.2.2 q hq) (hl.sub fun u hu => by simp only [leaves]; exact List.mem_append_right _ (mem_leavesL hq hu))⟩
    | both ps =>
      simp [shB] at h
      rw [vP]
      simp
      exact ⟨by omega, fun q hq => sh_vP8 d q (h.2 q hq) (hl.sub fun u hu => by simp only [leaves]; exact mem_leavesL hq hu)⟩
    | first ps =>
      simp [shB] at h
      rw [vP]
      simp
      exact ⟨by omega, fun q hq => sh_vP8 d q (h.2 q hq) (hl.sub fun u hu => by simp only [leaves]; exact mem_leavesL hq hu)⟩
    | within k p =>
      simp [shB] at h
      rw [vP]
      simp
      exact ⟨by omega, sh_vP8 d p h.2 (hl.sub fun u hu => by simpa only [leaves] using hu)⟩
    | last p q =>
      simp [shB] at h
      rw [vP]
      simp
      exact ⟨sh_vP8 d p h.1 (hl.sub fun u hu => by simp only [leaves]; exact List.mem_append_left _ hu), sh_vP8 d q h.2 (hl.sub fun u hu => by simp only [leaves]; exact List.mem_append_right _ hu)⟩
    | shield p =>
      simp only [shB] at h
      rw [vP]
      exact sh_vP8 d p h (hl.sub fun u hu => by simpa only [leaves] using hu)
    | keep p => simp [shB, isLeaf] at h
theorem words_wdL (p : Tm) : words p = wdL (leaves p) := rfl
theorem mem_wdL {w : Nat} {l : List Tm} : w ∈ wdL l ↔ Tm.say w ∈ l := by
  unfold wdL
  rw [List.mem_filterMap]
  constructor
  · rintro ⟨t, ht, e⟩
    cases t <;> simp at e
    rw [← e]
    exact ht
  · intro h
    exact ⟨_, h, rfl⟩
/-- two plans of law -/
structure LwP (a b : Tm) : Prop where
  pa : Piece a
  pb : Piece b
  fa : Lf8 a
  fb : Lf8 b
  dj : ∀ w, w ∈ words a → w ∉ words b
theorem good_waits {d : Nat} {t : Tm} (g : Good d t) {e : Nat} (h : Tm.wait e ∈ leaves t) : e < 4 := by
  have := g.lf _ h
  simp [leafOk] at this
  omega
/-- the plans that law draws -/
theorem lwp_of {t u : Tm} (gt : Good 2 t) (gu : Good 2 u) : LwP (ren t [0, 1, 2, 3, 4, 5, 6, 7]).1 (ren u (ren t [0, 1, 2, 3, 4, 5, 6, 7]).2).1 := by
  have e1 := ren_words t [0, 1, 2, 3, 4, 5, 6, 7]
  have e2 := ren_words u (ren t [0, 1, 2, 3, 4, 5, 6, 7]).2
  rw [← e2] at e1
  have hm : ∀ w, w ∈ ([0, 1, 2, 3, 4, 5, 6, 7] : List Nat) → w < 8 := fun w h => by simp at h; omega
  have nd : ([0, 1, 2, 3, 4, 5, 6, 7] : List Nat).Nodup := by decide
  refine ⟨⟨ren_sh 2 t _ gt.sh, by rw [ren_leaves]; exact gt.lv⟩, ⟨ren_sh 2 u _ gu.sh, by rw [ren_leaves]; exact gu.lv⟩, ⟨fun w hw => hm w ?_, fun e he => good_waits gt (ren_waits t _ e he)⟩, ⟨fun w hw => hm w ?_, fun e he => good_waits gu (ren_waits u _ e he)⟩, fun w h1 h2 => ?_⟩
  · rw [← e1]; exact List.mem_append_left _ (mem_wdL.mpr hw)
  · rw [← e1]; exact List.mem_append_right _ (List.mem_append_left _ (mem_wdL.mpr hw))
  · rw [← e1] at nd
    rw [words_wdL] at h1 h2
    exact (List.nodup_append.mp nd).2.2 w h1 w (List.mem_append_left _ h2) rfl
section
variable {a b : Tm}
theorem LwP.va (h : LwP a b) : vP 3 a = true := sh_vP8 2 a h.pa.sh h.fa
theorem LwP.vb (h : LwP a b) : vP 3 b = true := sh_vP8 2 b h.pb.sh h.fb
theorem LwP.za (h : LwP a b) : sz a ≤ 13 := sz_good (d := 2) (by omega) h.pa.sh
theorem LwP.zb (h : LwP a b) : sz b ≤ 13 := sz_good (d := 2) (by omega) h.pb.sh
theorem inB_of {t : Tm} (h : Lf8 t) : InB t := ⟨fun w hw => h.1 w (mem_wdL.mp (by rw [← words_wdL]; exact hw)), h.2⟩
theorem lf8_pair {T : Tm} (ha : Lf8 a) (hb : Lf8 b) (hT : leaves T = leaves a ++ leaves b) : Lf8 T := by
  refine ⟨fun w hw => ?_, fun e he => ?_⟩
  · rw [hT] at hw
    rcases List.mem_append.mp hw with q | q
    · exact ha.1 w q
    · exact hb.1 w q
  · rw [hT] at he
    rcases List.mem_append.mp he with q | q
    · exact ha.2 e q
    · exact hb.2 e q
theorem lv_both : leaves (both [a, b]) = leaves a ++ leaves b := by simp [leaves, leavesL]
theorem lv_first : leaves (first [a, b]) = leaves a ++ leaves b := by simp [leaves, leavesL]
theorem lv_lim (n : Nat) : leaves (within n (both [a, b])) = leaves a ++ leaves b := by simp [leaves, leavesL]
theorem LwP.vBoth (h : LwP a b) : vP 4 (both [a, b]) = true := by
  rw [vP]
  simp
  exact ⟨h.va, h.vb⟩
theorem LwP.vFirst (h : LwP a b) : vP 4 (first [a, b]) = true := by
  rw [vP]
  simp
  exact ⟨h.va, h.vb⟩
theorem LwP.vLim (h : LwP a b) {n : Nat} (h1 : 1 ≤ n) (h3 : n ≤ 3) : vP 5 (within n (both [a, b])) = true := by
  rw [vP]
  simp
  exact ⟨⟨h1, h3⟩, h.vBoth⟩
theorem plOk_of {p : Tm} {d : Nat} {row : List Lb} (hz : sz p ≤ 28) (hv : vP d p = true) (hd : d ≤ 7) (hl : (leaves p).length ≤ 12) (vl : ∀ l ∈ row, vL l = true) (ln : row.length ≤ 40) (few : FewFrom [⟨Tm.begun p, [], 0⟩] row) : PlOk p row :=
  ⟨by omega, Nat.le_trans (dp_vP d p hv) hd, vP_mono hv (by omega), hl, vl, ln, few⟩
variable {row : List Lb}
theorem LwP.okA (h : LwP a b) (no : ∀ l ∈ row, l ≠ .off) (vl : ∀ l ∈ row, vL l = true) (ln : row.length ≤ 40) : PlOk a row :=
  plOk_of (by have := h.za; omega) h.va (by omega) (by have := h.pa.lv; omega) vl ln (piece_few h.pa no)
theorem LwP.okB (h : LwP a b) (no : ∀ l ∈ row, l ≠ .off) (vl : ∀ l ∈ row, vL l = true) (ln : row.length ≤ 40) : PlOk b row :=
  plOk_of (by have := h.zb; omega) h.vb (by omega) (by have := h.pb.lv; omega) vl ln (piece_few h.pb no)
theorem LwP.okFirst (h : LwP a b) (hs : (leaves a).length + (leaves b).length ≤ 12) (no : ∀ l ∈ row, l ≠ .off) (vl : ∀ l ∈ row, vL l = true) (ln : row.length ≤ 40) : PlOk (first [a, b]) row :=
  plOk_of (by have := h.za; have := h.zb; simp only [sz, szs]; omega) h.vFirst (by omega) (by rw [lv_first, List.length_append]; exact hs) vl ln (race_few h.pa h.pb hs no)
theorem LwP.okBoth (h : LwP a b) (hs : (leaves a).length + (leaves b).length ≤ 12) (no : ∀ l ∈ row, l ≠ .off) (vl : ∀ l ∈ row, vL l = true) (ln : row.length ≤ 40) : PlOk (both [a, b]) row :=
  plOk_of (by have := h.za; have := h.zb; simp only [sz, szs]; omega) h.vBoth (by omega) (by rw [lv_both, List.length_append]; exact hs) vl ln (both_few h.pa h.pb hs no)
theorem LwP.okLim (h : LwP a b) (hs : (leaves a).length + (leaves b).length ≤ 12) {n : Nat} (h1 : 1 ≤ n) (h3 : n ≤ 3) (no : ∀ l ∈ row, l ≠ .off) (vl : ∀ l ∈ row, vL l = true) (ln : row.length ≤ 40) : PlOk (within n (both [a, b])) row :=
  plOk_of (by have := h.za; have := h.zb; simp only [sz, szs]; omega) (h.vLim h1 h3) (by omega) (by rw [lv_lim, List.length_append]; exact hs) vl ln (limit_few h.pa h.pb hs h1 no)
/-! the bare limit, the late piece -/
theorem ok_bare {n : Nat} (h1 : 1 ≤ n) (h3 : n ≤ 3) (no : ∀ l ∈ row, l ≠ .off) (vl : ∀ l ∈ row, vL l = true) (ln : row.length ≤ 40) : PlOk (bare n) row := by
  refine plOk_of (d := 2) (by simp [bare, sz]) (by simp [bare, vP]; exact ⟨h1, h3⟩) (by omega) (by simp [bare, leaves]) vl ln ?_
  exact few_from (by simp [bare, okP]; exact h1) (fun k => Nat.le_trans (len_G _ _) (by simp [bare, cG, cO])) no
theorem ok_late {n : Nat} (h1 : 1 ≤ n) (h3 : n ≤ 3) (no : ∀ l ∈ row, l ≠ .off) (vl : ∀ l ∈ row, vL l = true) (ln : row.length ≤ 40) : PlOk (late n) row := by
  refine plOk_of (d := 3) (by simp [late, bare, sz]) (by simp [late, bare, vP]; exact ⟨h1, h3⟩) (by omega) (by simp [late, bare, leaves]) vl ln ?_
  exact few_from (by simp [late, bare, okP]; exact h1) (fun k => Nat.le_trans (len_G _ _) (by simp [late, bare, cG, cO])) no
/-! says of a race -/
theorem wt_says (p : Tm) : wt isSay 0 p = (words p).length := by
  have key : ∀ l : List Tm, (∀ u ∈ l, u = .rest ∨ (∃ w, u = .say w) ∨ ∃ e, u = .wait e) → (l.map (wt isSay 0)).sum = (wdL l).length := by
    intro l
    induction l with
    | nil => intro _; rfl
    | cons t l ih =>
      intro h
      have i := ih fun u hu => h u (List.mem_cons_of_mem _ hu)
      rw [List.map_cons, List.sum_cons, i]
      rcases h t List.mem_cons_self with rfl | ⟨w, rfl⟩ | ⟨e, rfl⟩
      · simp [wt, wdL]
      · simp [wt, wdL, isSay]; omega
      · simp [wt, wdL, isSay]
  rw [wt_leaves, words_wdL]
  exact key _ (leaves_leaf p)
def isSayB : Lb → Bool
  | .say _ => true
  | _ => false
theorem says_len : ∀ row : List Lb, (row.filter isSayB).length = (row.map isSay).sum
  | [] => rfl
  | l :: row => by
    have := says_len row
    cases l with
    | say w =>
      rw [List.filter_cons_of_pos rfl, List.length_cons, List.map_cons, List.sum_cons, this]
      simp only [isSay]
      omega
    | _ =>
      rw [List.filter_cons_of_neg (by simp [isSayB]), List.map_cons, List.sum_cons, this]
      simp only [isSay]
      omega
theorem race_says {s : St} (h : Reach (first [a, b]) row s) : (row.filter isSayB).length ≤ (words a).length + (words b).length := by
  have h1 := h.says
  have h2 : wt isSay 0 (first [a, b]) = wt isSay 0 a + wt isSay 0 b := by simp [wt, wts]
  rw [h2, wt_says a, wt_says b] at h1
  rw [says_len]
  omega
end
/-! ## depths, keys -/
mutual
theorem enc_dp : ∀ t : Tm, (enc t).depth ≤ dp t
  | .rest => by simp [enc, dp]
  | .say _ => by simp [enc, dp]
  | .wait _ => by simp [enc, dp]
  | .thn t ps => by
    have := enc_dp t
    have := encs_dp ps
    simp only [enc, dp, dp_tup, dpa_cons, dp_str]
    omega
  | .both ts => by
    have := encs_dp ts
    simp only [enc, dp, dp_tup, dpa_cons, dp_str]
    omega
  | .first ts => by
    have := encs_dp ts
    simp only [enc, dp, dp_tup, dpa_cons, dp_str]
    omega
  | .within _ t => by
    have := enc_dp t
    simp only [enc, dp, dp_tup, dpa_cons, dpa_nil, dp_str, dp_int]
    omega
  | .last t p => by
    have := enc_dp t
    have := enc_dp p
    simp only [enc, dp, dp_tup, dpa_cons, dpa_nil, dp_str]
    omega
  | .shield t => by
    have := enc_dp t
    simp only [enc, dp, dp_tup, dpa_cons, dpa_nil, dp_str]
    omega
  | .keep t => by
    have := enc_dp t
    simp only [enc, dp, dp_tup, dpa_cons, dpa_nil, dp_str]
    omega
theorem encs_dp : ∀ ts : List Tm, PyData.depthAll (encs ts) ≤ dps ts
  | [] => by simp [encs, dps]
  | t :: ts => by
    have := enc_dp t
    have := encs_dp ts
    simp only [encs, dps, dpa_cons]
    omega
end
mutual
theorem enc_ly : ∀ t : Tm, (enc t).canLay0 = true
  | .rest => by simp [enc, PyData.canLay0, PyData.canLayAll0, kS_ok]
  | .say _ => by simp [enc, PyData.canLay0, PyData.canLayAll0, kS_ok]
  | .wait _ => by simp [enc, PyData.canLay0, PyData.canLayAll0, kS_ok]
  | .thn t ps => by simp [enc, PyData.canLay0, PyData.canLayAll0, kS_ok, enc_ly t, encs_ly ps]
  | .both ts => by simp [enc, PyData.canLay0, PyData.canLayAll0, kS_ok, encs_ly ts]
  | .first ts => by simp [enc, PyData.canLay0, PyData.canLayAll0, kS_ok, encs_ly ts]
  | .within _ t => by simp [enc, PyData.canLay0, PyData.canLayAll0, kS_ok, enc_ly t]
  | .last t p => by simp [enc, PyData.canLay0, PyData.canLayAll0, kS_ok, enc_ly t, enc_ly p]
  | .shield t => by simp [enc, PyData.canLay0, PyData.canLayAll0, kS_ok, enc_ly t]
  | .keep t => by simp [enc, PyData.canLay0, PyData.canLayAll0, kS_ok, enc_ly t]
theorem encs_ly : ∀ ts : List Tm, PyData.canLayAll0 (encs ts) = true
  | [] => by simp [encs, PyData.canLayAll0]
  | t :: ts => by simp [encs, PyData.canLayAll0, enc_ly t, encs_ly ts]
end
theorem ints_ly : ∀ cs : List Nat, PyData.canLayAll0 (cs.map fun (e : Nat) => PyData.int (e : Int)) = true
  | [] => by simp [PyData.canLayAll0]
  | c :: cs => by simp only [List.map_cons, PyData.canLayAll0, PyData.canLay0, ints_ly cs, Bool.and_self]
theorem st_ly (s : St) : (encSt s).canLay0 = true := by
  simp [encSt, encC, PyData.canLay0, PyData.canLayAll0, enc_ly, ints_ly]
theorem eqv_stS (s : St) : PyData.eqv (encSt s) (encSt s) = true := PySem.SeqAt.eqv_refl _ (st_ly s)
theorem ints_dp : ∀ cs : List Nat, PyData.depthAll (cs.map fun (e : Nat) => PyData.int (e : Int)) = 0
  | [] => by simp
  | c :: cs => by simp only [List.map_cons, dpa_cons, dp_int, ints_dp cs]; rfl
theorem st_dpE (s : St) (h : dp s.t ≤ 7) : (encSt s).depth ≤ 64 := by
  have := enc_dp s.t
  simp only [encSt, encC, dp_tup, dpa_cons, dpa_nil, dp_int, ints_dp]
  omega
end LT
/-! # Lc -/
namespace LT
open PySem PySem.Spec PyProof.Rows L2
/-- a comprehension whose test is no function of the slots alone -/
theorem lc_of2 {K : KF} {fi : FL} {g : TG} {bd : D → Rho → Option Rho} {tt : TT} {ft : FB} {fe : FE} {is vs : List Nat} (tg : TgF K g bd is) (hv : ∀ i ∈ is, i ∈ vs) {σ : L2.St} {H : Hp} {Q : VK}
    (ht : ∀ (σ' : L2.St) (G' H' : Hp) (ρ' : Rho) (t : Bool) (R : Bool → Hp → Prop), Same H H' → Same G' H' → EnvR K G' H' σ' ρ' → ft ρ' = some t → (∀ G2 H2, Ext G' H' G2 H2 → R t H2) → tt σ' H' R)
    (w : tF K (cLc fi bd ft fe vs) σ H Q) : tLc (tFI K fi) g tt (tF K fe) vs σ H Q := by
  obtain ⟨ρ, G, d, sg, ev, hf, q⟩ := w
  obtain ⟨ds, h1, hf⟩ := Option.bind_eq_some_iff.mp hf
  obtain ⟨zs, h2, rfl⟩ := Option.map_eq_some_iff.mp hf
  refine ⟨ρ, G, ds, sg, ev, h1, fun J Gd Y G1 H1 x1 yl P nP => ?_⟩
  have gP := none_of_same x1.gh nP
  have hP : H P = none := x1.hh.free nP
  refine lc_it yl.w (fun i H' => ∃ (Gi : Hp) (xs : List V) (ys rest : List D), Ext G1 H1 Gi H' ∧ H' P = some (.lst xs) ∧ Gi P = none ∧ xs.length ≤ i ∧ RpL K Gi xs ys ∧ lcGo bd ft fe (wipeR ρ vs) (ds.drop i) = some rest ∧ ys ++ rest = zs) ?_ ?_ ?_ ?_
  · exact ⟨G1, [], [], zs, Ext.only x1.gh (same_upd nP _), upd_same, gP, Nat.zero_le _, .nil, h2, rfl⟩
  · rintro i H' _ ⟨Gi, xs, ys, rest, x2, _⟩
    exact yl.gd H' (x2.gg.trans x2.gh)
  · rintro i x H' H'' hi ⟨Gi, xs, ys, rest, x2, e1, e2, e3, e4, e5, e6⟩ hy
    obtain ⟨d, hd, hk⟩ := yl.y i H' x H'' hi (x2.gg.trans x2.gh) hy
    obtain ⟨G2, x3, r3⟩ := hk Gi x2.gg x2.gh
    have hdr : ds.drop i = d :: ds.drop (i + 1) := by
      rw [List.drop_eq_getElem_cons hi]
      have : ds[i]? = some ds[i] := List.getElem?_eq_getElem hi
      rw [hd] at this
      rw [Option.some.inj this]
    rw [hdr] at e5
    unfold lcGo at e5
    obtain ⟨ρ', b1, e5⟩ := Option.bind_eq_some_iff.mp e5
    obtain ⟨t, b2, e5⟩ := Option.bind_eq_some_iff.mp e5
    have evw : EnvB K (fun _ => False) G2 H'' (wipe σ vs) (wipeR ρ vs) := EnvB.free ((((ev.ext x1).ext x2).ext x3).wipe vs)
    refine tg _ x _ H'' G2 _ ρ' d _ x3.gh evw r3 b1 fun σ' ev' hw => ⟨?_, ?_⟩
    · rw [hw vs hv]
      have key : ∀ us : List Nat, wipe (wipe σ us) us = wipe σ us := by
        intro us
        apply List.ext_getElem?
        intro j
        by_cases hj : j ∈ us
        · have none_at : ∀ (τ : L2.St) (zs : List Nat), j ∈ zs → τ.length = σ.length → (wipe τ zs)[j]? = if j < σ.length then some none else none := by
            intro τ zs
            induction zs with
            | nil => intro h _; cases h
            | cons z zs ih =>
              intro h hl
              unfold wipe
              by_cases ez : z = j
              · subst ez
                by_cases hlt : z < σ.length
                · rw [List.getElem?_set_self (by rw [wipe_length, hl]; exact hlt), if_pos hlt]
                · rw [List.getElem?_eq_none (by rw [List.length_set, wipe_length, hl]; omega), if_neg hlt]
              · rw [List.getElem?_set_ne ez]
                rcases List.mem_cons.mp h with q | q
                · exact absurd q.symm ez
                · exact ih q hl
          rw [none_at _ us hj (by rw [wipe_length]), none_at _ us hj rfl]
        · rw [wipe_at hj]
      exact key vs
    refine ht σ' G2 H'' ρ' t _ ((x1.hh.trans x2.hh).trans x3.hh) x3.gh ev'.ev b2 fun G3 H3 x4 => ?_
    have xx := (x2.trans x3).trans x4
    have hP3 : H3 P = some (.lst xs) := x4.hh _ _ (x3.hh _ _ e1)
    have gP3 : G3 P = none := x4.keep (x3.keep e2 e1) (x3.hh _ _ e1)
    cases t with
    | false =>
      exact iteF ⟨G3, xs, ys, rest, xx, hP3, gP3, Nat.le_succ_of_le e3, e4.same (x3.gg.trans x4.gg), e5, e6⟩
    | true =>
      obtain ⟨y, b3, e5⟩ := Option.bind_eq_some_iff.mp e5
      obtain ⟨rs, b4, e5⟩ := Option.bind_eq_some_iff.mp e5
      cases e5
      refine iteT ⟨ρ', G3, y, x4.gh, ev'.ev.ext x4, b3, fun v G4 H4 x5 r5 => ⟨xs, x5.hh _ _ hP3, ?_, ?_⟩⟩
      · have := yl.z
        omega
      · have gP4 := x5.keep gP3 hP3
        have xy := xx.trans x5
        refine ⟨G4, xs ++ [v], ys ++ [y], rs, ⟨fun b u hb => ?_, xy.gg, fun b u hb => ?_, xy.nw⟩, upd_same, gP4, by rw [List.length_append]; show xs.length + 1 ≤ i + 1; omega, (e4.same (x3.gg.trans (x4.gg.trans x5.gg))).snoc r5, b4, by rw [List.append_assoc]; exact e6⟩
        · rw [upd_ne (ne_of_none hb nP)]
          exact xy.hh b u hb
        · rw [upd_ne (ne_of_none hb gP4)]
          exact xy.gh b u hb
  · rintro H' ⟨Gi, xs, ys, rest, x2, e1, e2, e3, e4, e5, e6⟩
    rw [List.drop_length] at e5
    cases e5
    rw [List.append_nil] at e6
    subst e6
    have x12 := x1.trans x2
    refine q (.ref P) (upd Gi P (.lst xs)) H' ⟨x12.hh, x12.gg.trans (same_upd e2 _), fun b u hb => ?_, fun b hb => ?_⟩ (.lst upd_same (Nat.le_trans e3 yl.z) (e4.same (same_upd e2 _)))
    · by_cases eb : b = P
      · subst eb; rw [upd_same] at hb; rw [← hb]; exact e1
      · rw [upd_ne eb] at hb; exact x2.gh b u hb
    · by_cases eb : b = P
      · subst eb; exact .inr hP
      · rw [upd_ne eb] at hb; exact x12.nw b hb
end LT
/-! # Lv1 -/
namespace LT
open PySem PySem.Spec PyProof.Rows L2 Tm
/-! ## what law's statements say of the data: 1 -/
abbrev rhoL (a : Addr) (tk d4 d5 : D) (x6 x8 x9 x10 x11 x12 x13 x15 x16 x19 x20 x21 : Sl) : Rho := [.no, .lk a, .im tk, .no, .im d4, .im d5, x6, .no, x8, x9, x10, x11, x12, x13, .no, x15, x16, .no, .no, x19, x20, x21]
/-- a label's kind -/
def lbk : Lb → Kd
  | .come _ => .come
  | .off => .off
  | .say _ => .say
  | .take _ => .take
  | .tick => .tick
theorem at_lb (l : Lb) : atH (encL l) (.int 0) = some (.str (kS (lbk l))) := by cases l <;> simp [encL, lbk]
theorem e_first (p q : Tm) : PyData.tuple [.str (kS .first), enc p, enc q] = enc (first [p, q]) := by simp [enc, encs]
theorem e_both (p q : Tm) : PyData.tuple [.str (kS .both), enc p, enc q] = enc (both [p, q]) := by simp [enc, encs]
theorem e_lim (p : Tm) (n : Nat) : PyData.tuple [.str (kS .within), .int (n : Int), enc p] = enc (within n p) := by simp [enc]
section
variable {p q : Tm} {a : Addr} {tk : D} {n : Nat} {x6 x8 x9 x10 x11 x12 x13 x15 x16 x19 x20 x21 : Sl} {row : List Lb}
theorem ev_w4 (h : LwP p q) : g_w4 (den LV) (rhoL a tk (enc p) (enc q) x6 x8 x9 x10 x11 x12 x13 x15 x16 x19 x20 x21) =
    some (if 12 < (leaves p).length + (leaves q).length then .rt (.bool true) else .nx (rhoL a tk (enc p) (enc q) x6 x8 x9 x10 x11 x12 x13 x15 x16 x19 x20 x21)) := by
  have e1 := (sp_den LV).Lleaves 3 p h.va (by have := h.za; show 4 * sz p + 2 ≤ 150; omega) (by have := h.za; omega)
  have e2 := (sp_den LV).Lleaves 3 q h.vb (by have := h.zb; show 4 * sz q + 2 ≤ 150; omega) (by have := h.zb; omega)
  by_cases c : 12 < (leaves p).length + (leaves q).length
  · have c' : (12 : Int) < ((leaves p).length : Int) + ((leaves q).length : Int) := by omega
    simp [g_w4, e1, e2, c, c']
  · have c' : ¬ (12 : Int) < ((leaves p).length : Int) + ((leaves q).length : Int) := by omega
    simp [g_w4, e1, e2, c, c']
theorem ev_w5 (h : LwP p q) : ∃ b : Bool, g_w5 (den LV) (rhoL a tk (enc p) (enc q) x6 x8 x9 x10 x11 x12 x13 x15 x16 x19 x20 x21) = some (.nx (rhoL a tk (enc p) (enc q) (.im (.bool b)) x8 x9 x10 x11 x12 x13 x15 x16 x19 x20 x21)) ∧
    (b = true → plainT p ∧ plainT q) := by
  have e1 := strH_enc h.va (by omega) (by have := h.za; omega)
  have e2 := strH_enc h.vb (by omega) (by have := h.zb; omega)
  have ln : ∀ {t : Tm}, vP 3 t = true → sz t ≤ 13 → (enc t).shown.length ≤ 1000000 := fun {t} hv hz => by
    have := strH_enc hv (by omega) (show Tm.sz t ≤ 1000 by omega)
    unfold strH at this
    exact (ite_some this).1.2.1.1
  have l1 := ln h.va h.za
  have l2 := ln h.vb h.zb
  generalize hX : (enc p).shown ++ (enc q).shown = X
  have es : addSH (.str (enc p).shown) (.str (enc q).shown) = some (.str X) := by
    unfold addSH
    simp only
    rw [if_pos (by omega), hX]
  have tl : ∀ {k : Kd}, infx (kS k) (enc p).shown ∨ infx (kS k) (enc q).shown → (!(Builtin.Str.occurrences X (kS k) 0 X.length 1).isEmpty) = true := fun {k} hh => by
    rw [← hX]
    exact infx_found (hh.elim infx_r infx_l)
  refine ⟨(Builtin.Str.occurrences X (kS .last) 0 X.length 1).isEmpty && (Builtin.Str.occurrences X (kS .shield) 0 X.length 1).isEmpty, ?_, fun hb => ?_⟩
  · cases c1 : (Builtin.Str.occurrences X (kS .last) 0 X.length 1).isEmpty <;> cases c2 : (Builtin.Str.occurrences X (kS .shield) 0 X.length 1).isEmpty <;> simp [g_w5, e1, e2, es, inSH, lcGo, chk_ok, c1, c2]
  · rw [Bool.and_eq_true] at hb
    have no : ∀ t : Tm, vP 3 t = true → (∀ k, infx (kS k) (enc t).shown → infx (kS k) (enc p).shown ∨ infx (kS k) (enc q).shown) → plainT t := fun t hv hh => by
      refine Classical.byContradiction fun hn => ?_
      rcases tells 3 t hv hn with z | z
      · have := tl (hh _ z)
        rw [hb.1] at this
        cases this
      · have := tl (hh _ z)
        rw [hb.2] at this
        cases this
    exact ⟨no p h.va fun k z => .inl z, no q h.vb fun k z => .inr z⟩
theorem ev_w6 : g_w6 (den LV) (rhoL a (.int (n : Int)) (enc p) (enc q) x6 x8 x9 x10 x11 x12 x13 x15 x16 x19 x20 x21) =
    some (.nx (rhoL a (.int (n : Int)) (enc p) (enc q) x6 (.im (enc (first [p, q]))) (.im (enc (within n (both [p, q])))) x10 x11 x12 x13 x15 x16 x19 x20 x21)) := by
  simp [g_w6, chk_ok, enc, encs]
theorem ev_w9 (ok : PlOk (first [p, q]) row) (hz : sz (first [p, q]) ≤ 28) {s : St} (hs : s ∈ stand (first [p, q]) row) (hd : dp s.t ≤ 7) : g_w9 (den LV) (rhoL a tk (enc p) (enc q) x6 (.im (enc (first [p, q]))) x9 (.im (encRow row)) (.im (encSt s)) x12 x13 x15 x16 x19 x20 x21) =
    some (.nx (rhoL a tk (enc p) (enc q) x6 (.im (enc (first [p, q]))) x9 (.im (encRow row)) (.im (encSt s)) x12 x13 x15 x16 x19 x20 x21)) := by
  obtain ⟨L, e, _, m⟩ := (sp_den LV).standings (first [p, q]) row ok.sz ok.dp ok.vl ok.few ok.vp ok.lv ok.ln (by show 4 * sz (first [p, q]) + 5 ≤ 150; omega)
  have hL : s ∈ L := (m s).mpr hs
  have hd2 := st_dpE s hd
  have ne : L ≠ [] := fun z => by rw [z] at hL; cases hL
  have an : ((L.map encSt).any fun z => PyData.eqv z (encSt s)) = true := by
    rw [List.any_eq_true]
    exact ⟨encSt s, List.mem_map.mpr ⟨s, hL, rfl⟩, eqv_stS s⟩
  have ni : niH (encSt s) (.list (L.map encSt)) = some false := by
    unfold niH
    simp only [ev_items, Option.bind_some]
    rw [if_pos hd2, an]
    rfl
  have q1 : PyData.eqvAll (L.map encSt) [] = false := by
    cases L with
    | nil => exact absurd rfl ne
    | cons u L => simp
  simp [g_w9, e, ni, q1, chk_ok]
theorem ev_i0 : g_i0 (den LV) (rhoL a tk (enc p) (enc q) x6 x8 x9 (.im (encRow row)) x11 x12 x13 x15 x16 x19 x20 x21) =
    some (.nx (rhoL a tk (enc p) (enc q) x6 x8 x9 (.im (encRow row)) x11 x12 (.im (.list ((row.filter isSayB).map encL))) x15 x16 x19 x20 x21)) := by
  have lc : lcGo (bdN 14) (cmpB eqH (bin2 atH (cV 14) (cK (.int 0))) (cK (.str (kS .say)))) (cV 14) (rhoL a tk (enc p) (enc q) x6 x8 x9 (.im (encRow row)) x11 x12 x13 x15 x16 x19 x20 x21) (row.map encL) = some ((row.filter isSayB).map encL) := by
    refine lc_fmap (p := isSayB) fun l _ => ⟨_, rfl, ?_, ?_⟩
    · simp [at_lb]
      cases l <;> simp [lbk, isSayB]
    · simp
  simp only [g_i0, lit_say, ev_sSet, ev_Lc, ev_itT, ev_V, encRow, List.getElem?_cons_succ, List.getElem?_cons_zero, Option.bind_some]
  have w : wipeR (rhoL a tk (enc p) (enc q) x6 x8 x9 (.im (encRow row)) x11 x12 x13 x15 x16 x19 x20 x21) [14] = rhoL a tk (enc p) (enc q) x6 x8 x9 (.im (encRow row)) x11 x12 x13 x15 x16 x19 x20 x21 := rfl
  simp only [encRow] at lc w
  rw [w, lc]
  rfl
theorem ev_i3 (h : LwP p q) {ls : List D} (hl : ls.length ≤ (words p).length + (words q).length) : g_i3 (den LV) (rhoL a tk (enc p) (enc q) x6 x8 x9 x10 x11 x12 (.im (.list ls)) x15 x16 x19 x20 x21) =
    some (.nx (rhoL a tk (enc p) (enc q) x6 x8 x9 x10 x11 x12 (.im (.list ls)) x15 x16 x19 x20 x21)) := by
  have e1 := (sp_den LV).Lspoken 3 p h.va (by have := h.za; show 4 * sz p + 3 ≤ 150; omega) (by have := h.za; omega)
  have e2 := (sp_den LV).Lspoken 3 q h.vb (by have := h.zb; show 4 * sz q + 3 ≤ 150; omega) (by have := h.zb; omega)
  have c' : ¬ ((words p).length : Int) + ((words q).length : Int) < (ls.length : Int) := by omega
  simp [g_i3, e1, e2, c']
end
end LT
/-! # Lv2 -/
namespace LT
open PySem PySem.Spec PyProof.Rows L2 Tm
/-! ## what law's statements say of the data: 2 -/
/-- where the ticks stand -/
def gi (row : List Lb) : List Nat := (List.range row.length).filter fun i => decide (row[i]? = some .tick)
theorem gi_snoc (row : List Lb) (l : Lb) : gi (row ++ [l]) = gi row ++ if l = .tick then [row.length] else [] := by
  unfold gi
  rw [List.length_append, List.length_singleton, List.range_succ, List.filter_append]
  congr 1
  · refine List.filter_congr fun i hi => ?_
    rw [List.getElem?_append_left (List.mem_range.mp hi)]
  · by_cases h : l = .tick <;> simp [h]
theorem gi_len : ∀ row : List Lb, (gi row).length = ticks row := by
  refine snoc_ind rfl fun row l ih => ?_
  rw [gi_snoc, ticks_snoc, List.length_append, ih]
  by_cases h : l = .tick <;> simp [h]
theorem cutZ {xs : List D} {i : Int} (h : i = xs.length) : cutL xs (some i) none = [] := by
  subst h
  have := HT.sIx_nat xs.length 0 xs.length
  rw [Nat.min_self] at this
  simp only [cutL, this, HT.sIx_none]
  simp
section
variable {p q : Tm} {a : Addr} {tk : D} {n : Nat} {x6 x8 x9 x10 x11 x12 x13 x15 x16 x19 x20 x21 : Sl} {row : List Lb}
theorem ev_w12 (hr : row.length ≤ 40) : g_w12 (den LV) (rhoL a tk (enc p) (enc q) x6 x8 x9 (.im (encRow row)) x11 x12 x13 x15 x16 x19 x20 x21) =
    some (.nx (rhoL a tk (enc p) (enc q) x6 x8 x9 (.im (encRow row)) x11 x12 x13 x15 x16 (.im (.list ((gi row).map fun (i : Nat) => .int (0 + (i : Int))))) x20 x21)) := by
  have lc : lcGo (bdN 18) (cmpB eqH (bin2 atH (bin2 atH (cV 10) (cV 18)) (cK (.int 0))) (cK (.str (kS .tick)))) (cV 18) (rhoL a tk (enc p) (enc q) x6 x8 x9 (.im (encRow row)) x11 x12 x13 x15 x16 x19 x20 x21) (rangeD 0 row.length) = some ((gi row).map fun (i : Nat) => .int (0 + (i : Int))) := by
    refine lc_fmap (p := fun i => decide (row[i]? = some .tick)) (f := fun (i : Nat) => .int (0 + (i : Int))) fun i hi => ⟨_, rfl, ?_, ?_⟩
    · have hlt := List.mem_range.mp hi
      have h1 : (row.map encL)[i]? = some (encL row[i]) := by rw [List.getElem?_map, List.getElem?_eq_getElem hlt]; rfl
      have h2 : atH (encRow row) (.int (0 + (i : Int))) = some (encL row[i]) := by rw [Int.zero_add]; exact atH_nat h1
      rw [List.getElem?_eq_getElem hlt]
      simp only [ev_cmpB, ev_bin2, ev_V, ev_K, List.set_cons_succ, List.set_cons_zero, List.getElem?_cons_succ, List.getElem?_cons_zero, Option.bind_some, h2, at_lb]
      cases row[i] <;> simp [lbk]
    · simp
  have hb : (-1000 : Int) ≤ (row.length : Int) ∧ (row.length : Int) ≤ 1000 := by omega
  have it : itR1 (cB lenH (cV 10)) (rhoL a tk (enc p) (enc q) x6 x8 x9 (.im (encRow row)) x11 x12 x13 x15 x16 x19 x20 x21) = some (rangeD 0 row.length) := by
    simp [itR1, encRow, hb]
  simp only [g_w12, lit_tick, ev_sSet, ev_Lc, it, Option.bind_some]
  have w : wipeR (rhoL a tk (enc p) (enc q) x6 x8 x9 (.im (encRow row)) x11 x12 x13 x15 x16 x19 x20 x21) [18] = rhoL a tk (enc p) (enc q) x6 x8 x9 (.im (encRow row)) x11 x12 x13 x15 x16 x19 x20 x21 := rfl
  rw [w, lc]
  rfl
theorem ev_w13 {b : Bool} {s : St} (h : b = true → n ≤ ticks row → s.t.isR = true) : g_w13 (den LV) (rhoL a (.int (n : Int)) (enc p) (enc q) (.im (.bool b)) x8 x9 x10 (.im (encSt s)) x12 x13 x15 x16 (.im (.list ((gi row).map fun (i : Nat) => .int (0 + (i : Int))))) x20 x21) =
    some (.nx (rhoL a (.int (n : Int)) (enc p) (enc q) (.im (.bool b)) x8 x9 x10 (.im (encSt s)) x12 x13 x15 x16 (.im (.list ((gi row).map fun (i : Nat) => .int (0 + (i : Int))))) x20 x21)) := by
  cases b with
  | false => simp [g_w13]
  | true =>
    by_cases c : n ≤ ticks row
    · have r := h rfl c
      have c' : ((n : Int) ≤ ((gi row).length : Int)) := by rw [gi_len]; omega
      simp [g_w13, encSt, chk_ok, r, c']
    · have c' : ¬ ((n : Int) ≤ ((gi row).length : Int)) := by rw [gi_len]; omega
      simp [g_w13, encSt, chk_ok, c']
theorem ev_w14 {b : Bool} (hn : 1 ≤ n) (hr : row.length ≤ 40) (h : b = true → n ≤ ticks row → ∃ r, row = r ++ [.tick] ∧ ticks r + 1 = n) : g_w14 (den LV) (rhoL a (.int (n : Int)) (enc p) (enc q) (.im (.bool b)) x8 x9 (.im (encRow row)) x11 x12 x13 x15 x16 (.im (.list ((gi row).map fun (i : Nat) => .int (0 + (i : Int))))) x20 x21) =
    some (.nx (rhoL a (.int (n : Int)) (enc p) (enc q) (.im (.bool b)) x8 x9 (.im (encRow row)) x11 x12 x13 x15 x16 (.im (.list ((gi row).map fun (i : Nat) => .int (0 + (i : Int))))) x20 x21)) := by
  cases b with
  | false => simp [g_w14]
  | true =>
    by_cases c : n ≤ ticks row
    · obtain ⟨r, rfl, hr2⟩ := h rfl c
      have c' : ((n : Int) ≤ ((gi (r ++ [.tick])).length : Int)) := by rw [gi_len]; omega
      have hi : ((gi (r ++ [.tick])).map fun (i : Nat) => PyData.int (0 + (i : Int)))[n - 1]? = some (.int (0 + (r.length : Int))) := by
        rw [gi_snoc, if_pos rfl, List.map_append, List.getElem?_append_right (by rw [List.length_map, gi_len]; omega)]
        rw [List.length_map, gi_len, show n - 1 - ticks r = 0 by omega]
        rfl
      have h1 : atH (.list ((gi (r ++ [.tick])).map fun (i : Nat) => PyData.int (0 + (i : Int)))) (.int ((n : Int) - 1)) = some (.int (0 + (r.length : Int))) := by
        have := atH_natl hi
        rw [show ((n - 1 : Nat) : Int) = (n : Int) - 1 by omega] at this
        exact this
      have h2 : cutL ((r ++ [Lb.tick]).map encL) (some (0 + (r.length : Int) + 1)) none = [] := cutZ (by simp)
      have hZ : (((gi (r ++ [.tick])).map fun (i : Nat) => PyData.int (0 + (i : Int))).length : Int) = ((gi (r ++ [.tick])).length : Int) := by rw [List.length_map]
      rw [← hZ] at c'
      clear hi hZ
      generalize ((gi (r ++ [.tick])).map fun (i : Nat) => PyData.int (0 + (i : Int))) = Z at *
      generalize hY : (r ++ [Lb.tick]).map encL = Y at *
      rw [Int.zero_add] at h2
      simp [g_w14, encRow, hY, h1, h2, c', lcGo, chk_ok]
    · have c' : ¬ ((n : Int) ≤ ((gi row).length : Int)) := by rw [gi_len]; omega
      simp [g_w14, chk_ok, c']
end
end LT
/-! # Lv3 -/
namespace LT
open PySem PySem.Spec PyProof.Rows L2 Tm
/-! ## what law's statements say of the data: 3 -/
theorem tks_no {m : Nat} : ∀ l ∈ tks m, l ≠ .off := fun l h => by rw [(List.mem_replicate.mp h).2]; simp
theorem tks_vl {m : Nat} : ∀ l ∈ tks m, vL l = true := fun l h => by rw [(List.mem_replicate.mp h).2]; rfl
theorem rep_tks (m : Nat) : repL [PyData.tuple [.str (kS .tick), .int 0]] m = (tks m).map encL := by
  unfold repL tks
  rw [List.map_replicate]
  induction m with
  | zero => rfl
  | succ m ih => rw [List.replicate_succ, List.flatten_cons, ih]; rfl
theorem ev_mulT {m : Nat} {i : Int} (hi : i = (m : Int)) (h1 : 1 ≤ m) (h4 : m ≤ 4) : mulTH (.tuple [.tuple [.str (kS .tick), .int 0]]) (.int i) = some (encRow (tks m)) := by
  subst hi
  unfold mulTH encRow
  simp only
  rw [if_pos ⟨⟨by simp, by simp⟩, by omega, by omega⟩, ← rep_tks]
  simp
theorem enc_bare (n : Nat) : enc (bare n) = .tuple [.str (kS .within), .int (n : Int), .tuple [.str (kS .wait), .int 3]] := by simp [bare, enc]
theorem enc_late (n : Nat) : enc (late n) = .tuple [.str (kS .last), enc (bare n), .tuple [.str (kS .within), .int 1, .tuple [.str (kS .say), .int 7]]] := by simp [late, enc]
section
variable {p q : Tm} {a : Addr} {tk : D} {n : Nat} {x6 x8 x9 x10 x11 x12 x13 x15 x16 x19 x20 x21 : Sl} {row : List Lb}
theorem ev_w15 (h : LwP p q) (hs : (leaves p).length + (leaves q).length ≤ 12) (h1 : 1 ≤ n) (h3 : n ≤ 3) (no : ∀ l ∈ row, l ≠ .off) (vl : ∀ l ∈ row, vL l = true) (ln : row.length ≤ 40) :
    g_w15 (den LV) (rhoL a (.int (n : Int)) (enc p) (enc q) x6 x8 (.im (enc (within n (both [p, q])))) (.im (encRow row)) x11 x12 x13 x15 x16 (.im (.list ((gi row).map fun (i : Nat) => .int (0 + (i : Int))))) x20 x21) =
    some (.nx (rhoL a (.int (n : Int)) (enc p) (enc q) x6 x8 (.im (enc (within n (both [p, q])))) (.im (encRow row)) x11 x12 x13 x15 x16 (.im (.list ((gi row).map fun (i : Nat) => .int (0 + (i : Int))))) x20 x21)) := by
  by_cases c : ticks row < n
  · have c' : ((gi row).length : Int) < (n : Int) := by rw [gi_len]; omega
    have e1 := (sp_den LV).isrun _ row (h.okBoth hs no vl ln) (by have := h.za; have := h.zb; simp only [sz, szs]; show _ ≤ 150; omega)
    have e2 := (sp_den LV).isrun _ row (h.okLim hs h1 h3 no vl ln) (by have := h.za; have := h.zb; simp only [sz, szs]; show _ ≤ 150; omega)
    rw [(limit_run no c).1] at e2
    rw [← e_both] at e1
    generalize enc (within n (both [p, q])) = T at *
    simp [g_w15, c', chk_ok, e1, e2, neH, PyData.eqv, PyData.depth]
  · have c' : ¬ ((gi row).length : Int) < (n : Int) := by rw [gi_len]; omega
    simp [g_w15, c']
theorem ev_w16 (h : LwP p q) (hs : (leaves p).length + (leaves q).length ≤ 12) (h1 : 1 ≤ n) (h3 : n ≤ 3) (no : ∀ l ∈ row, l ≠ .off) (vl : ∀ l ∈ row, vL l = true) (ln : row.length ≤ 40) :
    g_w16 (den LV) (rhoL a (.int (n : Int)) (enc p) (enc q) x6 x8 (.im (enc (within n (both [p, q])))) (.im (encRow row)) x11 x12 x13 x15 x16 (.im (.list ((gi row).map fun (i : Nat) => .int (0 + (i : Int))))) x20 x21) =
    some (.nx (rhoL a (.int (n : Int)) (enc p) (enc q) x6 x8 (.im (enc (within n (both [p, q])))) (.im (encRow row)) x11 x12 x13 x15 x16 (.im (.list ((gi row).map fun (i : Nat) => .int (0 + (i : Int))))) x20 x21)) := by
  by_cases c : ticks row < n
  · have c' : ((gi row).length : Int) < (n : Int) := by rw [gi_len]; omega
    have e1 := (sp_den LV).iswhole _ row (h.okBoth hs no vl ln) (by have := h.za; have := h.zb; simp only [sz, szs]; show _ ≤ 150; omega)
    have e2 := (sp_den LV).iswhole _ row (h.okLim hs h1 h3 no vl ln) (by have := h.za; have := h.zb; simp only [sz, szs]; show _ ≤ 150; omega)
    rw [(limit_run no c).2] at e2
    rw [← e_both] at e1
    generalize enc (within n (both [p, q])) = T at *
    simp [g_w16, c', chk_ok, e1, e2, neH, PyData.eqv, PyData.depth]
  · have c' : ¬ ((gi row).length : Int) < (n : Int) := by rw [gi_len]; omega
    simp [g_w16, c']
theorem ev_w17 : g_w17 (den LV) (rhoL a (.int (n : Int)) (enc p) (enc q) x6 x8 x9 x10 x11 x12 x13 x15 x16 x19 x20 x21) = some (.nx (rhoL a (.int (n : Int)) (enc p) (enc q) x6 x8 x9 x10 x11 x12 x13 x15 x16 x19 (.im (enc (bare n))) x21)) := by
  rw [enc_bare]
  simp [g_w17, chk_ok]
theorem ev_w18 (h1 : 1 ≤ n) (h3 : n ≤ 3) : g_w18 (den LV) (rhoL a (.int (n : Int)) (enc p) (enc q) x6 x8 x9 x10 x11 x12 x13 x15 x16 x19 (.im (enc (bare n))) x21) = some (.nx (rhoL a (.int (n : Int)) (enc p) (enc q) x6 x8 x9 x10 x11 x12 x13 x15 x16 x19 (.im (enc (bare n))) x21)) := by
  have f := bare_facts n h1 h3
  have e1 := (sp_den LV).isrun (bare n) (tks n) (ok_bare h1 h3 tks_no tks_vl (by simp [tks]; omega)) (by simp [bare, sz, LV])
  have e2 := (sp_den LV).isrun (bare n) (tks (n + 1)) (ok_bare h1 h3 tks_no tks_vl (by simp [tks]; omega)) (by simp [bare, sz, LV])
  rw [f.1] at e1
  rw [f.2] at e2
  have m1 := ev_mulT (m := n) (i := (n : Int)) rfl h1 (by omega)
  have m2 := ev_mulT (m := n + 1) (i := (n : Int) + 1) (by omega) (by omega) (by omega)
  generalize enc (bare n) = T at *
  simp [g_w18, chk_ok, m1, m2, e1, e2]
theorem ev_w19 (h1 : 1 ≤ n) (h3 : n ≤ 3) : g_w19 (den LV) (rhoL a (.int (n : Int)) (enc p) (enc q) x6 x8 x9 x10 x11 x12 x13 x15 x16 x19 (.im (enc (bare n))) x21) = some (.nx (rhoL a (.int (n : Int)) (enc p) (enc q) x6 x8 x9 x10 x11 x12 x13 x15 x16 x19 (.im (enc (bare n))) x21)) := by
  have f := bare_facts n h1 h3
  have e1 := (sp_den LV).iswhole (bare n) (tks n) (ok_bare h1 h3 tks_no tks_vl (by simp [tks]; omega)) (by simp [bare, sz, LV])
  rw [f.1] at e1
  have m1 := ev_mulT (m := n) (i := (n : Int)) rfl h1 (by omega)
  generalize enc (bare n) = T at *
  simp [isR] at e1
  simp [g_w19, chk_ok, m1, e1]
theorem ev_w20 : g_w20 (den LV) (rhoL a (.int (n : Int)) (enc p) (enc q) x6 x8 x9 x10 x11 x12 x13 x15 x16 x19 (.im (enc (bare n))) x21) = some (.nx (rhoL a (.int (n : Int)) (enc p) (enc q) x6 x8 x9 x10 x11 x12 x13 x15 x16 x19 (.im (enc (bare n))) (.im (enc (late n))))) := by
  rw [enc_late]
  simp [g_w20, chk_ok]
theorem ev_w21 (h1 : 1 ≤ n) (h3 : n ≤ 3) : g_w21 (den LV) (rhoL a (.int (n : Int)) (enc p) (enc q) x6 x8 x9 x10 x11 x12 x13 x15 x16 x19 x20 (.im (enc (late n)))) = some (.nx (rhoL a (.int (n : Int)) (enc p) (enc q) x6 x8 x9 x10 x11 x12 x13 x15 x16 x19 x20 (.im (enc (late n))))) := by
  have f := late_facts n h1 h3
  have e1 := (sp_den LV).iswhole (late n) (tks (n + 1)) (ok_late h1 h3 tks_no tks_vl (by simp [tks]; omega)) (by simp [late, bare, sz, LV])
  rw [f.2.1] at e1
  have m2 := ev_mulT (m := n + 1) (i := (n : Int) + 1) (by omega) (by omega) (by omega)
  generalize enc (late n) = T at *
  simp [isR] at e1
  simp [g_w21, chk_ok, m2, e1]
theorem ev_w22 (h1 : 1 ≤ n) (h3 : n ≤ 3) : g_w22 (den LV) (rhoL a (.int (n : Int)) (enc p) (enc q) x6 x8 x9 x10 x11 x12 x13 x15 x16 x19 x20 (.im (enc (late n)))) = some (.nx (rhoL a (.int (n : Int)) (enc p) (enc q) x6 x8 x9 x10 x11 x12 x13 x15 x16 x19 x20 (.im (enc (late n))))) := by
  have f := late_facts n h1 h3
  have hm : ∀ l ∈ tks n ++ [.say 7, .say 7], l ≠ .off ∧ vL l = true := fun l hl => by
    rcases List.mem_append.mp hl with h | h
    · exact ⟨tks_no l h, tks_vl l h⟩
    · simp at h
      rw [h]
      exact ⟨by simp, rfl⟩
  have e1 := (sp_den LV).firstwrong (late n) (tks n ++ [.say 7, .say 7]) (ok_late h1 h3 (fun l hl => (hm l hl).1) (fun l hl => (hm l hl).2) (by simp [tks]; omega)) (by simp [late, bare, sz, LV])
  rw [f.2.2] at e1
  have m1 := ev_mulT (m := n) (i := (n : Int)) rfl h1 (by omega)
  have er : addH (encRow (tks n)) (.tuple [.tuple [.str (kS .say), .int 7], .tuple [.str (kS .say), .int 7]]) = some (encRow (tks n ++ [.say 7, .say 7])) := by
    simp only [encRow, ev_addt]
    rw [chk_ok (by simp [tks]; omega), List.map_append]
    rfl
  generalize enc (late n) = T at *
  simp at e1
  simp [g_w22, chk_ok, m1, er, e1, neH]
theorem late_sz {m : Nat} (h : stand (late n) (tks m) = [⟨keep (within 1 (Tm.say 7)), [], 0⟩] ∨ stand (late n) (tks m) = [⟨rest, [], 0⟩]) : (∀ s ∈ stand (late n) (tks m), Tm.sz s.t ≤ Tm.sz (late n)) ∧ ∀ L : List St, L.Nodup → (∀ u, u ∈ L ↔ u ∈ stand (late n) (tks m)) → L.length ≤ 100 := by
  refine ⟨fun s hs => ?_, fun L nd hm => ?_⟩
  · rcases h with h | h
    · rw [h] at hs
      rw [List.mem_singleton.mp hs]
      simp [late, bare, Tm.sz]
    · rw [h] at hs
      rw [List.mem_singleton.mp hs]
      simp [late, bare, Tm.sz]
  · have := nodup_len' nd fun x hx => (hm x).mp hx
    rcases h with h | h <;> rw [h] at this <;> simp at this <;> omega
theorem ev_w23 (h1 : 1 ≤ n) (h3 : n ≤ 3) : g_w23 (den LV) (rhoL a (.int (n : Int)) (enc p) (enc q) x6 x8 x9 x10 x11 x12 x13 x15 x16 x19 x20 (.im (enc (late n)))) = some (.nx (rhoL a (.int (n : Int)) (enc p) (enc q) x6 x8 x9 x10 x11 x12 x13 x15 x16 x19 x20 (.im (enc (late n))))) := by
  have f := late_facts n h1 h3
  have z := late_sz (n := n) (m := n) (.inl f.1)
  obtain ⟨L, e1, hm⟩ := (sp_den LV).nextlabels (late n) (tks n) (ok_late h1 h3 tks_no tks_vl (by simp [tks]; omega)) (by simp [late, bare, sz, LV]) z.1 z.2
  rw [f.1] at hm
  have h7 : Lb.say 7 ∈ L := (hm _).mpr ⟨_, List.mem_singleton.mpr rfl, by decide⟩
  have m1 := ev_mulT (m := n) (i := (n : Int)) rfl h1 (by omega)
  have hin : inH (.tuple [.str (kS .say), .int 7]) (.tuple (L.map encL)) = some true := by
    unfold inH
    simp only [ev_itemst, Option.bind_some]
    rw [if_pos (by simp)]
    congr 1
    rw [List.any_eq_true]
    exact ⟨encL (.say 7), List.mem_map.mpr ⟨_, h7, rfl⟩, by simp [encL]⟩
  generalize enc (late n) = T at *
  simp [g_w23, chk_ok, m1, e1, hin]
theorem ev_w24 (h1 : 1 ≤ n) (h3 : n ≤ 3) : g_w24 (den LV) (rhoL a (.int (n : Int)) (enc p) (enc q) x6 x8 x9 x10 x11 x12 x13 x15 x16 x19 x20 (.im (enc (late n)))) = some (.rt (.bool true)) := by
  have f := late_facts n h1 h3
  have z := late_sz (n := n) (m := n + 1) (.inr f.2.1)
  obtain ⟨L, e1, hm⟩ := (sp_den LV).nextlabels (late n) (tks (n + 1)) (ok_late h1 h3 tks_no tks_vl (by simp [tks]; omega)) (by simp [late, bare, sz, LV]) z.1 z.2
  rw [f.2.1] at hm
  have hL : L = [] := List.eq_nil_iff_forall_not_mem.mpr fun l hl => by
    obtain ⟨s, hs, h⟩ := (hm l).mp hl
    rw [List.mem_singleton.mp hs] at h
    simp [LT.labels, isR] at h
  subst hL
  have m2 := ev_mulT (m := n + 1) (i := (n : Int) + 1) (by omega) (by omega) (by omega)
  generalize enc (late n) = T at *
  simp [g_w24, chk_ok, m2, e1]
end
end LT
/-! # Lv4 -/
namespace LT
open PySem PySem.Spec PyProof.Rows L2 Tm
/-! ## what law's statements say of the data: the race -/
/-- the value that law keeps for a piece -/
def valB (t : Tm) (row : List Lb) : Bool := ((stand t (own t row)).any fun s => s.t.isR) || (List.range (own t row).length).any fun i => (stand t ((own t row).take i)).any fun s => s.t.isR
theorem val_ended {t : Tm} {row : List Lb} (h : Ended t row) : valB t row = true := by
  obtain ⟨i, hi, h⟩ := h
  unfold valB
  by_cases c : i = (own t row).length
  · subst c
    rw [List.take_length] at h
    rw [h]
    rfl
  · rw [Bool.or_eq_true]
    exact .inr (List.any_eq_true.mpr ⟨i, List.mem_range.mpr (by omega), h⟩)
theorem own_row {t : Tm} {row : List Lb} (no : ∀ l ∈ row, l ≠ .off) (vl : ∀ l ∈ row, vL l = true) (ln : row.length ≤ 40) : (∀ l ∈ own t row, l ≠ .off) ∧ (∀ l ∈ own t row, vL l = true) ∧ (own t row).length ≤ 40 :=
  ⟨fun l h => no l (List.mem_filter.mp h).1, fun l h => vl l (List.mem_filter.mp h).1, Nat.le_trans (List.length_filter_le _ _) ln⟩
section
variable {p q t : Tm} {a : Addr} {tk : D} {n : Nat} {x6 x8 x9 x10 x11 x12 x13 x15 x16 x19 x20 x21 : Sl} {row : List Lb}
theorem ev_f0 (hv : vP 3 t = true) (hz : sz t ≤ 13) (no : ∀ l ∈ row, l ≠ .off) : g_f0 (den LV) (rhoL a tk (enc p) (enc q) x6 x8 x9 (.im (encRow row)) x11 x12 x13 (.im (enc t)) x16 x19 x20 x21) =
    some (.nx (rhoL a tk (enc p) (enc q) x6 x8 x9 (.im (encRow row)) x11 x12 x13 (.im (enc t)) (.im (encRow (own t row))) x19 x20 x21)) := by
  have e1 := (sp_den LV).Lspoken 3 t hv (by show 4 * sz t + 3 ≤ 150; omega) (by omega)
  have inner : ∀ (ρ : Rho), lcGo (bdN 17) bYes (cTup (cCons (cK (.str (kS .say))) (cCons (cV 17) cNil))) (rhoL a tk (enc p) (enc q) x6 x8 x9 (.im (encRow row)) x11 x12 x13 (.im (enc t)) x16 x19 x20 x21) ((words t).map intD) = some ((words t).map fun w => encL (.say w)) := fun _ =>
    lc_map fun w _ => ⟨_, rfl, by simp [intD, chk_ok, encL]⟩
  have lc : lcGo (bdN 14) (bOr (cmpB inH (bin2 atH (cV 14) (cK (.int 0))) (cLst (cCons (cK (.str (kS .come))) (cCons (cK (.str (kS .tick))) (cCons (cK (.str (kS .take))) cNil))))) (cmpB inH (cV 14) (cLc (itL (cCall 1 (den LV .fLspoken) (cCons (cV 15) cNil))) (bdN 17) bYes (cTup (cCons (cK (.str (kS .say))) (cCons (cV 17) cNil))) [17]))) (cV 14)
      (rhoL a tk (enc p) (enc q) x6 x8 x9 (.im (encRow row)) x11 x12 x13 (.im (enc t)) x16 x19 x20 x21) (row.map encL) = some ((own t row).map encL) := by
    refine lc_fmap (p := ownB t) fun l hl => ⟨_, rfl, ?_, by simp⟩
    have lc2 : lcGo (bdN 17) bYes (cTup (cCons (cK (.str (kS .say))) (cCons (cV 17) cNil))) [Sl.no, .lk a, .im tk, .no, .im (enc p), .im (enc q), x6, .no, x8, x9, .im (encRow row), x11, x12, x13, .im (encL l), .im (enc t), x16, .no, .no, x19, x20, x21] ((words t).map intD) = some ((words t).map fun w => encL (.say w)) :=
      lc_map fun w _ => ⟨_, rfl, by simp [intD, chk_ok, encL]⟩
    have hn := no l hl
    cases l with
    | off => exact absurd rfl hn
    | come e => simp [at_lb, lbk, chk_ok, ownB]
    | tick => simp [at_lb, lbk, chk_ok, ownB]
    | take e => simp [at_lb, lbk, chk_ok, ownB]
    | say w =>
      have hin : inH (encL (.say w)) (.list ((words t).map fun w => encL (.say w))) = some (decide (w ∈ words t)) := by
        unfold inH
        simp only [ev_items, Option.bind_some]
        rw [if_pos (dp_L _)]
        congr 1
        rw [Bool.eq_iff_iff, List.any_eq_true, decide_eq_true_eq]
        constructor
        · rintro ⟨d, hd, h⟩
          obtain ⟨u, hu, rfl⟩ := List.mem_map.mp hd
          simp at h
          rw [← h]
          exact hu
        · intro h
          exact ⟨_, List.mem_map.mpr ⟨w, h, rfl⟩, by simp⟩
      simp [at_lb, lbk, chk_ok, ownB, e1, lc2, hin]
  simp only [g_f0, lit_say, lit_come, lit_tick, lit_take, ev_sSet, ev_B, ev_Lc, ev_itT, ev_V, encRow, List.getElem?_cons_succ, List.getElem?_cons_zero, Option.bind_some]
  have w : wipeR (rhoL a tk (enc p) (enc q) x6 x8 x9 (.im (encRow row)) x11 x12 x13 (.im (enc t)) x16 x19 x20 x21) [14] = rhoL a tk (enc p) (enc q) x6 x8 x9 (.im (encRow row)) x11 x12 x13 (.im (enc t)) x16 x19 x20 x21 := rfl
  simp only [encRow, ev_Lc] at lc w
  rw [w, lc]
  rfl
/-- no take in the row, as law asks -/
def ntF : FB := cmpB niH (cK (.str "take")) (cLc (itT (cV 10)) (bdN 14) bYes (bin2 atH (cV 14) (cK (.int 0))) [14])
def ntB (row : List Lb) : Bool := !row.any fun l => decide (lbk l = .take)
theorem ntB_no {row : List Lb} (h : ntB row = true) : ∀ e, Lb.take e ∉ row := fun e he => by
  unfold ntB at h
  have : (row.any fun l => decide (lbk l = .take)) = true := List.any_eq_true.mpr ⟨_, he, by simp [lbk]⟩
  rw [this] at h
  cases h
theorem ev_nt : ntF (rhoL a tk (enc p) (enc q) x6 x8 x9 (.im (encRow row)) x11 x12 x13 x15 x16 x19 x20 x21) = some (ntB row) := by
  have lc : lcGo (bdN 14) bYes (bin2 atH (cV 14) (cK (.int 0))) (rhoL a tk (enc p) (enc q) x6 x8 x9 (.im (encRow row)) x11 x12 x13 x15 x16 x19 x20 x21) (row.map encL) = some (row.map fun l => .str (kS (lbk l))) :=
    lc_map fun l _ => ⟨_, rfl, by simp [at_lb]⟩
  have w : wipeR (rhoL a tk (enc p) (enc q) x6 x8 x9 (.im (encRow row)) x11 x12 x13 x15 x16 x19 x20 x21) [14] = rhoL a tk (enc p) (enc q) x6 x8 x9 (.im (encRow row)) x11 x12 x13 x15 x16 x19 x20 x21 := rfl
  have ni : niH (.str (kS .take)) (.list (row.map fun l => .str (kS (lbk l)))) = some (ntB row) := by
    unfold niH ntB
    simp only [ev_items, Option.bind_some]
    rw [if_pos (by simp)]
    simp [List.any_map, Function.comp_def]
  simp only [ntF, lit_take, ev_cmpB, ev_K, ev_Lc, ev_itT, ev_V, encRow, List.getElem?_cons_succ, List.getElem?_cons_zero, Option.bind_some]
  simp only [encRow] at lc w
  rw [w, lc]
  simp [ni]
/-- the value that law keeps -/
def vlF (c : Fns) : FE := vOr (cCall 2 (c .fiswhole) (cCons (cV 15) (cCons (cV 16) cNil))) (cmp2 neH (cLc (itR1 (cB lenH (cV 16))) (bdN 18) (bV (cCall 2 (c .fiswhole) (cCons (cV 15) (cCons (cSl (cV 16) cNo (cPt (cV 18))) cNil)))) (cV 18) [18]) (cLst cNil))
theorem cutT {xs : List D} {i : Nat} (h : i ≤ xs.length) : cutL xs none (some (i : Int)) = xs.take i := by
  have := HT.sIx_nat xs.length xs.length i
  rw [Nat.min_eq_left h] at this
  simp only [cutL, this, HT.sIx_none]
  simp
theorem ev_vl {r : List Lb} (ok : ∀ i, PlOk t (r.take i)) (hz : sz t ≤ 13) (hr : r.length ≤ 40) : vlF (den LV) (rhoL a tk (enc p) (enc q) x6 x8 x9 x10 x11 x12 x13 (.im (enc t)) (.im (encRow r)) x19 x20 x21) =
    some (.bool (((stand t r).any fun s => s.t.isR) || (List.range r.length).any fun i => (stand t (r.take i)).any fun s => s.t.isR)) := by
  have e0 := (sp_den LV).iswhole t r (by have := ok r.length; rwa [List.take_length] at this) (by show 4 * sz t + 6 ≤ 150; omega)
  have hb : (-1000 : Int) ≤ (r.length : Int) ∧ (r.length : Int) ≤ 1000 := by omega
  have it : itR1 (cB lenH (cV 16)) (rhoL a tk (enc p) (enc q) x6 x8 x9 x10 x11 x12 x13 (.im (enc t)) (.im (encRow r)) x19 x20 x21) = some (rangeD 0 r.length) := by
    simp [itR1, encRow, hb]
  have lc : lcGo (bdN 18) (bV (cCall 2 (den LV .fiswhole) (cCons (cV 15) (cCons (cSl (cV 16) cNo (cPt (cV 18))) cNil)))) (cV 18) (rhoL a tk (enc p) (enc q) x6 x8 x9 x10 x11 x12 x13 (.im (enc t)) (.im (encRow r)) x19 x20 x21) (rangeD 0 r.length) = some (((List.range r.length).filter fun i => (stand t (r.take i)).any fun s => s.t.isR).map fun (i : Nat) => .int (0 + (i : Int))) := by
    refine lc_fmap (p := fun i => (stand t (r.take i)).any fun s => s.t.isR) (f := fun (i : Nat) => .int (0 + (i : Int))) fun i hi => ⟨_, rfl, ?_, by simp⟩
    have hlt := List.mem_range.mp hi
    have e1 := (sp_den LV).iswhole t (r.take i) (ok i) (by show 4 * sz t + 6 ≤ 150; omega)
    have e2 : encRow (r.take i) = .tuple (cutL (r.map encL) none (some (0 + (i : Int)))) := by
      rw [Int.zero_add, cutT (by rw [List.length_map]; omega), encRow, List.map_take]
    rw [e2] at e1
    simp only [ev_bV, ev_Call, ev_Cons, ev_V, List.set_cons_succ, List.set_cons_zero, List.getElem?_cons_succ, List.getElem?_cons_zero, Option.bind_some, ev_Sl, ev_No, ev_Pt, encRow, ev_Nil, List.length_cons, List.length_nil, if_true, e1]
  have w : wipeR (rhoL a tk (enc p) (enc q) x6 x8 x9 x10 x11 x12 x13 (.im (enc t)) (.im (encRow r)) x19 x20 x21) [18] = rhoL a tk (enc p) (enc q) x6 x8 x9 x10 x11 x12 x13 (.im (enc t)) (.im (encRow r)) x19 x20 x21 := rfl
  have le : (List.range r.length).any (fun i => (stand t (r.take i)).any fun s => s.t.isR) = !((List.range r.length).filter fun i => (stand t (r.take i)).any fun s => s.t.isR).isEmpty := by
    rw [Bool.eq_iff_iff, List.any_eq_true]
    constructor
    · rintro ⟨i, hi, h⟩
      have := (List.mem_filter (p := fun i => (stand t (r.take i)).any fun s => s.t.isR)).mpr ⟨hi, h⟩
      cases e : (List.range r.length).filter fun i => (stand t (r.take i)).any fun s => s.t.isR with
      | nil => rw [e] at this; cases this
      | cons _ _ => rfl
    · intro h
      cases e : (List.range r.length).filter fun i => (stand t (r.take i)).any fun s => s.t.isR with
      | nil => rw [e] at h; cases h
      | cons i _ =>
        have hi : i ∈ (List.range r.length).filter fun i => (stand t (r.take i)).any fun s => s.t.isR := by rw [e]; exact List.mem_cons_self
        exact ⟨i, (List.mem_filter.mp hi).1, (List.mem_filter.mp hi).2⟩
  rw [le]
  have e3 : cCall 2 (den LV .fiswhole) (cCons (cV 15) (cCons (cV 16) cNil)) (rhoL a tk (enc p) (enc q) x6 x8 x9 x10 x11 x12 x13 (.im (enc t)) (.im (encRow r)) x19 x20 x21) = some (.bool ((stand t r).any fun s => s.t.isR)) := by
    simp [e0]
  unfold vlF
  simp only [ev_vOr, e3]
  cases (stand t r).any fun s => s.t.isR with
  | true => rfl
  | false =>
    simp only [ev_cmp2, ev_Lc, it, Option.bind_some, w, lc, Option.map_some, ev_Lst, ev_Nil, Bool.false_or]
    generalize (List.range r.length).filter (fun i => (stand t (r.take i)).any fun s => s.t.isR) = Z
    cases Z <;> simp [chk_ok]
end
end LT
/-! # Lh -/
namespace LT
open PySem PySem.Spec PyProof.Rows L2 Tm
/-! ## law's walk: helpers -/
theorem ext_of_B {G H G' H' : Hp} (x : ExtB (fun b => H b ≠ none) G H G' H') : Ext G H G' H' :=
  ⟨fun b o h => x.hb b o (by rw [h]; exact Option.some_ne_none o) h, x.gg, x.gh, fun b h => by
    by_cases e : H b = none
    · exact .inr e
    · exact .inl (x.nb b e h)⟩
section
variable {K : KF} {G H G' : Hp} {σ : L2.St} {ρ ρ' : Rho}
theorem no_ow (no : ρ.any Sl.isOw = false) {i : Nat} {ds : List D} : ρ[i]? ≠ some (.ow ds) := not_ow (by rw [no]; simp)
theorem sin_of (sg : Same G H) (ev : EnvR K G H σ ρ) (no : ρ.any Sl.isOw = false) : SIn K (fun b => H b ≠ none) G H σ ρ := ⟨sg, ⟨ev, fun i ds a h _ => absurd h (no_ow no)⟩, fun b h => h⟩
/-- a pure statement that goes on -/
theorem sfx {g : FS} {Dn : Ends} (sg : Same G H) (ev : EnvR K G H σ ρ) (no : ρ.any Sl.isOw = false) (e : g ρ = some (.nx ρ')) (k : ∀ σ' G' H', Ext G H G' H' → EnvR K G' H' σ' ρ' → Dn.nx σ' H') : tS K g Dn σ H :=
  ⟨ρ, G, fun b => H b ≠ none, .nx ρ', sin_of sg ev no, e, fun σ' G' H' x i => k σ' G' H' (ext_of_B x) i.eb.ev⟩
/-- a pure statement that returns -/
theorem sfr {g : FS} {Dn : Ends} {d : D} (sg : Same G H) (ev : EnvR K G H σ ρ) (no : ρ.any Sl.isOw = false) (e : g ρ = some (.rt d)) (k : ∀ v G' H', Ext G H G' H' → Rp K G' v d → Dn.rt v H') : tS K g Dn σ H :=
  ⟨ρ, G, fun b => H b ≠ none, .rt d, sin_of sg ev no, e, fun v G' H' x r => k v G' H' (ext_of_B x) r⟩
theorem EnvR.gg (ev : EnvR K G H σ ρ) (no : ρ.any Sl.isOw = false) (s : Same G G') (H' : Hp) : EnvR K G' H' σ ρ :=
  ⟨ev.len, fun i d h => let ⟨v, a, b⟩ := ev.im i d h; ⟨v, a, b.same s⟩, fun i ds h => absurd h (no_ow no), fun i j ds es h _ => absurd h (no_ow no), ev.lk⟩
theorem EnvR.addLk (e : EnvR K G H σ ρ) {i : Nat} {a : Addr} (h : σ[i]? = some (some (.ref a))) : EnvR K G H σ (ρ.set i (.lk a)) := by
  refine ⟨by simp [e.len], fun j c q => ?_, fun j ds q => ?_, fun j k ds es h1 h2 => ?_, fun j b q => ?_⟩
  · rcases set_get q with ⟨_, q2⟩ | ⟨_, q2⟩
    · cases q2
    · exact e.im j c q2
  · rcases set_get q with ⟨_, q2⟩ | ⟨_, q2⟩
    · cases q2
    · exact e.ow j ds q2
  · rcases set_get h1 with ⟨_, q⟩ | ⟨_, q1⟩
    · cases q
    · rcases set_get h2 with ⟨_, q⟩ | ⟨_, q2⟩
      · cases q
      · exact e.one j k ds es q1 q2
  · rcases set_get q with ⟨rfl, q2⟩ | ⟨_, q2⟩
    · cases q2; exact h
    · exact e.lk j b q2
/-- a slot that takes a link -/
theorem EnvR.setLk (e : EnvR K G H σ ρ) (no : ρ.any Sl.isOw = false) {i : Nat} (a : Addr) (hi : i < σ.length) : EnvR K G H (σ.set i (some (.ref a))) (ρ.set i (.lk a)) := by
  have get : ∀ {j : Nat} {w : V}, σ[j]? = some (some w) → j ≠ i → (σ.set i (some (.ref a)))[j]? = some (some w) := fun {j w} h ne => by
    rw [List.getElem?_set_ne (Ne.symm ne)]; exact h
  refine ⟨by simp [e.len], fun j c q => ?_, fun j ds q => ?_, fun j k ds es h1 _ => ?_, fun j b q => ?_⟩
  · rcases set_get q with ⟨_, q2⟩ | ⟨ne, q2⟩
    · cases q2
    · obtain ⟨v, h1, h2⟩ := e.im j c q2
      exact ⟨v, get h1 ne, h2⟩
  · rcases set_get q with ⟨_, q2⟩ | ⟨ne, q2⟩
    · cases q2
    · exact absurd q2 (no_ow no)
  · rcases set_get h1 with ⟨_, q⟩ | ⟨_, q1⟩
    · cases q
    · exact absurd q1 (no_ow no)
  · rcases set_get q with ⟨rfl, q2⟩ | ⟨ne, q2⟩
    · cases q2; rw [List.getElem?_set_self hi]
    · exact get (e.lk j b q2) ne
/-- what a link tells -/
theorem EnvR.link (e : EnvR K G H σ ρ) {i : Nat} {a : Addr} (h : ρ[i]? = some (.lk a)) : σ[i]? = some (some (.ref a)) := e.lk i a h
end
/-- atN behind a store -/
theorem atN_put (xs : List EN) (k k' : NestedKey) (b : Addr) (v : V) : atN (putN xs k b v) k' = if k' = k then some v else atN xs k' := by
  have map_at : ∀ zs : List EN, atN (zs.map (putE k v)) k' = if k' = k then (if k ∈ zs.map (·.1) then some v else none) else atN zs k' := by
    intro zs
    induction zs with
    | nil => unfold atN; simp
    | cons z zs ih =>
      by_cases e1 : z.1 = k
      · by_cases e2 : k' = k
        · subst e2
          simp [atN, putE, e1]
        · have e3 : ¬ k = k' := fun h => e2 h.symm
          have ih' := ih
          rw [if_neg e2] at ih' ⊢
          unfold atN at ih' ⊢
          simp only [List.map_cons, putE, List.find?_cons, e1, ↓reduceIte, e3, decide_false]
          exact ih'
      · by_cases e2 : k' = k
        · subst e2
          have e3 : ¬ k' = z.1 := fun h => e1 h.symm
          rw [if_pos rfl] at ih ⊢
          unfold atN at ih ⊢
          simp only [List.map_cons, putE, List.find?_cons, e1, ↓reduceIte, decide_false, List.mem_cons, e3, false_or]
          exact ih
        · rw [if_neg e2] at ih ⊢
          unfold atN at ih ⊢
          simp only [List.map_cons, putE, List.find?_cons, e1, ↓reduceIte]
          by_cases e4 : z.1 = k'
          · simp [e4]
          · simp only [e4, decide_false]
            exact ih
  unfold putN
  have e : (xs.any fun x => decide (x.1 = k)) = true ↔ k ∈ xs.map (·.1) := by
    rw [List.any_eq_true]
    constructor
    · rintro ⟨x, hx, h⟩
      exact List.mem_map.mpr ⟨x, hx, of_decide_eq_true h⟩
    · intro h
      obtain ⟨x, hx, h⟩ := List.mem_map.mp h
      exact ⟨x, hx, decide_eq_true h⟩
  by_cases h : k ∈ xs.map (·.1)
  · rw [if_pos (e.mpr h), map_at]
    by_cases e2 : k' = k
    · rw [if_pos e2, if_pos e2, if_pos h]
    · rw [if_neg e2, if_neg e2]
  · rw [if_neg (fun z => h (e.mp z))]
    unfold atN
    rw [List.find?_append]
    by_cases e2 : k' = k
    · subst e2
      have : xs.find? (fun x => decide (x.1 = k')) = none := List.find?_eq_none.mpr fun x hx z => h (List.mem_map.mpr ⟨x, hx, of_decide_eq_true z⟩)
      rw [this, if_pos rfl]
      simp
    · have e3 : ¬ k = k' := fun h => e2 h.symm
      rw [if_neg e2]
      cases xs.find? (fun x => decide (x.1 = k')) <;> simp [e3]
end LT
/-! # Lg1 -/
namespace LT
open PySem PySem.Spec PyProof.Rows L2 Tm
/-! ## law's walk: the if behind the race -/
theorem tseq_mid {t u : TS} {D : Ends} {σ : L2.St} {H : Hp} (R : L2.St → Hp → Prop) (h1 : ∀ N : L2.St → Hp → Prop, (∀ σ H, R σ H → N σ H) → t { D with nx := N } σ H) (h2 : ∀ σ H, R σ H → u D σ H) : tSeq t u D σ H := h1 (u D) h2
theorem rp_ref {K : KF} {G : Hp} {v : V} {t : Tm} (r : Rp K G v (enc t)) : ∃ b, v = .ref b := by
  cases t <;> simp only [enc] at r <;> cases r <;> exact ⟨_, rfl⟩
@[simp] theorem ow_lk (a : Addr) : Sl.isOw (.lk a) = false := rfl
theorem no_rho {a : Addr} {tk d4 d5 : D} {x6 x8 x9 x10 x11 x12 x13 x15 x16 x19 x20 x21 : Sl} (h : [x6, x8, x9, x10, x11, x12, x13, x15, x16, x19, x20, x21].any Sl.isOw = false) : (rhoL a tk d4 d5 x6 x8 x9 x10 x11 x12 x13 x15 x16 x19 x20 x21).any Sl.isOw = false := by
  simp at h ⊢
  simp [h]
theorem Rw.efd {P : Program} {w : World} {K : KF} {sc a p : Addr} {G H G' H' : Hp} {zs : List EN} (hw : Rw K sc H a) (hp : H p = Option.some (dN P w p zs)) (ef : Ef (· = p) G H G' H') : Rw K sc H' a := by
  obtain ⟨ns, i, j, k, e, r⟩ := hw
  have ha : a ≠ p := fun z => by rw [z, hp] at e; cases e
  refine ⟨ns, i, j, k, ef.hh a _ ha e, ?_, r.ne, r.i0, r.jb⟩
  rcases r.sq with (h | ⟨q, h⟩) | h
  · exact .inl (.inl (ef.hh sc _ (fun z => by rw [z, hp] at h; cases h) h))
  · exact .inl (.inr ⟨q, ef.hh sc _ (fun z => by rw [z, hp] at h; cases h) h⟩)
  · exact .inr h
/-- what the dict says of a datum -/
def dv (zs : List EN) (d : D) : Option Bool := (kD d).bind fun k => if isTupD d = true ∧ k.depth ≤ 8 then (match atN zs k with
  | some (.bl b) => some b
  | _ => none) else none
def dF (p : Addr) (zs : List EN) : FB := fun ρ => match ρ[(12 : Nat)]? with
  | some (.lk q) => if q = p then (cV 15 ρ).bind (dv zs) else none
  | _ => none
abbrev ifT (K : KF) (X : Cx) : TS := tIfS (tAnd (tFB K ntF) (tTest (tOp (rDB K eqH) (tLc (tFI K (itT (cTup (cCons (cV 4) (cCons (cV 5) cNil))))) (gName 15) (tB (tGetN X (tVar 12) (tVar 15))) (tF K (cV 15)) [15]) (tF K (cLst cNil))))) (tRet (tC (.bl false))) tNext
abbrev forT (K : KF) (X : Cx) (c : Fns) : TS := tFor (tFI K (itT (cTup (cCons (cV 4) (cCons (cV 5) cNil))))) (gName 15) (tSeq (tS K (g_f0 c)) (tIfS (tFB K ntF) (tAsg (tF K (vlF c)) (gSub (tVar 12) (tVar 15) (rSetN X))) tNext))
section
variable {K : KF} {X : Cx} {u1 u2 : Tm} {a p sc : Addr} {tk : D} {n : Nat} {b : Bool} {x8 x9 x11 x15 x16 x19 x20 x21 : Sl} {row : List Lb} {s : St}
/-- the dict behind so many pieces -/
def DZ (u1 u2 : Tm) (row : List Lb) (i : Nat) (zs : List EN) : Prop := zs.length ≤ i ∧ (ntB row = true → (1 ≤ i → atN zs (keyT u1) = some (.bl (valB u1 row))) ∧ (2 ≤ i → atN zs (keyT u2) = some (.bl (valB u2 row))))
theorem dz_put {i : Nat} {zs : List EN} {t : Tm} {b : Addr} (ht : (i = 0 ∧ t = u1) ∨ (i = 1 ∧ t = u2)) (h : DZ u1 u2 row i zs) : DZ u1 u2 row (i + 1) (putN zs (keyT t) b (.bl (valB t row))) := by
  refine ⟨by have := putN_len zs (keyT t) b (.bl (valB t row)); have := h.1; omega, fun hn => ?_⟩
  obtain ⟨h1, h2⟩ := h.2 hn
  rcases ht with ⟨rfl, rfl⟩ | ⟨rfl, rfl⟩
  · exact ⟨fun _ => by rw [atN_put, if_pos rfl], fun z => by omega⟩
  · refine ⟨fun _ => ?_, fun _ => by rw [atN_put, if_pos rfl]⟩
    rw [atN_put]
    by_cases e : keyT u1 = keyT t
    · rw [if_pos e, keyT_inj _ _ e]
    · rw [if_neg e]; exact h1 (Nat.le_refl _)
theorem dz_no {i : Nat} {zs : List EN} (hn : ntB row = false) (h : DZ u1 u2 row i zs) : DZ u1 u2 row (i + 1) zs := ⟨Nat.le_succ_of_le h.1, fun z => by rw [hn] at z; cases z⟩
theorem forT_ok (hK : X.K = K) {D : Ends} {σ : L2.St} {G H : Hp} {x13 : Sl} (lp : LwP u1 u2) (no : ∀ l ∈ row, l ≠ .off) (vl : ∀ l ∈ row, vL l = true) (ln : row.length ≤ 40)
    (ho : [x8, x9, x11, x13, x15, x16, x19, x20, x21].any Sl.isOw = false) (sg : Same G H) (ev : EnvR K G H σ (rhoL a tk (enc u1) (enc u2) (.im (.bool b)) x8 x9 (.im (encRow row)) x11 (.lk p) x13 x15 x16 x19 x20 x21))
    (hp : H p = some (dN X.prog X.w p [])) (gp : G p = none)
    (hN : ∀ (σ' : L2.St) (G' H' : Hp) (y15 y16 : Sl) (zs : List EN), y15.isOw = false → y16.isOw = false → EnvR K G' H' σ' (rhoL a tk (enc u1) (enc u2) (.im (.bool b)) x8 x9 (.im (encRow row)) x11 (.lk p) x13 y15 y16 x19 x20 x21) → Ef (· = p) G H G' H' → H' p = some (dN X.prog X.w p zs) → KAll K G' zs → DZ u1 u2 row 2 zs → D.nx σ' H') :
    forT K X (den LV) D σ H := by
  subst hK
  simp only [List.any_cons, List.any_nil, Bool.or_eq_false_iff] at ho
  obtain ⟨o8, o9, o11, o13, o15, o16, o19, o20, o21, _⟩ := ho
  refine ⟨_, G, [enc u1, enc u2], sg, ev, by simp [chk_ok], fun J Gd Y G1 H1 x1 yl => ?_⟩
  have hp1 : H1 p = some (dN X.prog X.w p []) := x1.hh _ _ hp
  have g1 : G1 p = none := x1.keep gp hp
  refine for_it yl.w (fun i σ H' => ∃ (G' : Hp) (y15 y16 : Sl) (zs : List EN), y15.isOw = false ∧ y16.isOw = false ∧ EnvR X.K G' H' σ (rhoL a tk (enc u1) (enc u2) (.im (.bool b)) x8 x9 (.im (encRow row)) x11 (.lk p) x13 y15 y16 x19 x20 x21) ∧ Ef (· = p) G1 H1 G' H' ∧ H' p = some (dN X.prog X.w p zs) ∧ KAll X.K G' zs ∧ DZ u1 u2 row i zs) ?_ ?_ ?_ ?_
  · exact ⟨G1, x15, x16, [], o15, o16, ev.ext x1, Ef.refl x1.gh, hp1, (fun x hx => by cases hx), by simp, fun _ => ⟨fun z => by omega, fun z => by omega⟩⟩
  · rintro i σ H' _ ⟨G', y15, y16, zs, _, _, _, ef, _⟩
    exact yl.gd H' (ef.gg.trans ef.gh)
  · rintro i x σ H' H'' hlt ⟨G', y15, y16, zs, q15, q16, ev', ef, hz, ka, dz⟩ hy
    obtain ⟨d', hd, hkk⟩ := yl.y i H' x H'' hlt (ef.gg.trans ef.gh) hy
    obtain ⟨G5, x5, r5⟩ := hkk G' ef.gg ef.gh
    obtain ⟨t, rfl, ht, hv, hsz, hok⟩ : ∃ t, d' = enc t ∧ ((i = 0 ∧ t = u1) ∨ (i = 1 ∧ t = u2)) ∧ vP 3 t = true ∧ sz t ≤ 13 ∧ ∀ j, PlOk t ((own t row).take j) := by
      have hi : i = 0 ∨ i = 1 := by simp at hlt; omega
      rcases hi with rfl | rfl
      · obtain ⟨z1, z2, z3⟩ := own_row (t := u1) no vl ln
        simp at hd
        exact ⟨u1, hd.symm, .inl ⟨rfl, rfl⟩, lp.va, lp.za, fun j => lp.okA (fun l hl => z1 l (List.mem_of_mem_take hl)) (fun l hl => z2 l (List.mem_of_mem_take hl)) (by rw [List.length_take]; omega)⟩
      · obtain ⟨z1, z2, z3⟩ := own_row (t := u2) no vl ln
        simp at hd
        exact ⟨u2, hd.symm, .inr ⟨rfl, rfl⟩, lp.vb, lp.zb, fun j => lp.okB (fun l hl => z1 l (List.mem_of_mem_take hl)) (fun l hl => z2 l (List.mem_of_mem_take hl)) (by rw [List.length_take]; omega)⟩
    have ev5 : EnvR X.K G5 H'' (σ.set 15 (some x)) (rhoL a tk (enc u1) (enc u2) (.im (.bool b)) x8 x9 (.im (encRow row)) x11 (.lk p) x13 (.im (enc t)) y16 x19 x20 x21) := (ev'.ext x5).set r5 15
    refine sfx x5.gh ev5 (no_rho (by simp [*])) (ev_f0 hv hsz no) fun σ6 G6 H6 x6 ev6 => ?_
    have ef6 := (ef.trans (Ef.of (M := (· = p)) x5)).trans (Ef.of x6)
    have hz6 := x6.hh _ _ (x5.hh _ _ hz)
    have ka6 := (ka.same x5.gg).same x6.gg
    refine ⟨_, G6, ntB row, x6.gh, ev6, ev_nt, fun G7 H7 x7 => ?_⟩
    have ef7 := ef6.trans (Ef.of (M := (· = p)) x7)
    have hz7 := x7.hh _ _ hz6
    have ka7 := ka6.same x7.gg
    have ev7 := ev6.ext x7
    cases hnt : ntB row with
    | false => exact iteF ⟨G7, _, _, zs, rfl, rfl, ev7, ef7, hz7, ka7, dz_no hnt dz⟩
    | true =>
      refine iteT ⟨_, G7, _, x7.gh, ev7, ev_vl hok hsz (own_row no vl ln).2.2, fun v G8 H8 x8' r8 => ?_⟩
      have ev8 := ev7.ext x8'
      have ef8 := ef7.trans (Ef.of (M := (· = p)) x8')
      have hz8 := x8'.hh _ _ hz7
      have ka8 := ka7.same x8'.gg
      obtain ⟨v15, s15, r15⟩ := ev8.im 15 _ rfl
      obtain ⟨pb, rfl⟩ := rp_ref r15
      have kd8 : (keyT t).depth ≤ 8 := by
        have h1 := key_dp t
        have h2 := dp_vP 3 t hv
        omega
      have g8 : G8 p = none := ef8.keep g1 (by rw [hp1]; exact fun z => nomatch z)
      refine ⟨.ref p, ev8.lk 12 p rfl, .ref pb, s15, p, pb, zs, enc t, keyT t, rfl, rfl, hz8, ka8.same x8'.gh, ?_, r15.same x8'.gh, kD_enc t, kd8, ?_⟩
      · have := dz.1
        have hi : i < 2 := hlt
        rw [sizeLine_eq]
        omega
      · have r8' : v = .bl (valB t row) := by
          unfold valB
          cases r8
          rfl
        subst r8'
        refine ⟨G8, _, _, _, rfl, rfl, ev8.gg (no_rho (by simp [*])) (Same.refl G8) _, ef8.trans (Ef.up (M := (· = p)) x8'.gh g8 rfl _), upd_same, fun y hy => ?_, dz_put ht dz⟩
        rcases putN_mem y hy with ⟨z, hzz, e1, e2⟩ | rfl
        · rw [← e1, ← e2]; exact ka8 z hzz
        · exact ⟨enc t, r15, kD_enc t, kd8⟩
  · rintro σ H' ⟨G', y15, y16, zs, q15, q16, ev', ef, hz, ka, dz⟩
    exact hN σ G' H' y15 y16 zs q15 q16 ev' ((Ef.of (M := (· = p)) x1).trans ef) hz ka dz
end
end LT
/-! # Lg2 -/
namespace LT
open PySem PySem.Spec PyProof.Rows L2 Tm
theorem enc_tup (t : Tm) : isTupD (enc t) = true := by cases t <;> rfl
section
variable {K : KF} {X : Cx} {u1 u2 : Tm} {a p sc : Addr} {tk : D} {n : Nat} {b : Bool} {x8 x9 x11 x15 x16 x19 x20 x21 : Sl} {row : List Lb} {s : St}
theorem ifT_ok (hK : X.K = K) {D : Ends} {σ : L2.St} {G H : Hp} {x13 : Sl} {zs : List EN} (lp : LwP u1 u2)
    (ho : [x8, x9, x11, x13, x15, x16, x19, x20, x21].any Sl.isOw = false) (sg : Same G H) (ev : EnvR K G H σ (rhoL a tk (enc u1) (enc u2) (.im (.bool b)) x8 x9 (.im (encRow row)) x11 (.lk p) x13 x15 x16 x19 x20 x21))
    (hz : H p = some (dN X.prog X.w p zs)) (ka : KAll K G zs) (dz : DZ u1 u2 row 2 zs) (hend : ntB row = true → valB u1 row = true ∨ valB u2 row = true)
    (hN : ∀ (G' H' : Hp), Ext G H G' H' → D.nx σ H') : ifT K X D σ H := by
  subst hK
  refine ⟨_, G, ntB row, sg, ev, ev_nt, fun G1 H1 x1 => ?_⟩
  cases hnt : ntB row with
  | false => exact iteF (iteF (hN G1 H1 x1))
  | true =>
    obtain ⟨z1, z2⟩ := dz.2 hnt
    have hz1 := x1.hh _ _ hz
    have ka1 := ka.same x1.gg
    refine iteT ?_
    show tLc (tFI X.K (itT (cTup (cCons (cV 4) (cCons (cV 5) cNil))))) (gName 15) (tB (tGetN X (tVar 12) (tVar 15))) (tF X.K (cV 15)) [15] σ H1 (fun xv H2 => tF X.K (cLst cNil) σ H2 fun yv H3 => rDB X.K eqH xv yv H3 fun x H' => ∃ k, x = .bl k ∧ (if k = true then tRet (tC (.bl false)) D σ H' else tNext D σ H'))
    refine lc_of2 (ft := dF p zs) (tg_name 15) (by decide) ?_ ?_
    · intro σ' G' H' ρ' t R s1 s2 ev' hf k
      unfold dF at hf
      split at hf
      case h_2 => cases hf
      rename_i q hq
      split at hf
      case isFalse => cases hf
      rename_i hqp
      subst hqp
      obtain ⟨d, hc, hv⟩ := Option.bind_eq_some_iff.mp hf
      unfold dv at hv
      obtain ⟨kk, hk, hv⟩ := Option.bind_eq_some_iff.mp hv
      split at hv
      case isFalse => cases hv
      rename_i h8
      split at hv
      case h_2 => cases hv
      rename_i b' hat
      cases hv
      obtain ⟨v, sv, rv⟩ := ev'.im 15 d (cV_some hc)
      cases rv with
      | tup hq2 z r =>
        exact ⟨.ref _, ev'.lk 12 _ hq, _, sv, _, _, zs, _, kk, .bl t, rfl, rfl, s1 _ _ hz1, (ka1.same x1.gh).same s1, (Rp.tup hq2 z r).same s2, hk, h8.2, hat, ⟨t, rfl, k G' H' (Ext.refl s2)⟩⟩
      | _ => exact absurd h8.1 (by simp [isTupD])
    · have ev1 := ev.ext x1
      have lc : lcGo (bdN 15) (dF p zs) (cV 15) (wipeR (rhoL a tk (enc u1) (enc u2) (.im (.bool b)) x8 x9 (.im (encRow row)) x11 (.lk p) x13 x15 x16 x19 x20 x21) [15]) ([u1, u2].map enc) = some (([u1, u2].filter fun t => valB t row).map enc) := by
        refine lc_fmap (p := fun t => valB t row) fun t ht => ⟨_, rfl, ?_, by simp⟩
        have hat : atN zs (keyT t) = some (.bl (valB t row)) ∧ (keyT t).depth ≤ 8 := by
          simp at ht
          rcases ht with rfl | rfl
          · exact ⟨z1 (by omega), by have := key_dp t; have := dp_vP 3 t lp.va; omega⟩
          · exact ⟨z2 (by omega), by have := key_dp t; have := dp_vP 3 t lp.vb; omega⟩
        show (if p = p then (some (enc t)).bind (dv zs) else none) = _
        rw [if_pos rfl, Option.bind_some]
        unfold dv
        rw [kD_enc, Option.bind_some, if_pos ⟨enc_tup t, hat.2⟩, hat.1]
      have ne : ([u1, u2].filter fun t => valB t row) ≠ [] := by
        rcases hend hnt with h | h
        · exact List.ne_nil_of_mem ((List.mem_filter (p := fun t => valB t row)).mpr ⟨List.mem_cons_self, h⟩)
        · exact List.ne_nil_of_mem ((List.mem_filter (p := fun t => valB t row)).mpr ⟨List.mem_cons_of_mem _ List.mem_cons_self, h⟩)
      generalize ([u1, u2].filter fun t => valB t row) = L at lc ne
      refine ⟨_, G1, .list (L.map enc), x1.gh, ev1, ?_, fun v G2 H2 x2 r2 => ?_⟩
      · have it : itT (cTup (cCons (cV 4) (cCons (cV 5) cNil))) (rhoL a tk (enc u1) (enc u2) (.im (.bool b)) x8 x9 (.im (encRow row)) x11 (.lk p) x13 x15 x16 x19 x20 x21) = some [enc u1, enc u2] := by simp [chk_ok]
        rw [ev_Lc, it, Option.bind_some]
        have lc' := lc
        rw [List.map_cons, List.map_cons, List.map_nil] at lc'
        rw [lc']
        rfl
      · refine ⟨_, G2, .list [], x2.gh, ev1.ext x2, by simp [chk_ok], fun v2 G3 H3 x3 r3 => ⟨G3, .list (L.map enc), .list [], false, x3.gh, r2.same x3.gg, r3, ?_, ⟨false, rfl, iteF (hN G3 H3 ((x1.trans x2).trans x3))⟩⟩⟩
        cases L with
        | nil => exact absurd rfl ne
        | cons u L => simp
/-- the if behind the race -/
abbrev t10 (K : KF) (X : Cx) (c : Fns) : TS := tIfS (tFB K (bAnd (bV (cV 6)) (cmpB eqH (bin2 atH (cV 11) (cK (.int 0))) (cTup (cCons (cK (.str "rest")) cNil))))) (tSeq (tS K (g_i0 c)) (tSeq (forT K X c) (tSeq (ifT K X) (tS K (g_i3 c))))) tNext
theorem t10_ok (hK : X.K = K) {D : Ends} {σ : L2.St} {G H : Hp} {x13 : Sl} (lp : LwP u1 u2) (hR : Reach (first [u1, u2]) row s) (hb : b = true → plainT u1 ∧ plainT u2) (no : ∀ l ∈ row, l ≠ .off) (vl : ∀ l ∈ row, vL l = true) (ln : row.length ≤ 40)
    (ho : [x8, x9, x13, x15, x16, x19, x20, x21].any Sl.isOw = false) (sg : Same G H) (ev : EnvR K G H σ (rhoL a tk (enc u1) (enc u2) (.im (.bool b)) x8 x9 (.im (encRow row)) (.im (encSt s)) (.lk p) x13 x15 x16 x19 x20 x21))
    (hp : H p = some (dN X.prog X.w p [])) (gp : G p = none)
    (hN : ∀ (σ' : L2.St) (G' H' : Hp) (y13 y15 y16 : Sl), y13.isOw = false → y15.isOw = false → y16.isOw = false → EnvR K G' H' σ' (rhoL a tk (enc u1) (enc u2) (.im (.bool b)) x8 x9 (.im (encRow row)) (.im (encSt s)) (.lk p) y13 y15 y16 x19 x20 x21) → Ef (· = p) G H G' H' → D.nx σ' H') :
    t10 K X (den LV) D σ H := by
  have ho' := ho
  simp only [List.any_cons, List.any_nil, Bool.or_eq_false_iff] at ho'
  obtain ⟨o8, o9, o13, o15, o16, o19, o20, o21, _⟩ := ho'
  have hpn : H p ≠ none := by rw [hp]; exact fun z => nomatch z
  refine ⟨_, G, b && s.t.isR, sg, ev, ?_, fun G1 H1 x1 => ?_⟩
  · cases b <;> simp [encSt, chk_ok]
  have ev1 := ev.ext x1
  cases hc : b && s.t.isR with
  | false => exact iteF (hN σ G1 H1 _ _ _ o13 o15 o16 ev1 (Ef.of x1))
  | true =>
    rw [Bool.and_eq_true] at hc
    refine iteT (sfx x1.gh ev1 (no_rho (by simp [*])) ev_i0 fun σ2 G2 H2 x2 ev2 => ?_)
    have e2 : Ef (· = p) G H G2 H2 := (Ef.of x1).trans (Ef.of x2)
    have g2 : G2 p = none := e2.keep gp hpn
    refine forT_ok hK lp no vl ln (by simp [*]) x2.gh ev2 (x2.hh _ _ (x1.hh _ _ hp)) g2 fun σ3 G3 H3 y15 y16 zs q15 q16 ev3 e3 hz ka dz => ?_
    have hend : ntB row = true → valB u1 row = true ∨ valB u2 row = true := fun hn => by
      obtain ⟨p1, p2⟩ := hb hc.1
      rcases race_inv p1 p2 lp.dj hR (ntB_no hn) with ⟨x, y, e, _⟩ | ⟨_, h | h⟩
      · have := hc.2
        rw [e] at this
        cases this
      · exact .inl (val_ended h)
      · exact .inr (val_ended h)
    refine ifT_ok hK lp (by simp [*]) e3.gh ev3 hz ka dz hend fun G4 H4 x4 => ?_
    refine sfx x4.gh (ev3.ext x4) (no_rho (by simp [*])) (ev_i3 lp (by rw [List.length_map]; exact race_says hR)) fun σ5 G5 H5 x5 ev5 => ?_
    exact hN σ5 G5 H5 _ _ _ rfl q15 q16 ev5 (((e2.trans e3).trans (Ef.of x4)).trans (Ef.of x5))
end
end LT
/-! # Lg -/
namespace LT
open PySem PySem.Spec PyProof.Rows L2 Tm
/-- law answers True -/
def spLaw (K : KF) : Sp := fun vs H Q _ => ∃ (sc : Addr) (ns : List Int), vs = [.ref sc] ∧ SqL K H sc (ns.map V.int) ∧ ∀ H', Q (.bl true) H'
section
variable {P : Program} {w : World} {K : KF} {mg : Str → Option Value} {base : Heap} {f : Addr} {fd : FuncData}
theorem fn_law (T : Txt K mg) (Ds : Defs K mg) (Es : EDefs K mg) (F : FnP K "law" slaw f fd) : FnG P w K mg base 161 f fd ["_law_script"] (spLaw K) := by
  refine fn_guard F sc_law (fun vs H Q E h => ?_) (fun cdv A outer s H vs Q E hg0 hr h => ?_)
  · obtain ⟨sc, ns, rfl, _⟩ := h
    rfl
  have nd := N_law_nd
  have hu := hr.units
  have hg : (LX P w K mg base f cdv A outer s H E).A.guards = some [] := hg0
  obtain ⟨sc, ns, rfl, hS, hQ⟩ := h
  obtain ⟨tk, mk, dr⟩ := fok_eff (P := P) (w := w) (base := base) T Ds Es sc
  have C := fun i => fok_all (P := P) (w := w) (base := base) T Ds LV i
  obtain ⟨f1, fd1, t1, t2, t3, t4⟩ := tk
  obtain ⟨f2, fd2, m1, m2, m3, m4⟩ := mk
  obtain ⟨f3, fd3, d1, d2, d3, d4⟩ := dr
  have hr1 := hr.mono (by decide : 1 ≤ 160)
  have hrL := hr.mono (by decide : LV ≤ 160)
  refine ⟨_, PSs.nox (X := cxOf CX0 P w K mg base N_law "law" (defScope slaw) f cdv A outer s H E)
    (pss_cons (ps_set (i := 1) nd rfl (by first | exact Or.inl rfl | exact Or.inr rfl) (pe_lstK (pa_cons (pv 0) (pa_cons pe_int (pa_cons pe_int (pa_cons pe_int pa_nil))))))
    (pss_cons (ps_set (i := 2) nd rfl (by first | exact Or.inl rfl | exact Or.inr rfl) (pe_op op_add pe_int (pe_call t1 hr1 rfl t2 t3 t4 .nil pass0 (pa_cons (pv 1) (pa_cons pe_int pa_nil)))))
    (pss_cons (ps_set (i := 3) nd rfl (by first | exact Or.inl rfl | exact Or.inr rfl) (pe_lstK (pa_cons pe_int (pa_cons pe_int (pa_cons pe_int (pa_cons pe_int (pa_cons pe_int (pa_cons pe_int (pa_cons pe_int (pa_cons pe_int pa_nil))))))))))
    (pss_cons (ps_asg (pe_tup (pa_cons (pe_call m1 hr rfl m2 m3 m4 .nil pass0 (pa_cons (pv 1) (pa_cons pe_int (pa_cons (pv 3) pa_nil)))) (pa_cons (pe_call m1 hr rfl m2 m3 m4 .nil pass0 (pa_cons (pv 1) (pa_cons pe_int (pa_cons (pv 3) pa_nil)))) pa_nil)))
        (pg_tup (by rfl) (pgs_cons (pg_name (i := 4) nd (by rfl) (by first | exact Or.inl rfl | exact Or.inr rfl)) (pgs_cons (pg_name (i := 5) nd (by rfl) (by first | exact Or.inl rfl | exact Or.inr rfl)) pgs_nil))))
    (pss_cons (ok_w4 T C hrL hg) (pss_cons (ok_w5 T C hrL hg) (pss_cons (ok_w6 T C hrL hg)
    (pss_cons (ps_asg (pe_call d1 hr rfl d2 d3 d4 .nil pass0 (pa_cons (pv 1) (pa_cons (pv 8) (pa_cons pe_int (pa_cons pe_bl pa_nil)))))
        (pg_tup (by rfl) (pgs_cons (pg_name (i := 10) nd (by rfl) (by first | exact Or.inl rfl | exact Or.inr rfl)) (pgs_cons (pg_name (i := 11) nd (by rfl) (by first | exact Or.inl rfl | exact Or.inr rfl)) pgs_nil))))
    (pss_cons (ps_set (i := 12) nd rfl (by first | exact Or.inl rfl | exact Or.inr rfl) pe_newN)
    (pss_cons (ok_w9 T C hrL hg)
    (pss_cons (ps_if (pb_if T C hrL)
      (pss_cons (ok_i0 T C hrL hg)
      (pss_cons (ps_for PassesOwn.never rfl (pfi_tup (pf_tup (pl_cons (pf_var (pv 4)) (pl_cons (pf_var (pv 5)) pl_nil)))) (pg_name (i := 15) nd (by rfl) (by first | exact Or.inl rfl | exact Or.inr rfl))
        (pss_cons (ok_f0 T C hrL hg)
        (pss_one (ps_if (pb_f1 T C hrL) (pss_one (ps_asg (pf_f1v T C hrL) (pg_sub (pv 12) (pv 15) (set_N hu)))) pss_nil))))
      (pss_cons (ps_if (pt_i2 T C hrL) (pss_one (ps_ret pe_bl)) pss_nil)
      (pss_one (ok_i3 T C hrL hg))))) pss_nil)
    (pss_cons (ps_asg (pe_call d1 hr rfl d2 d3 d4 .nil pass0 (pa_cons (pv 1) (pa_cons (pv 9) (pa_cons pe_int (pa_cons pe_bl pa_nil)))))
        (pg_tup (by rfl) (pgs_cons (pg_name (i := 10) nd (by rfl) (by first | exact Or.inl rfl | exact Or.inr rfl)) (pgs_cons (pg_name (i := 11) nd (by rfl) (by first | exact Or.inl rfl | exact Or.inr rfl)) pgs_nil))))
    (pss_cons (ok_w12 T C hrL hg) (pss_cons (ok_w13 T C hrL hg) (pss_cons (ok_w14 T C hrL hg) (pss_cons (ok_w15 T C hrL hg) (pss_cons (ok_w16 T C hrL hg)
    (pss_cons (ok_w17 T C hrL hg) (pss_cons (ok_w18 T C hrL hg) (pss_cons (ok_w19 T C hrL hg) (pss_cons (ok_w20 T C hrL hg) (pss_cons (ok_w21 T C hrL hg)
    (pss_cons (ok_w22 T C hrL hg) (pss_cons (ok_w23 T C hrL hg) (pss_one (ok_w24 T C hrL hg)))))))))))))))))))))))))), ?_⟩
  -- the row
  refine ⟨.ref sc, rfl, small (by show (4 : Nat) ≤ 1000; decide), fun a ha hka => ?_⟩
  have hsa : sc ≠ a := sqL_apart hS ha hka
  have hw1 : Rw K sc (upd H a (.lst [.ref sc, .int 0, .int 10417, .int 0])) a := ⟨ns, 0, 10417, 0, upd_same, sqL_upd hS (.inl hsa), .inl hsa, by decide, by decide⟩
  generalize upd H a (.lst [.ref sc, .int 0, .int 10417, .int 0]) = H1 at hw1
  -- the ticks
  refine ⟨.ref a, rfl, a, 3, rfl, hw1, by decide, by decide, fun r o1 h0 h1 hw2 => ⟨1, r, rfl, rfl, ?_⟩⟩
  obtain ⟨n, hn, hn1, hn3⟩ : ∃ n : Nat, (1 : Int) + r = (n : Int) ∧ 1 ≤ n ∧ n ≤ 3 := ⟨(1 + r).toNat, by omega, by omega, by omega⟩
  generalize upd H1 a o1 = H2 at hw2
  -- the names
  refine ⟨small (by show (8 : Nat) ≤ 1000; decide), fun nb hnb hkb => ?_⟩
  obtain ⟨nsb, hsqb⟩ : ∃ xs, SqL K H2 sc xs := by
    obtain ⟨ns', i, j, k, _, q⟩ := hw2
    exact ⟨_, q.sq⟩
  have hsb : sc ≠ nb := sqL_apart hsqb hnb hkb
  have hab : nb ≠ a := fun e => hw2.some (e ▸ hnb)
  have x3 : Ext (fun _ => none) H2 (fun _ => none) (upd H2 nb (.lst (([0, 1, 2, 3, 4, 5, 6, 7] : List Nat).map fun (i : Nat) => V.int (i : Int)))) := Ext.only (fun b o z => by cases z) (same_upd hnb _)
  have hw3 := hw2.ext x3.hh
  have hn3' : (upd H2 nb (.lst (([0, 1, 2, 3, 4, 5, 6, 7] : List Nat).map fun (i : Nat) => V.int (i : Int)))) nb = some (.lst (([0, 1, 2, 3, 4, 5, 6, 7] : List Nat).map fun (i : Nat) => V.int (i : Int))) := upd_same
  have sg3 := x3.gh
  clear x3
  -- the plans
  have hap : ∀ (H : Hp) (xs : List V), SqL K H sc xs → Apart K sc xs nb := fun _ _ _ => .inl hsb
  refine ⟨.ref a, rfl, .ref nb, rfl, a, nb, fun _ => none, [0, 1, 2, 3, 4, 5, 6, 7], rfl, hab, hap, hw3, hn3', by decide, rfl, rfl, sg3, fun p1 v4 G4 H4 gd1 ef4 hw4 hn4 rp4 => ?_⟩
  have ga4 : G4 a = none := ef4.keep rfl hw3.some
  have gb4 : G4 nb = none := ef4.keep rfl (by rw [upd_same]; exact fun z => nomatch z)
  have hl4 : (ren p1 [0, 1, 2, 3, 4, 5, 6, 7]).2.length ≤ 1000 := by
    have := congrArg List.length (ren_words p1 [0, 1, 2, 3, 4, 5, 6, 7])
    rw [List.length_append] at this
    simp only [List.length_cons, List.length_nil] at this
    omega
  refine ⟨.ref a, rfl, .ref nb, rfl, a, nb, G4, _, rfl, hab, hap, hw4, hn4, hl4, ga4, gb4, ef4.gh, fun p2 v5 G5 H5 gd2 ef5 hw5 hn5 rp5 => ?_⟩
  have lp := lwp_of gd1 gd2
  have ga5 : G5 a = none := ef5.keep ga4 hw4.some
  have rp4' := rp4.same ef5.gg
  generalize (ren p1 [0, 1, 2, 3, 4, 5, 6, 7]).1 = u1 at *
  generalize (ren p2 (ren p1 [0, 1, 2, 3, 4, 5, 6, 7]).2).1 = u2 at *
  refine ⟨small (by show (2 : Nat) ≤ 1000; decide), fun pt hpt => ⟨pt, [v4, v5], rfl, SqT.of upd_same, rfl, v4, [v5], rfl, v5, [], rfl, rfl, ?_⟩⟩
  have x6 : Ext G5 H5 G5 (upd H5 pt (.tup [v4, v5])) := Ext.only ef5.gh (same_upd hpt _)
  have hw6 := hw5.ext x6.hh
  have sg6 := x6.gh
  generalize upd H5 pt (.tup [v4, v5]) = H6 at hw6 sg6
  have rn : Rp K G5 (.int (1 + r)) (.int (n : Int)) := by rw [← hn]; exact .int _
  have ev6 : EnvR K G5 H6 [some (.ref sc), some (.ref a), some (.int (1 + r)), some (.ref nb), some v4, some v5, none, none, none, none, none, none, none, none, none, none, none, none, none, none, none, none]
      (rhoL a (.int (n : Int)) (enc u1) (enc u2) .no .no .no .no .no .no .no .no .no .no .no .no) :=
    ((((EnvR.base (n := 22) rfl).addLk (i := 1) rfl).add (i := 2) rfl rn).add (i := 4) rfl rp4').add (i := 5) rfl rp5
  -- too many leaves
  by_cases hs : 12 < (leaves u1).length + (leaves u2).length
  · refine sfr sg6 ev6 rfl (by rw [ev_w4 lp, if_pos hs]) fun v G' H' x r => ?_
    cases r
    exact hQ H'
  have hs' : (leaves u1).length + (leaves u2).length ≤ 12 := by omega
  refine sfx sg6 ev6 rfl (by rw [ev_w4 lp, if_neg hs]) fun σ7 G7 H7 x7 ev7 => ?_
  obtain ⟨b, e5, hb⟩ := ev_w5 (a := a) (tk := .int (n : Int)) (x6 := .no) (x8 := .no) (x9 := .no) (x10 := .no) (x11 := .no) (x12 := .no) (x13 := .no) (x15 := .no) (x16 := .no) (x19 := .no) (x20 := .no) (x21 := .no) lp
  refine sfx x7.gh ev7 rfl e5 fun σ8 G8 H8 x8 ev8 => ?_
  refine sfx x8.gh ev8 rfl ev_w6 fun σ9 G9 H9 x9 ev9 => ?_
  have x79 := (x7.trans x8).trans x9
  have hw9 := hw6.ext x79.hh
  have ga9 : G9 a = none := (Ef.of (M := (· = a)) x79).keep ga5 hw6.some
  -- the race is drawn
  obtain ⟨v8, s8, r8⟩ := ev9.im 8 _ rfl
  have zF : sz (first [u1, u2]) ≤ 28 := by have := lp.za; have := lp.zb; simp only [sz, szs]; omega
  have dF7 : dp (first [u1, u2]) ≤ 7 := Nat.le_trans (dp_vP 4 _ lp.vFirst) (by omega)
  have iF : InB (first [u1, u2]) := inB_of (lf8_pair lp.fa lp.fb lv_first)
  refine ⟨.ref a, ev9.lk 1 a rfl, v8, s8, a, v8, G9, first [u1, u2], rfl, hw9, ga9, x9.gh, r8, by omega, dF7, vP_mono lp.vFirst (by omega), iF, fun row st v10 G10 H10 hR hl ef10 hw10 rp10 => ?_⟩
  have no := hR.noOff
  have vl := hR.vl iF
  refine tg_tup (K := K) [10, 11] rfl (fun _ => False) v10 σ9 H10 G10 _ _ _ _ ef10.gh (EnvB.free (ev9.gg rfl ef10.gg H10)) rp10 rfl fun σ10 ev10' _ => ?_
  have ev10 : EnvR K G10 H10 σ10 (rhoL a (.int (n : Int)) (enc u1) (enc u2) (.im (.bool b)) (.im (enc (first [u1, u2]))) (.im (enc (within n (both [u1, u2])))) (.im (encRow row)) (.im (encSt st)) .no .no .no .no .no .no .no) := ev10'.ev
  have ga10 : G10 a = none := ef10.keep ga9 hw9.some
  -- the dict
  intro p hp
  have x11 : Ext G10 H10 G10 (upd H10 p (dN P w p [])) := Ext.only ef10.gh (same_upd hp _)
  have gp : G10 p = none := none_of_same ef10.gh hp
  have hup : (upd H10 p (dN P w p [])) p = some (dN P w p []) := upd_same
  have ev11 : EnvR K G10 (upd H10 p (dN P w p [])) (σ10.set 12 (some (.ref p))) (rhoL a (.int (n : Int)) (enc u1) (enc u2) (.im (.bool b)) (.im (enc (first [u1, u2]))) (.im (enc (within n (both [u1, u2])))) (.im (encRow row)) (.im (encSt st)) (.lk p) .no .no .no .no .no .no) :=
    (ev10.ext x11).setLk rfl p (by have := ev10.len; simp at this; omega)
  have hw11 := hw10.ext x11.hh
  have sg11 := x11.gh
  have hd : dp st.t ≤ 7 := (hR.ok zF dF7 iF).dp
  have okF := lp.okFirst hs' no vl (by omega)
  refine sfx sg11 ev11 rfl (ev_w9 okF zF hR.mem hd) fun σ12 G12 H12 x12 ev12 => ?_
  have hw12 := hw11.ext x12.hh
  have hp12 := x12.hh _ _ hup
  have gp12 : G12 p = none := x12.keep gp hup
  have ga12 : G12 a = none := (Ef.of (M := (· = a)) x12).keep ga10 hw11.some
  -- the if
  refine tseq_mid (t := t10 K (LX P w K mg base f cdv A outer s H E) (den LV)) (fun σ H => ∃ (G : Hp) (y13 y15 y16 : Sl), y13.isOw = false ∧ y15.isOw = false ∧ y16.isOw = false ∧ Same G H ∧ EnvR K G H σ (rhoL a (.int (n : Int)) (enc u1) (enc u2) (.im (.bool b)) (.im (enc (first [u1, u2]))) (.im (enc (within n (both [u1, u2])))) (.im (encRow row)) (.im (encSt st)) (.lk p) y13 y15 y16 .no .no .no) ∧ Rw K sc H a ∧ G a = none) (fun N hN => ?_) ?_
  · refine t10_ok (K := K) (X := LX P w K mg base f cdv A outer s H E) rfl lp hR hb no vl (by omega) (by simp) x12.gh ev12 hp12 gp12 fun σ' G' H' y13 y15 y16 q13 q15 q16 ev' ef' => ?_
    exact hN _ _ ⟨G', y13, y15, y16, q13, q15, q16, ef'.gh, ev', hw12.efd hp12 ef', ef'.keep ga12 hw12.some⟩
  rintro σ13 H13 ⟨G13, y13, y15, y16, q13, q15, q16, sg13, ev13, hw13, ga13⟩
  -- the limit is drawn
  obtain ⟨v9, s9, r9⟩ := ev13.im 9 _ rfl
  have zL : sz (within n (both [u1, u2])) ≤ 28 := by have := lp.za; have := lp.zb; simp only [sz, szs]; omega
  have dL7 : dp (within n (both [u1, u2])) ≤ 7 := Nat.le_trans (dp_vP 5 _ (lp.vLim hn1 hn3)) (by omega)
  have iL : InB (within n (both [u1, u2])) := inB_of (lf8_pair lp.fa lp.fb (lv_lim n))
  refine ⟨.ref a, ev13.lk 1 a rfl, v9, s9, a, v9, G13, within n (both [u1, u2]), rfl, hw13, ga13, sg13, r9, by omega, dL7, vP_mono (lp.vLim hn1 hn3) (by omega), iL, fun row2 st2 v14 G14 H14 hR2 hl2 ef14 hw14 rp14 => ?_⟩
  have no2 := hR2.noOff
  have vl2 := hR2.vl iL
  have ln2 : row2.length ≤ 40 := by omega
  refine tg_tup (K := K) [10, 11] rfl (fun _ => False) v14 σ13 H14 G14 _ _ _ _ ef14.gh (EnvB.free (ev13.gg (no_rho (by simp [*])) ef14.gg H14)) rp14 rfl fun σ14 ev14' _ => ?_
  have ev14 : EnvR K G14 H14 σ14 (rhoL a (.int (n : Int)) (enc u1) (enc u2) (.im (.bool b)) (.im (enc (first [u1, u2]))) (.im (enc (within n (both [u1, u2])))) (.im (encRow row2)) (.im (encSt st2)) (.lk p) y13 y15 y16 .no .no .no) := ev14'.ev
  have lim : b = true → n ≤ ticks row2 → st2.t.isR = true ∧ ∃ r, row2 = r ++ [.tick] ∧ ticks r + 1 = n := fun hb1 ht => by
    obtain ⟨p1, p2⟩ := hb hb1
    have pl : plainT (both [u1, u2]) := by
      unfold plainT at p1 p2 ⊢
      simp only [wt, wts, p1, p2]
    rcases limit_end hn1 pl hR2 with ⟨h1, _⟩ | ⟨e, _, r, e1, e2⟩
    · omega
    · exact ⟨by rw [e]; rfl, r, e1, e2⟩
  refine sfx ef14.gh ev14 (no_rho (by simp [*])) (ev_w12 ln2) fun σ15 G15 H15 x15 ev15 => ?_
  refine sfx x15.gh ev15 (no_rho (by simp [*])) (ev_w13 fun h1 h2 => (lim h1 h2).1) fun σ16 G16 H16 x16 ev16 => ?_
  refine sfx x16.gh ev16 (no_rho (by simp [*])) (ev_w14 hn1 ln2 fun h1 h2 => (lim h1 h2).2) fun σ17 G17 H17 x17 ev17 => ?_
  refine sfx x17.gh ev17 (no_rho (by simp [*])) (ev_w15 lp hs' hn1 hn3 no2 vl2 ln2) fun σ18 G18 H18 x18 ev18 => ?_
  refine sfx x18.gh ev18 (no_rho (by simp [*])) (ev_w16 lp hs' hn1 hn3 no2 vl2 ln2) fun σ19 G19 H19 x19 ev19 => ?_
  refine sfx x19.gh ev19 (no_rho (by simp [*])) ev_w17 fun σ20 G20 H20 x20 ev20 => ?_
  refine sfx x20.gh ev20 (no_rho (by simp [*])) (ev_w18 hn1 hn3) fun σ21 G21 H21 x21 ev21 => ?_
  refine sfx x21.gh ev21 (no_rho (by simp [*])) (ev_w19 hn1 hn3) fun σ22 G22 H22 x22 ev22 => ?_
  refine sfx x22.gh ev22 (no_rho (by simp [*])) ev_w20 fun σ23 G23 H23 x23 ev23 => ?_
  refine sfx x23.gh ev23 (no_rho (by simp [*])) (ev_w21 hn1 hn3) fun σ24 G24 H24 x24 ev24 => ?_
  refine sfx x24.gh ev24 (no_rho (by simp [*])) (ev_w22 hn1 hn3) fun σ25 G25 H25 x25 ev25 => ?_
  refine sfx x25.gh ev25 (no_rho (by simp [*])) (ev_w23 hn1 hn3) fun σ26 G26 H26 x26 ev26 => ?_
  refine sfr x26.gh ev26 (no_rho (by simp [*])) (ev_w24 hn1 hn3) fun v G' H' x r => ?_
  cases r
  exact hQ H'
end
end LT
/-! # Hd -/
namespace LT
open PySem PySem.Spec PyProof.Rows L2
abbrev mkD (x : Str) (s : Stmt) : He.DefD := ⟨(x, none), x, x, defArgs s, defBody s, defScope s, [], []⟩
def fnA : List He.DefD := [mkD "is_integer" sisinteger, mkD "is_in" sisin, mkD "is_list" sislist, mkD "is_plan" sisplan, mkD "parts_of" spartsof, mkD "leaves_in" sleavesin, mkD "need_plan" sneedplan, mkD "begun" sbegun, mkD "joined" sjoined, mkD "gathered" sgathered, mkD "raced" sraced, mkD "timed" stimed, mkD "lasted" slasted, mkD "kept" skept, mkD "called_off" scalledoff, mkD "rebuilt" srebuilt, mkD "steps_in" sstepsin, mkD "ticked" sticked, mkD "moves_in" smovesin, mkD "need_row" sneedrow, mkD "standings_in" sstandingsin, mkD "standings" sstandings, mkD "is_run" sisrun, mkD "is_whole" siswhole, mkD "first_wrong" sfirstwrong]
def fnB : List He.DefD := [mkD "labels_of" slabelsof, mkD "next_labels" snextlabels, mkD "_law_taken" sLtaken, mkD "_law_pick" sLpick, mkD "_law_leaf" sLleaf, mkD "_law_plan" sLplan, mkD "_law_parts" sLparts, mkD "_law_leaves" sLleaves, mkD "_law_all" sLall, mkD "_law_keep" sLkeep, mkD "_law_join" sLjoin, mkD "_law_race" sLrace, mkD "_law_hold" sLhold, mkD "_law_begin" sLbegin, mkD "_law_off" sLoff, mkD "_law_around" sLaround, mkD "_law_steps" sLsteps, mkD "_law_tick" sLtick, mkD "_law_next" sLnext, mkD "_law_labels" sLlabels, mkD "_law_drawn" sLdrawn, mkD "_law_marked" sLmarked, mkD "_law_renamed" sLrenamed, mkD "_law_spoken" sLspoken, mkD "law" slaw]
def fn : List He.DefD := fnA ++ fnB
def faA : List He.Fa := [.glo "is_integer", .glo "is_in", .glo "is_list", .glo "is_plan", .glo "parts_of", .glo "leaves_in", .glo "need_plan", .glo "begun", .glo "joined", .glo "gathered", .glo "raced", .glo "timed", .glo "lasted", .glo "kept", .glo "called_off", .glo "rebuilt", .glo "steps_in", .glo "ticked", .glo "moves_in", .glo "need_row", .glo "standings_in", .glo "standings", .glo "is_run", .glo "is_whole", .glo "first_wrong"]
def faB : List He.Fa := [.glo "labels_of", .glo "next_labels", .glo "_law_taken", .glo "_law_pick", .glo "_law_leaf", .glo "_law_plan", .glo "_law_parts", .glo "_law_leaves", .glo "_law_all", .glo "_law_keep", .glo "_law_join", .glo "_law_race", .glo "_law_hold", .glo "_law_begin", .glo "_law_off", .glo "_law_around", .glo "_law_steps", .glo "_law_tick", .glo "_law_next", .glo "_law_labels", .glo "_law_drawn", .glo "_law_marked", .glo "_law_renamed", .glo "_law_spoken", .glo "law"]
def faC : List He.Fa := [.int "MOST_WORDS" 8, .int "MOST_EVENTS" 4, .int "MOST_TICKS" 3, .int "MOST_DEEP" 8, .int "MOST_LEAVES" 12, .int "MOST_ROW" 40, .glo "SEVERAL", .glo "REST", .glo "KINDS", .free "isinstance", .free "int", .free "bool", .free "tuple", .free "str", .free "len", .free "all", .free "any", .free "sorted", .free "set", .free "list", .free "enumerate", .free "range"]
def fa : List He.Fa := faA ++ (faB ++ faC)
/-- the constants that are tuples of texts -/
def tupsB (K : PySem.W.Frag) : Bool := He.tupB K "SEVERAL" [.str "then", .str "both", .str "first"] && He.tupB K "REST" [.str "rest"] && He.tupB K "KINDS" [.str "come", .str "off", .str "say", .str "take", .str "tick"]
/-! ### the Hook: the facts of the defs, and the tuples -/
abbrev AlM : Type := He.AlD × Bool
def obsM (g : Addr → Option Obj) : AlM := (He.obsD fa fn (He.frG g (He.asD g 4)), tupsB (He.frG g (He.asD g 4)))
structure SaysM (K : PySem.W.Frag) : Prop where
  d : He.SaysD fa fn K
  t : tupsB K = true
def hkM : PySem.W.Hook where
  α := AlM
  obs := fun s => obsM s.heap.get?
  val := fun _ => (He.valD fn, true)
  says := fun _ h => ∃ K : PySem.W.Frag, K.In h ∧ SaysM K
  of := fun _ _ e => ⟨_, He.frG_in, ⟨congrArg (fun z : AlM => z.1) e, congrArg (fun z : AlM => z.2) e⟩⟩
  keeps := fun _ _ _ ⟨K, hK, c⟩ k => ⟨K, PySem.W.Frag.In.keeps hK k, c⟩
def obM (s : PySem.W.SharedT) : AlM := obsM (HandSHeadRun.getT s)
theorem obM_eq (s : PySem.W.SharedT) : obM s = hkM.obs s.abs := by
  have e : HandSHeadRun.getT s = s.abs.heap.get? := funext (HandSHeadRun.getT_eq s)
  unfold obM
  rw [e] <;> rfl
abbrev RowR : PySem.W.OpenRow := PySem.W.OpenLaw.row PySem.Challenge.rw_lastthings_k17_whole_races_and_limits
def loose0 : List PySem.Str := ["is_integer", "is_in", "is_list", "PlanError", "BadPlan", "BadRow", "MOST_WORDS", "MOST_EVENTS", "MOST_TICKS", "MOST_DEEP", "MOST_LEAVES", "SEVERAL", "is_plan", "parts_of", "leaves_in"]
def loose1 : List PySem.Str := ["need_plan", "REST", "KINDS", "MOST_ROW", "begun", "joined", "gathered", "raced", "timed", "lasted", "kept", "called_off", "rebuilt", "steps_in", "ticked"]
def loose2 : List PySem.Str := ["moves_in", "need_row", "standings_in", "standings", "is_run", "is_whole", "first_wrong", "labels_of", "next_labels", "_law_taken", "_law_pick", "_law_leaf", "_law_plan", "_law_parts", "_law_leaves"]
def loose3 : List PySem.Str := ["_law_all", "_law_keep", "_law_join", "_law_race", "_law_hold", "_law_begin", "_law_off", "_law_around", "_law_steps", "_law_tick", "_law_next", "_law_labels", "_law_drawn", "_law_marked", "_law_renamed"]
def loose4 : List PySem.Str := ["_law_spoken"]
def loose : List PySem.Str := loose0 ++ (loose1 ++ (loose2 ++ (loose3 ++ (loose4))))
theorem head_run (w : World) : HandSHeadRun.RunEq RowR (PySem.W.view RowR.prog [66]) hkM obM 6000 loose w := by
  intro os
  kernel_rfl
end LT
/-! # Fin -/
namespace LT
open PySem PySem.Spec PyProof.Rows L2
/-! ## the facts of the head, put together -/
section
variable {K : PySem.W.Frag} {h : Heap} {mg : Str → Option Value}
theorem m_txt (X : K.In h) (G : h.Ns mainGlobals mg) (c : SaysM K) : Txt K mg := by
  have t := c.t
  unfold tupsB at t
  simp only [Bool.and_eq_true] at t
  exact {
    i_MOST_WORDS := He.int_ok X G (c.d.fact 50 (f := .int "MOST_WORDS" 8) rfl)
    i_MOST_EVENTS := He.int_ok X G (c.d.fact 51 (f := .int "MOST_EVENTS" 4) rfl)
    i_MOST_TICKS := He.int_ok X G (c.d.fact 52 (f := .int "MOST_TICKS" 3) rfl)
    i_MOST_DEEP := He.int_ok X G (c.d.fact 53 (f := .int "MOST_DEEP" 8) rfl)
    i_MOST_LEAVES := He.int_ok X G (c.d.fact 54 (f := .int "MOST_LEAVES" 12) rfl)
    i_MOST_ROW := He.int_ok X G (c.d.fact 55 (f := .int "MOST_ROW" 40) rfl)
    t_SEVERAL := ⟨_, He.glo_ok X G (c.d.fact 56 (f := .glo "SEVERAL") rfl), fun H => He.tupB_ok t.1.1 H⟩
    t_REST := ⟨_, He.glo_ok X G (c.d.fact 57 (f := .glo "REST") rfl), fun H => He.tupB_ok t.1.2 H⟩
    t_KINDS := ⟨_, He.glo_ok X G (c.d.fact 58 (f := .glo "KINDS") rfl), fun H => He.tupB_ok t.2 H⟩
    z_isinstance := He.free_ok X G (c.d.fact 59 (f := .free "isinstance") rfl)
    z_int := He.free_ok X G (c.d.fact 60 (f := .free "int") rfl)
    z_bool := He.free_ok X G (c.d.fact 61 (f := .free "bool") rfl)
    z_tuple := He.free_ok X G (c.d.fact 62 (f := .free "tuple") rfl)
    z_str := He.free_ok X G (c.d.fact 63 (f := .free "str") rfl)
    z_len := He.free_ok X G (c.d.fact 64 (f := .free "len") rfl)
    z_all := He.free_ok X G (c.d.fact 65 (f := .free "all") rfl)
    z_any := He.free_ok X G (c.d.fact 66 (f := .free "any") rfl)
    z_sorted := He.free_ok X G (c.d.fact 67 (f := .free "sorted") rfl)
    z_set := He.free_ok X G (c.d.fact 68 (f := .free "set") rfl)
    z_list := He.free_ok X G (c.d.fact 69 (f := .free "list") rfl)
    z_enumerate := He.free_ok X G (c.d.fact 70 (f := .free "enumerate") rfl)
    z_range := He.free_ok X G (c.d.fact 71 (f := .free "range") rfl)
  }
theorem m_defs (X : K.In h) (G : h.Ns mainGlobals mg) (c : SaysM K) : Defs K mg := {
  d_fisinteger := (let ⟨fd, F⟩ := c.d.def_ 0 (d := mkD "is_integer" sisinteger) rfl; ⟨_, fd, F, He.glo_ok X G (c.d.fact 0 (f := .glo "is_integer") rfl)⟩)
  d_fisin := (let ⟨fd, F⟩ := c.d.def_ 1 (d := mkD "is_in" sisin) rfl; ⟨_, fd, F, He.glo_ok X G (c.d.fact 1 (f := .glo "is_in") rfl)⟩)
  d_fislist := (let ⟨fd, F⟩ := c.d.def_ 2 (d := mkD "is_list" sislist) rfl; ⟨_, fd, F, He.glo_ok X G (c.d.fact 2 (f := .glo "is_list") rfl)⟩)
  d_fisplan := (let ⟨fd, F⟩ := c.d.def_ 3 (d := mkD "is_plan" sisplan) rfl; ⟨_, fd, F, He.glo_ok X G (c.d.fact 3 (f := .glo "is_plan") rfl)⟩)
  d_fpartsof := (let ⟨fd, F⟩ := c.d.def_ 4 (d := mkD "parts_of" spartsof) rfl; ⟨_, fd, F, He.glo_ok X G (c.d.fact 4 (f := .glo "parts_of") rfl)⟩)
  d_fleavesin := (let ⟨fd, F⟩ := c.d.def_ 5 (d := mkD "leaves_in" sleavesin) rfl; ⟨_, fd, F, He.glo_ok X G (c.d.fact 5 (f := .glo "leaves_in") rfl)⟩)
  d_fneedplan := (let ⟨fd, F⟩ := c.d.def_ 6 (d := mkD "need_plan" sneedplan) rfl; ⟨_, fd, F, He.glo_ok X G (c.d.fact 6 (f := .glo "need_plan") rfl)⟩)
  d_fbegun := (let ⟨fd, F⟩ := c.d.def_ 7 (d := mkD "begun" sbegun) rfl; ⟨_, fd, F, He.glo_ok X G (c.d.fact 7 (f := .glo "begun") rfl)⟩)
  d_fjoined := (let ⟨fd, F⟩ := c.d.def_ 8 (d := mkD "joined" sjoined) rfl; ⟨_, fd, F, He.glo_ok X G (c.d.fact 8 (f := .glo "joined") rfl)⟩)
  d_fgathered := (let ⟨fd, F⟩ := c.d.def_ 9 (d := mkD "gathered" sgathered) rfl; ⟨_, fd, F, He.glo_ok X G (c.d.fact 9 (f := .glo "gathered") rfl)⟩)
  d_fraced := (let ⟨fd, F⟩ := c.d.def_ 10 (d := mkD "raced" sraced) rfl; ⟨_, fd, F, He.glo_ok X G (c.d.fact 10 (f := .glo "raced") rfl)⟩)
  d_ftimed := (let ⟨fd, F⟩ := c.d.def_ 11 (d := mkD "timed" stimed) rfl; ⟨_, fd, F, He.glo_ok X G (c.d.fact 11 (f := .glo "timed") rfl)⟩)
  d_flasted := (let ⟨fd, F⟩ := c.d.def_ 12 (d := mkD "lasted" slasted) rfl; ⟨_, fd, F, He.glo_ok X G (c.d.fact 12 (f := .glo "lasted") rfl)⟩)
  d_fkept := (let ⟨fd, F⟩ := c.d.def_ 13 (d := mkD "kept" skept) rfl; ⟨_, fd, F, He.glo_ok X G (c.d.fact 13 (f := .glo "kept") rfl)⟩)
  d_fcalledoff := (let ⟨fd, F⟩ := c.d.def_ 14 (d := mkD "called_off" scalledoff) rfl; ⟨_, fd, F, He.glo_ok X G (c.d.fact 14 (f := .glo "called_off") rfl)⟩)
  d_frebuilt := (let ⟨fd, F⟩ := c.d.def_ 15 (d := mkD "rebuilt" srebuilt) rfl; ⟨_, fd, F, He.glo_ok X G (c.d.fact 15 (f := .glo "rebuilt") rfl)⟩)
  d_fstepsin := (let ⟨fd, F⟩ := c.d.def_ 16 (d := mkD "steps_in" sstepsin) rfl; ⟨_, fd, F, He.glo_ok X G (c.d.fact 16 (f := .glo "steps_in") rfl)⟩)
  d_fticked := (let ⟨fd, F⟩ := c.d.def_ 17 (d := mkD "ticked" sticked) rfl; ⟨_, fd, F, He.glo_ok X G (c.d.fact 17 (f := .glo "ticked") rfl)⟩)
  d_fmovesin := (let ⟨fd, F⟩ := c.d.def_ 18 (d := mkD "moves_in" smovesin) rfl; ⟨_, fd, F, He.glo_ok X G (c.d.fact 18 (f := .glo "moves_in") rfl)⟩)
  d_fneedrow := (let ⟨fd, F⟩ := c.d.def_ 19 (d := mkD "need_row" sneedrow) rfl; ⟨_, fd, F, He.glo_ok X G (c.d.fact 19 (f := .glo "need_row") rfl)⟩)
  d_fstandingsin := (let ⟨fd, F⟩ := c.d.def_ 20 (d := mkD "standings_in" sstandingsin) rfl; ⟨_, fd, F, He.glo_ok X G (c.d.fact 20 (f := .glo "standings_in") rfl)⟩)
  d_fstandings := (let ⟨fd, F⟩ := c.d.def_ 21 (d := mkD "standings" sstandings) rfl; ⟨_, fd, F, He.glo_ok X G (c.d.fact 21 (f := .glo "standings") rfl)⟩)
  d_fisrun := (let ⟨fd, F⟩ := c.d.def_ 22 (d := mkD "is_run" sisrun) rfl; ⟨_, fd, F, He.glo_ok X G (c.d.fact 22 (f := .glo "is_run") rfl)⟩)
  d_fiswhole := (let ⟨fd, F⟩ := c.d.def_ 23 (d := mkD "is_whole" siswhole) rfl; ⟨_, fd, F, He.glo_ok X G (c.d.fact 23 (f := .glo "is_whole") rfl)⟩)
  d_ffirstwrong := (let ⟨fd, F⟩ := c.d.def_ 24 (d := mkD "first_wrong" sfirstwrong) rfl; ⟨_, fd, F, He.glo_ok X G (c.d.fact 24 (f := .glo "first_wrong") rfl)⟩)
  d_flabelsof := (let ⟨fd, F⟩ := c.d.def_ 25 (d := mkD "labels_of" slabelsof) rfl; ⟨_, fd, F, He.glo_ok X G (c.d.fact 25 (f := .glo "labels_of") rfl)⟩)
  d_fnextlabels := (let ⟨fd, F⟩ := c.d.def_ 26 (d := mkD "next_labels" snextlabels) rfl; ⟨_, fd, F, He.glo_ok X G (c.d.fact 26 (f := .glo "next_labels") rfl)⟩)
  d_fLparts := (let ⟨fd, F⟩ := c.d.def_ 31 (d := mkD "_law_parts" sLparts) rfl; ⟨_, fd, F, He.glo_ok X G (c.d.fact 31 (f := .glo "_law_parts") rfl)⟩)
  d_fLleaves := (let ⟨fd, F⟩ := c.d.def_ 32 (d := mkD "_law_leaves" sLleaves) rfl; ⟨_, fd, F, He.glo_ok X G (c.d.fact 32 (f := .glo "_law_leaves") rfl)⟩)
  d_fLall := (let ⟨fd, F⟩ := c.d.def_ 33 (d := mkD "_law_all" sLall) rfl; ⟨_, fd, F, He.glo_ok X G (c.d.fact 33 (f := .glo "_law_all") rfl)⟩)
  d_fLkeep := (let ⟨fd, F⟩ := c.d.def_ 34 (d := mkD "_law_keep" sLkeep) rfl; ⟨_, fd, F, He.glo_ok X G (c.d.fact 34 (f := .glo "_law_keep") rfl)⟩)
  d_fLjoin := (let ⟨fd, F⟩ := c.d.def_ 35 (d := mkD "_law_join" sLjoin) rfl; ⟨_, fd, F, He.glo_ok X G (c.d.fact 35 (f := .glo "_law_join") rfl)⟩)
  d_fLrace := (let ⟨fd, F⟩ := c.d.def_ 36 (d := mkD "_law_race" sLrace) rfl; ⟨_, fd, F, He.glo_ok X G (c.d.fact 36 (f := .glo "_law_race") rfl)⟩)
  d_fLhold := (let ⟨fd, F⟩ := c.d.def_ 37 (d := mkD "_law_hold" sLhold) rfl; ⟨_, fd, F, He.glo_ok X G (c.d.fact 37 (f := .glo "_law_hold") rfl)⟩)
  d_fLbegin := (let ⟨fd, F⟩ := c.d.def_ 38 (d := mkD "_law_begin" sLbegin) rfl; ⟨_, fd, F, He.glo_ok X G (c.d.fact 38 (f := .glo "_law_begin") rfl)⟩)
  d_fLoff := (let ⟨fd, F⟩ := c.d.def_ 39 (d := mkD "_law_off" sLoff) rfl; ⟨_, fd, F, He.glo_ok X G (c.d.fact 39 (f := .glo "_law_off") rfl)⟩)
  d_fLaround := (let ⟨fd, F⟩ := c.d.def_ 40 (d := mkD "_law_around" sLaround) rfl; ⟨_, fd, F, He.glo_ok X G (c.d.fact 40 (f := .glo "_law_around") rfl)⟩)
  d_fLsteps := (let ⟨fd, F⟩ := c.d.def_ 41 (d := mkD "_law_steps" sLsteps) rfl; ⟨_, fd, F, He.glo_ok X G (c.d.fact 41 (f := .glo "_law_steps") rfl)⟩)
  d_fLtick := (let ⟨fd, F⟩ := c.d.def_ 42 (d := mkD "_law_tick" sLtick) rfl; ⟨_, fd, F, He.glo_ok X G (c.d.fact 42 (f := .glo "_law_tick") rfl)⟩)
  d_fLnext := (let ⟨fd, F⟩ := c.d.def_ 43 (d := mkD "_law_next" sLnext) rfl; ⟨_, fd, F, He.glo_ok X G (c.d.fact 43 (f := .glo "_law_next") rfl)⟩)
  d_fLlabels := (let ⟨fd, F⟩ := c.d.def_ 44 (d := mkD "_law_labels" sLlabels) rfl; ⟨_, fd, F, He.glo_ok X G (c.d.fact 44 (f := .glo "_law_labels") rfl)⟩)
  d_fLspoken := (let ⟨fd, F⟩ := c.d.def_ 48 (d := mkD "_law_spoken" sLspoken) rfl; ⟨_, fd, F, He.glo_ok X G (c.d.fact 48 (f := .glo "_law_spoken") rfl)⟩)
}
theorem m_edefs (X : K.In h) (G : h.Ns mainGlobals mg) (c : SaysM K) : EDefs K mg := {
  taken := (let ⟨fd, F⟩ := c.d.def_ 27 (d := mkD "_law_taken" sLtaken) rfl; ⟨_, fd, F, He.glo_ok X G (c.d.fact 27 (f := .glo "_law_taken") rfl)⟩)
  pick := (let ⟨fd, F⟩ := c.d.def_ 28 (d := mkD "_law_pick" sLpick) rfl; ⟨_, fd, F, He.glo_ok X G (c.d.fact 28 (f := .glo "_law_pick") rfl)⟩)
  leaf := (let ⟨fd, F⟩ := c.d.def_ 29 (d := mkD "_law_leaf" sLleaf) rfl; ⟨_, fd, F, He.glo_ok X G (c.d.fact 29 (f := .glo "_law_leaf") rfl)⟩)
  plan := (let ⟨fd, F⟩ := c.d.def_ 30 (d := mkD "_law_plan" sLplan) rfl; ⟨_, fd, F, He.glo_ok X G (c.d.fact 30 (f := .glo "_law_plan") rfl)⟩)
  marked := (let ⟨fd, F⟩ := c.d.def_ 46 (d := mkD "_law_marked" sLmarked) rfl; ⟨_, fd, F, He.glo_ok X G (c.d.fact 46 (f := .glo "_law_marked") rfl)⟩)
  renamed := (let ⟨fd, F⟩ := c.d.def_ 47 (d := mkD "_law_renamed" sLrenamed) rfl; ⟨_, fd, F, He.glo_ok X G (c.d.fact 47 (f := .glo "_law_renamed") rfl)⟩)
  drawn := (let ⟨fd, F⟩ := c.d.def_ 45 (d := mkD "_law_drawn" sLdrawn) rfl; ⟨_, fd, F, He.glo_ok X G (c.d.fact 45 (f := .glo "_law_drawn") rfl)⟩)
}
end
theorem room_law : Room 161 callerA := ⟨rfl, by decide, by decide⟩
end LT
open PySem PySem.W PySem.Calls PyProof.Rows
theorem PySem.Challenge.cw_lastthings_k17_whole_races_and_limits_holds : PySem.Challenge.rw_lastthings_k17_whole_races_and_limits.Holds := by
  w_on; o_law
  refine HandSHeadRun.head_any (r := LT.RowR) (q := PySem.W.view LT.RowR.prog [66]) (H := LT.hkM) (ob := LT.obM) (M := 6000) (loose := LT.loose) (d := HandSHeadRun.topDef LT.RowR.prog 66) (kwd := []) LT.obM_eq
    (by kernel_rfl) (fun s => by kernel_rfl) LT.head_run (by kernel_rfl) (by kernel_rfl) (by kernel_rfl) (by rfl) (by first | assumption | decide +kernel) (by decide +kernel) ⟨rfl, rfl, rfl, rfl, rfl, by decide +kernel⟩ ?hw ?hc
  case hw => w_witness2
  case hc =>
    refine LT.walk_guard (l := PySem.Challenge.rw_lastthings_k17_whole_races_and_limits) (n := 63) (k := 161) (x := "_law_script") rfl (by decide) (by kernel_rfl) LT.room_law ?F
    intro w mg fa h Y G hmg0
    obtain ⟨K, KX, c⟩ := Y
    have hmg : mg ("law" : PySem.Str) = some (.ref fa) := by
      have e : (HandSHeadRun.topDef LT.RowR.prog 66).name = ("law" : PySem.Str) := by kernel_rfl
      rw [← e]
      exact hmg0
    obtain ⟨fd, F⟩ := c.d.def_ 49 (d := LT.mkD "law" LT.slaw) rfl
    have e := hmg.symm.trans (He.glo_ok KX G (c.d.fact 49 (f := .glo "law") rfl))
    cases e
    have b := L2.FunD.bindsA (ps := ["_law_script"]) F fun _ _ _ _ _ _ us hl => match us, hl with | [_], _ => rfl
    exact ⟨K, fd, LT.spLaw K, KX, fun s v => b s [v] rfl, fun H a ns hl _ hS => ⟨a, ns, rfl, hS, fun _ => rfl⟩, fun base _ _ => LT.fn_law (LT.m_txt KX G c) (LT.m_defs KX G c) (LT.m_edefs KX G c) F⟩
