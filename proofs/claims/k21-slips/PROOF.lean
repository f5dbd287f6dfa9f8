import PyProof.Rows.All
import Wide.All
import OpenK.AllK
import Wide.FinOn
import HandS.ForMost
import HandS.ForExc
import HandS.Lambda
import HandS.IsInst
import HandS.Zip
import HandS.Walk
import HandS.Wide
import HandS.TupAny
import HandS.SortInts
import HandS.Style
import HandS.Conv
import HandS.TupMul
import KE.SortData
import KE.DataMinMax
import HandS.ExcCtx
import HandS.SetFor
import HandS.Strs
import HandS.HotCalls
import HandS.ExcIs
import HandS.EndTab
import HandS.NestedK
import PySem.Challenge.RW_beltlooks_k21_whole_slips
set_option Elab.async false
set_option linter.all false
set_option maxRecDepth 100000
set_option maxHeartbeats 4000000
/-! Dl: a layer of data over HandS. Values are read as plain data (PyData), a def as a function of data. -/
namespace Dl
open PySem L2
open LamX (ExtN Tabs)
abbrev D := PyData

/-! ### results -/
inductive R (α : Type) where
  | ok (a : α)
  | err (c : Str)
  | bad
def R.bnd {α β : Type} (r : R α) (f : α → R β) : R β := match r with
  | .ok a => f a
  | .err c => .err c
  | .bad => .bad
@[simp] theorem bnd_ok {α β : Type} (a : α) (f : α → R β) : (R.ok a).bnd f = f a := rfl
@[simp] theorem bnd_err {α β : Type} (c : Str) (f : α → R β) : (R.err c : R α).bnd f = .err c := rfl
@[simp] theorem bnd_bad {α β : Type} (f : α → R β) : (R.bad : R α).bnd f = .bad := rfl

/-! ### data in a heap -/
theorem extN_rd {H H' : Hp} {a : Addr} {u : HO} (e : ExtN H H') (hu : ∀ ps, u ≠ .tbl ps) (h : Rd H a u) : Rd H' a u := by
  rcases h with h | ⟨o, h⟩
  · exact .inl (e a _ h hu)
  · exact .inr ⟨o, e a _ h (fun ps z => by cases z)⟩
theorem extN_l {K : PySem.W.Frag} {H H' : Hp} {a : Addr} {xs : List V} (e : ExtN H H') (h : SqL K H a xs) : SqL K H' a xs := by
  rcases h with h | h
  · exact .inl (extN_rd e (fun ps z => by cases z) h)
  · exact .inr h
theorem extN_t {K : PySem.W.Frag} {H H' : Hp} {a : Addr} {xs : List V} (e : ExtN H H') (h : SqT K H a xs) : SqT K H' a xs := by
  rcases h with h | h
  · exact .inl (extN_rd e (fun ps z => by cases z) h)
  · exact .inr h
mutual
inductive Dt (H : Hp) : V → PyData → Prop
  | non : Dt H .non .none
  | bl (b : Bool) : Dt H (.bl b) (.bool b)
  | int (i : Int) : Dt H (.int i) (.int i)
  | str (x : Str) : Dt H (.str x) (.str x)
  | lst {a : Addr} {xs : List V} {ds : List PyData} : Rd H a (.lst xs) → DtAll H xs ds → Dt H (.ref a) (.list ds)
  | tup {a : Addr} {xs : List V} {ds : List PyData} : Rd H a (.tup xs) → DtAll H xs ds → Dt H (.ref a) (.tuple ds)
inductive DtAll (H : Hp) : List V → List PyData → Prop
  | nil : DtAll H [] []
  | cons {v : V} {vs : List V} {d : PyData} {ds : List PyData} : Dt H v d → DtAll H vs ds → DtAll H (v :: vs) (d :: ds)
end
theorem rd_l {H H' : Hp} {a : Addr} {xs : List V} (e : ExtN H H') (h : Rd H a (.lst xs)) : Rd H' a (.lst xs) := extN_rd e (fun ps z => by cases z) h
theorem rd_t {H H' : Hp} {a : Addr} {xs : List V} (e : ExtN H H') (h : Rd H a (.tup xs)) : Rd H' a (.tup xs) := extN_rd e (fun ps z => by cases z) h
mutual
theorem dp_mono {H H' : Hp} (e : ExtN H H') : ∀ (d : D) (v : V), Dt H v d → Dt H' v d
  | .none, _, h => by cases h; exact .non
  | .bool b, _, h => by cases h; exact .bl b
  | .int i, _, h => by cases h; exact .int i
  | .str x, _, h => by cases h; exact .str x
  | .list ds, _, h => by
    cases h with
    | lst hs ha => exact .lst (rd_l e hs) (dpAll_mono e ds _ ha)
  | .tuple ds, _, h => by
    cases h with
    | tup hs ha => exact .tup (rd_t e hs) (dpAll_mono e ds _ ha)
  | .dict _, _, h => by cases h
theorem dpAll_mono {H H' : Hp} (e : ExtN H H') : ∀ (ds : List D) (vs : List V), DtAll H vs ds → DtAll H' vs ds
  | [], _, h => by cases h; exact .nil
  | d :: ds, _, h => by
    cases h with
    | cons h1 h2 => exact .cons (dp_mono e d _ h1) (dpAll_mono e ds _ h2)
end
section
variable {H : Hp} {vs ws : List V} {ds es : List D}
theorem dpAll_len : ∀ {vs : List V} {ds : List D}, DtAll H vs ds → vs.length = ds.length
  | _, _, .nil => rfl
  | _, _, .cons _ t => by simp [dpAll_len t]
theorem dpAll_get : ∀ {vs : List V} {ds : List D} {i : Nat} {v : V}, DtAll H vs ds → vs[i]? = some v → ∃ d, ds[i]? = some d ∧ Dt H v d
  | _, _, _, _, .nil, e => by simp at e
  | _, _, 0, _, .cons h _, e => by simp at e; subst e; exact ⟨_, rfl, h⟩
  | _, _, i + 1, _, .cons _ t, e => by
    obtain ⟨d, h1, h2⟩ := dpAll_get (i := i) t (by simpa using e)
    exact ⟨d, by simpa using h1, h2⟩
theorem dpAll_at : ∀ {vs : List V} {ds : List D} {i : Nat} {d : D}, DtAll H vs ds → ds[i]? = some d → ∃ v, vs[i]? = some v ∧ Dt H v d
  | _, _, _, _, .nil, e => by simp at e
  | _, _, 0, _, .cons h _, e => by simp at e; subst e; exact ⟨_, rfl, h⟩
  | _, _, i + 1, _, .cons _ t, e => by
    obtain ⟨d, h1, h2⟩ := dpAll_at (i := i) t (by simpa using e)
    exact ⟨d, by simpa using h1, h2⟩
theorem dpAll_app : ∀ {vs ws : List V} {ds es : List D}, DtAll H vs ds → DtAll H ws es → DtAll H (vs ++ ws) (ds ++ es)
  | _, _, _, _, .nil, s => s
  | _, _, _, _, .cons r t, s => .cons r (dpAll_app t s)
theorem dpAll_take : ∀ {vs : List V} {ds : List D} (n : Nat), DtAll H vs ds → DtAll H (vs.take n) (ds.take n)
  | _, _, 0, _ => .nil
  | _, _, _ + 1, .nil => .nil
  | _, _, n + 1, .cons r t => .cons r (dpAll_take n t)
theorem dpAll_drop : ∀ {vs : List V} {ds : List D} (n : Nat), DtAll H vs ds → DtAll H (vs.drop n) (ds.drop n)
  | _, _, 0, r => r
  | _, _, _ + 1, .nil => .nil
  | _, _, n + 1, .cons _ t => dpAll_drop n t
theorem dpAll_rev (h : DtAll H vs ds) : DtAll H vs.reverse ds.reverse := by
  induction h using DtAll.rec (motive_1 := fun _ _ _ => True) with
  | nil => exact .nil
  | cons h1 h2 _ ih => rw [List.reverse_cons, List.reverse_cons]; exact dpAll_app ih (.cons h1 .nil)
  | _ => trivial
theorem dpAll_ints : ∀ {vs : List V} {ns : List Int}, DtAll H vs (ns.map PyData.int) → vs = ns.map V.int
  | _, [], h => by cases h; rfl
  | _, n :: ns, h => by
    cases h with
    | cons h1 h2 => cases h1; rw [dpAll_ints (ns := ns) h2]; rfl
theorem dpAll_bls : ∀ {vs : List V} {ns : List Bool}, DtAll H vs (ns.map PyData.bool) → vs = ns.map V.bl
  | _, [], h => by cases h; rfl
  | _, n :: ns, h => by
    cases h with
    | cons h1 h2 => cases h1; rw [dpAll_bls (ns := ns) h2]; rfl
theorem dpAll_strs : ∀ {vs : List V} {ns : List Str}, DtAll H vs (ns.map PyData.str) → vs = ns.map V.str
  | _, [], h => by cases h; rfl
  | _, n :: ns, h => by
    cases h with
    | cons h1 h2 => cases h1; rw [dpAll_strs (ns := ns) h2]; rfl
theorem dpAll_of_ints : ∀ (ns : List Int), DtAll H (ns.map V.int) (ns.map PyData.int)
  | [] => .nil
  | n :: ns => .cons (.int n) (dpAll_of_ints ns)
theorem dpAll_of_bls : ∀ (ns : List Bool), DtAll H (ns.map V.bl) (ns.map PyData.bool)
  | [] => .nil
  | n :: ns => .cons (.bl n) (dpAll_of_bls ns)
theorem dpAll_of_strs : ∀ (ns : List Str), DtAll H (ns.map V.str) (ns.map PyData.str)
  | [] => .nil
  | n :: ns => .cons (.str n) (dpAll_of_strs ns)
end
mutual
theorem dt_dp {K : PySem.W.Frag} {H : Hp} : ∀ (d : D) (v : V), Dt H v d → Dp K H v d
  | .none, _, h => by cases h; exact .non
  | .bool b, _, h => by cases h; exact .bl b
  | .int i, _, h => by cases h; exact .int i
  | .str x, _, h => by cases h; exact .str x
  | .list ds, _, h => by
    cases h with
    | lst hs ha => exact .lst (.inl hs) (dtAll_dp ds _ ha)
  | .tuple ds, _, h => by
    cases h with
    | tup hs ha => exact .tup (.inl hs) (dtAll_dp ds _ ha)
  | .dict _, _, h => by cases h
theorem dtAll_dp {K : PySem.W.Frag} {H : Hp} : ∀ (ds : List D) (vs : List V), DtAll H vs ds → DpAll K H vs ds
  | [], _, h => by cases h; exact .nil
  | d :: ds, _, h => by
    cases h with
    | cons h1 h2 => exact .cons (dt_dp d _ h1) (dtAll_dp ds _ h2)
end

/-! ### two heaps: the frozen part, the whole -/
structure Hs where
  f : Hp
  h : Hp
structure Wf (T : List (Addr × Str)) (s : Hs) : Prop where
  sub : ExtN s.f s.h
  nt : ∀ p ps, s.f p ≠ some (.tbl ps)
  tabs : Tabs T s.h
/-- something other than a table stands there -/
def Lv (H : Hp) (p : Addr) : Prop := ∃ o, H p = some o ∧ ∀ ps, o ≠ .tbl ps
theorem Lv.mono {H H' : Hp} {p : Addr} (e : ExtN H H') (h : Lv H p) : Lv H' p := by
  obtain ⟨o, h1, h2⟩ := h
  exact ⟨o, e p o h1 h2, h2⟩
structure Up (T : List (Addr × Str)) (a b : Hs) : Prop where
  f : ExtN a.f b.f
  h : ExtN a.h b.h
  new : ∀ p, a.f p = none → Lv a.h p → b.f p = none
  wf : Wf T b
section
variable {T : List (Addr × Str)} {a b c : Hs}
theorem Up.refl (w : Wf T a) : Up T a a := ⟨ExtN.refl _, ExtN.refl _, fun _ h _ => h, w⟩
theorem Up.trans (x : Up T a b) (y : Up T b c) : Up T a c :=
  ⟨x.f.trans y.f, x.h.trans y.h, fun p h1 h2 => y.new p (x.new p h1 h2) (h2.mono x.h), y.wf⟩
theorem extN_upd {H : Hp} {p : Addr} {o : HO} (h : H p = none) : ExtN H (upd H p o) := fun b u e _ => by
  rw [upd_ne (ne_of_none e h)]
  exact e
theorem same_upd {H : Hp} {p : Addr} {o : HO} (h : H p = none) : ∀ b u, H b = some u → upd H p o b = some u := fun b u e => by
  rw [upd_ne (ne_of_none e h)]
  exact e
/-- an address that the whole does not know, the frozen part does not know -/
theorem Wf.free (w : Wf T a) {p : Addr} (h : a.h p = none) : a.f p = none := by
  cases q : a.f p with
  | none => rfl
  | some o =>
    rw [w.sub p o q (fun ps z => w.nt p ps (by rw [q, z]))] at h
    cases h
/-- a new object, laid in both -/
theorem Up.laid (w : Wf T a) {p : Addr} {o : HO} (h : a.h p = none) (ho : ∀ ps, o ≠ .tbl ps) : Up T a ⟨upd a.f p o, upd a.h p o⟩ := by
  refine ⟨fun b u e nt => ?_, extN_upd h, fun q h1 h2 => ?_, ⟨fun b u e nt => ?_, fun q ps e => ?_, Tabs.ext w.tabs (same_upd h)⟩⟩
  · have hb : b ≠ p := fun z => by
      subst z
      rw [w.sub b u e nt] at h
      cases h
    show upd a.f p o b = some u
    rw [upd_ne hb]
    exact e
  · have hq : q ≠ p := fun z => by
      subst z
      obtain ⟨u, h3, _⟩ := h2
      rw [h] at h3
      cases h3
    show upd a.f p o q = none
    rw [upd_ne hq]
    exact h1
  · by_cases hb : b = p
    · subst hb
      have e : upd a.f b o b = some u := e
      rw [upd_same] at e
      cases e
      exact upd_same
    · have e : upd a.f p o b = some u := e
      rw [upd_ne hb] at e
      show upd a.h p o b = some u
      rw [upd_ne hb]
      exact w.sub b u e nt
  · by_cases hq : q = p
    · subst hq
      have e : upd a.f q o q = some (.tbl ps) := e
      rw [upd_same] at e
      exact ho ps (Option.some.inj e)
    · have e : upd a.f p o q = some (.tbl ps) := e
      rw [upd_ne hq] at e
      exact w.nt q ps e
end

/-! ### wishes -/
section
variable {α β : Type} (rep : Hp → β → α → Prop) (mg : Str → Option Value) (T : List (Addr × Str)) (E : XK)
def Wg (s : Hs) (r : R α) (Q : β → Hp → Prop) : Prop := match r with
  | .ok a => ∀ v b, Up T s b → rep b.f v a → Q v b.h
  | .err c => ∃ cls, mg c = some cls ∧ ∀ b, Up T s b → E cls none b.h
  | .bad => False
end
section
variable {α β γ δ : Type} {rep : Hp → β → α → Prop} {rep1 : Hp → δ → γ → Prop} {mg : Str → Option Value} {T : List (Addr × Str)} {E : XK} {s b : Hs}
theorem Wg.up {r : R α} {Q : β → Hp → Prop} (u : Up T s b) (h : Wg rep mg T E s r Q) : Wg rep mg T E b r Q := by
  cases r with
  | ok a => exact fun v c uc rv => h v c (u.trans uc) rv
  | err c =>
    obtain ⟨cls, e, h⟩ := h
    exact ⟨cls, e, fun c uc => h c (u.trans uc)⟩
  | bad => exact h
theorem Wg.imp {r : R α} {Q Q' : β → Hp → Prop} (h : Wg rep mg T E s r Q) (hq : ∀ v H, Q v H → Q' v H) : Wg rep mg T E s r Q' := by
  cases r with
  | ok a => exact fun v c uc rv => hq _ _ (h v c uc rv)
  | err c => exact h
  | bad => exact h
theorem Wg.bind {r : R γ} {k : γ → R α} {Q : β → Hp → Prop} (h : Wg rep mg T E s (r.bnd k) Q) :
    Wg rep1 mg T E s r (fun v H' => ∃ b, b.h = H' ∧ Up T s b ∧ ∃ a, rep1 b.f v a ∧ Wg rep mg T E b (k a) Q) := by
  cases r with
  | ok a => exact fun v c uc rv => ⟨c, rfl, uc, a, rv, Wg.up uc h⟩
  | err c => exact h
  | bad => exact h
/-- the end: a value that is there -/
theorem Wg.here {a : α} {v : β} {Q : β → Hp → Prop} (w : Wf T s) (h : Wg rep mg T E s (.ok a) Q) (rv : rep s.f v a) : Q v s.h := h v s (Up.refl w) rv
end

/-! ### slots -/
inductive Slot where
  | non
  | dat (d : D)
  | own (ds : List D)
  | dct (ks : List (Int × D))
  | raw (v : V)
abbrev Env := List Slot
structure Sl (H : Hp) (σ : L2.St) (ρ : Env) : Prop where
  len : σ.length = ρ.length
  dat : ∀ (i : Nat) d, ρ[i]? = some (.dat d) → ∃ v, σ[i]? = some (some v) ∧ Dt H v d
  raw : ∀ (i : Nat) v, ρ[i]? = some (.raw v) → σ[i]? = some (some v)
theorem Sl.mono {H H' : Hp} {σ : L2.St} {ρ : Env} (e : ExtN H H') (h : Sl H σ ρ) : Sl H' σ ρ :=
  ⟨h.len, fun i d q => let ⟨v, h1, h2⟩ := h.dat i d q; ⟨v, h1, dp_mono e d v h2⟩, h.raw⟩

/-- a reading by data -/
def tD {α β : Type} (rep : Hp → β → α → Prop) (mg : Str → Option Value) (T : List (Addr × Str)) (E : XK) (f : Env → R α) : L2.St → Hp → (β → Hp → Prop) → Prop :=
  fun σ H Q => ∃ (s : Hs) (ρ : Env), s.h = H ∧ Wf T s ∧ Sl s.f σ ρ ∧ Wg rep mg T E s (f ρ) Q
/-! ### the judgements -/
def rE : Hp → V → D → Prop := fun H v d => Dt H v d
def rA : Hp → List V → List D → Prop := fun H v d => DtAll H v d
def rB : Hp → Bool → Bool → Prop := fun _ v d => v = d
def rO : Hp → Option Int → Option Int → Prop := fun _ v d => v = d
/-- an expression, a test, arguments, a part of a slice -/
def ED (X : Cx) (T : List (Addr × Str)) (E : XK) (e : Expr) (f : Env → R D) : Prop := PE X e (tD rE X.mg T E f)
def TD (X : Cx) (T : List (Addr × Str)) (E : XK) (e : Expr) (f : Env → R Bool) : Prop := PT X e (tD rB X.mg T E f)
def TW (X : Cx) (T : List (Addr × Str)) (E : XK) (e : Expr) (f : Env → R Bool) : Prop := PW X e (tD rB X.mg T E f)
def AD (X : Cx) (T : List (Addr × Str)) (E : XK) (es : List Expr) (f : Env → R (List D)) : Prop := PA X es (tD rA X.mg T E f)
def OD (X : Cx) (T : List (Addr × Str)) (E : XK) (e : Option Expr) (f : Env → R (Option Int)) : Prop := PO X e (tD rO X.mg T E f)
section
variable {X : Cx} {e : Expr}
theorem pe_w {t t' : TE} (h : PE X e t) (w : ∀ σ H Q, t' σ H Q → t σ H Q) : PE X e t' := ⟨fun pins s σ H Q I q => h.run pins s σ H Q I (w σ H Q q)⟩
theorem pt_w {t t' : TT} (h : PT X e t) (w : ∀ σ H Q, t' σ H Q → t σ H Q) : PT X e t' := ⟨fun pins s σ H Q I q => h.run pins s σ H Q I (w σ H Q q)⟩
theorem pw_w {t t' : TT} (h : PW X e t) (w : ∀ σ H Q, t' σ H Q → t σ H Q) : PW X e t' := ⟨fun wh pins s σ H Q I q => h.run wh pins s σ H Q I (w σ H Q q)⟩
theorem pa_w {es : List Expr} {t t' : TA} (h : PA X es t) (w : ∀ σ H Q, t' σ H Q → t σ H Q) : PA X es t' := ⟨fun pos pins s σ H Q I q => h.run pos pins s σ H Q I (w σ H Q q)⟩
theorem pi_w {tg : Expr} {t t' : TI} (h : PI X tg e t) (w : ∀ σ H Q, t' σ H Q → t σ H Q) : PI X tg e t' := ⟨fun pins s σ H R I q => h.run pins s σ H R I (w σ H R q)⟩
theorem ps_w {st : Stmt} {t t' : TS} (h : PS X st t) (w : ∀ D σ H, t' D σ H → t D σ H) : PS X st t' := ⟨fun pins s σ H D I q => h.run pins s σ H D I (w D σ H q)⟩
theorem pss_w {st : List Stmt} {t t' : TS} (h : PSs X st t) (w : ∀ D σ H, t' D σ H → t D σ H) : PSs X st t' := ⟨fun pins s σ H D I q => h.run pins s σ H D I (w D σ H q)⟩
theorem pg_w {tg : Expr} {t t' : TG} (h : PG X tg t) (w : ∀ v σ H Q, t' v σ H Q → t v σ H Q) : PG X tg t' := ⟨fun pins s σ H v u Q I r q => h.run pins s σ H v u Q I r (w v σ H Q q)⟩
end
end Dl
namespace Dl
open PySem L2
open LamX (ExtN Tabs)
/-! ### names, constants, operators -/
def fVar (i : Nat) : Env → R D := fun ρ => match ρ[i]? with
  | some (.dat d) => .ok d
  | _ => .bad
def fC (d : D) : Env → R D := fun _ => .ok d
def fOp (g : D → D → R D) (fa fb : Env → R D) : Env → R D := fun ρ => (fa ρ).bnd fun x => (fb ρ).bnd fun y => g x y
def fUn (g : D → R D) (fa : Env → R D) : Env → R D := fun ρ => (fa ρ).bnd g
section
variable {X : Cx} {T : List (Addr × Str)} {E : XK} {a b c e : Expr} {fa fb fc f : Env → R D} {pos : Pos}
theorem e_var (i : Nat) {x : Str} (hN : X.N[i]? = some x := by rfl) (hv : Vis X.env.scope x := by first | exact Or.inl rfl | exact Or.inr (Or.inl rfl) | exact Or.inr (Or.inr rfl)) (hd : (x == ("__debug__" : Str)) = false := by decide)
    (hcd : (x == ("__classdict__" : Str)) = false := by decide) : ED X T E (.Name x pos) (fVar i) := by
  refine pe_w (pe_var hN hv hd hcd) fun σ H Q h => ?_
  obtain ⟨s, ρ, rfl, wf, sl, W⟩ := h
  unfold fVar at W
  split at W
  · rename_i d q
    obtain ⟨v, h1, h2⟩ := sl.dat i d q
    exact ⟨v, h1, W.here wf h2⟩
  · exact W.elim
theorem e_int {i : Int} {j : Nat} : ED X T E (.Constant (.int i) j pos) (fC (.int i)) := pe_w pe_int fun σ H Q ⟨s, ρ, e, wf, sl, W⟩ => e ▸ W.here wf (.int i)
theorem e_bl {i : Bool} {j : Nat} : ED X T E (.Constant (.bool i) j pos) (fC (.bool i)) := pe_w pe_bl fun σ H Q ⟨s, ρ, e, wf, sl, W⟩ => e ▸ W.here wf (.bl i)
theorem e_non {j : Nat} : ED X T E (.Constant .none j pos) (fC .none) := pe_w pe_non fun σ H Q ⟨s, ρ, e, wf, sl, W⟩ => e ▸ W.here wf .non
theorem e_str {i : Str} {j : Nat} : ED X T E (.Constant (.str i) j pos) (fC (.str i)) := pe_w pe_str fun σ H Q ⟨s, ρ, e, wf, sl, W⟩ => e ▸ W.here wf (.str i)
/-- a module's int -/
theorem e_glob {x : Str} {i : Int} {t : Tok} (hg : Gl X x) (hm : X.mg x = some (.int i t)) (hd : (x == ("__debug__" : Str)) = false := by decide) : ED X T E (.Name x pos) (fC (.int i)) :=
  pe_w (pe_glob (v := .int i) hg hm ⟨t, rfl⟩ hd) fun σ H Q ⟨s, ρ, e, wf, sl, W⟩ => e ▸ W.here wf (.int i)
theorem e_globS {x : Str} {i : Str} {t : Tok} (hg : Gl X x) (hm : X.mg x = some (.str i t)) (hd : (x == ("__debug__" : Str)) = false := by decide) : ED X T E (.Name x pos) (fC (.str i)) :=
  pe_w (pe_glob (v := .str i) hg hm ⟨t, rfl⟩ hd) fun σ H Q ⟨s, ρ, e, wf, sl, W⟩ => e ▸ W.here wf (.str i)
/-- an operator by values and its function by data -/
def OpD (X : Cx) (T : List (Addr × Str)) (E : XK) (r : R2) (g : D → D → R D) : Prop :=
  ∀ (s : Hs) (x y : V) (d e : D) (Q : VK), Wf T s → Dt s.f x d → Dt s.f y e → Wg rE X.mg T E s (g d e) Q → r x y s.h Q
def UnD (X : Cx) (T : List (Addr × Str)) (E : XK) (r : V → Hp → VK → Prop) (g : D → R D) : Prop :=
  ∀ (s : Hs) (x : V) (d : D) (Q : VK), Wf T s → Dt s.f x d → Wg rE X.mg T E s (g d) Q → r x s.h Q
theorem tOp_w {r : R2} {g : D → D → R D} (hd : OpD X T E r g) : ∀ σ H Q, tD rE X.mg T E (fOp g fa fb) σ H Q → tOp r (tD rE X.mg T E fa) (tD rE X.mg T E fb) σ H Q := by
  rintro σ H Q ⟨s, ρ, rfl, wf, sl, W⟩
  refine ⟨s, ρ, rfl, wf, sl, (Wg.bind W).imp ?_⟩
  rintro x _ ⟨b, rfl, ub, d, hx, W1⟩
  refine ⟨b, ρ, rfl, ub.wf, sl.mono ub.f, (Wg.bind W1).imp ?_⟩
  rintro y _ ⟨c, rfl, uc, e, hy, W2⟩
  exact hd c x y d e Q uc.wf (dp_mono uc.f d x hx) hy W2
theorem tUn_w {r : V → Hp → VK → Prop} {g : D → R D} (hd : UnD X T E r g) : ∀ σ H Q, tD rE X.mg T E (fUn g fa) σ H Q → tUn r (tD rE X.mg T E fa) σ H Q := by
  rintro σ H Q ⟨s, ρ, rfl, wf, sl, W⟩
  refine ⟨s, ρ, rfl, wf, sl, (Wg.bind W).imp ?_⟩
  rintro x _ ⟨b, rfl, ub, d, hx, W1⟩
  exact hd b x d Q ub.wf hx W1
/-- both, the rule hidden -/
def BinD (X : Cx) (T : List (Addr × Str)) (E : XK) (op : Operator) (g : D → D → R D) : Prop := ∃ r, OpR X (binaryOp op) r ∧ OpD X T E r g
def CmpD (X : Cx) (T : List (Addr × Str)) (E : XK) (op : CmpOp) (g : D → D → R D) : Prop := ∃ r, OpR X (compareOp op) r ∧ OpD X T E r g
theorem e_op {op : Operator} {g : D → D → R D} (ho : BinD X T E op g) (ha : ED X T E a fa) (hb : ED X T E b fb) : ED X T E (.BinOp a op b pos) (fOp g fa fb) := let ⟨_, h1, h2⟩ := ho; pe_w (pe_op h1 ha hb) (tOp_w h2)
theorem e_un {op : UnaryOp} {r : V → Hp → VK → Prop} {g : D → R D} (ho : UnR X (unaryOp op) r) (hd : UnD X T E r g) (ha : ED X T E a fa) : ED X T E (.UnaryOp op a pos) (fUn g fa) := pe_w (pe_un ho ha) (tUn_w hd)
theorem e_cmp {op : CmpOp} {g : D → D → R D} (ho : CmpD X T E op g) (ha : ED X T E a fa) (hb : ED X T E b fb) (hm : behindInMarks op b = false := by first | exact nomark _ | with_unfolding_all rfl) : ED X T E (.Compare a [op] [b] pos) (fOp g fa fb) := let ⟨_, h1, h2⟩ := ho; pe_w (pe_cmpR h1 ha hb hm) (tOp_w h2)
theorem e_ixR {r : R2} {g : D → D → R D} (ho : IxR X r) (hd : OpD X T E r g) (ha : ED X T E a fa) (hb : ED X T E b fb) (hs : PlainIx b) : ED X T E (.Subscript a b pos) (fOp g fa fb) := pe_w (pe_ix ho ha hb hs) (tOp_w hd)

/-! ### tests -/
def asB : D → R Bool
  | .bool b => .ok b
  | _ => .bad
def fT (f : Env → R D) : Env → R Bool := fun ρ => (f ρ).bnd asB
theorem tB_w : ∀ σ H Q, tD rB X.mg T E (fT f) σ H Q → tB (tD rE X.mg T E f) σ H Q := by
  rintro σ H Q ⟨s, ρ, rfl, wf, sl, W⟩
  refine ⟨s, ρ, rfl, wf, sl, (Wg.bind W).imp ?_⟩
  rintro x _ ⟨b, rfl, ub, d, hx, W1⟩
  cases d with
  | bool k =>
    have hx : Dt b.f x (.bool k) := hx
    cases hx
    exact ⟨k, rfl, Wg.here (rep := rB) ub.wf W1 rfl⟩
  | _ => exact W1.elim
theorem t_val (h : ED X T E e f) (he : ∀ whole, isTrue e X.env whole = (do let v ← whole; standAt e.pos; holding [v] (truthy v)) := by intro _; rfl) : TD X T E e (fT f) := pt_w (pt_val h he) tB_w
theorem t_cmp {op : CmpOp} {g : D → D → R D} (ho : CmpD X T E op g) (ha : ED X T E a fa) (hb : ED X T E b fb) (hm : behindInMarks op b = false := by first | exact nomark _ | with_unfolding_all rfl) : TD X T E (.Compare a [op] [b] pos) (fT (fOp g fa fb)) := by
  obtain ⟨r, ho, hd⟩ := ho
  refine pt_w (pt_cmpR ho ha hb hm) fun σ H Q h => ?_
  have h1 := tB_w σ H Q h
  exact tOp_w hd σ H _ h1
def fAnd (f g : Env → R Bool) : Env → R Bool := fun ρ => (f ρ).bnd fun b => if b = true then g ρ else .ok false
def fOr (f g : Env → R Bool) : Env → R Bool := fun ρ => (f ρ).bnd fun b => if b = true then .ok true else g ρ
def fNot (f : Env → R Bool) : Env → R Bool := fun ρ => (f ρ).bnd fun b => .ok (!b)
variable {ga gb : Env → R Bool} {rest : List Expr}
theorem t_pt (h : TW X T E e ga) : TD X T E e ga := PW.pt h
theorem w_and1 (ha : TD X T E a ga) : TW X T E (.BoolOp .And [a] pos) ga := pw_and1 ha
theorem w_or1 (ha : TD X T E a ga) : TW X T E (.BoolOp .Or [a] pos) ga := pw_or1 ha
theorem w_and (ha : TD X T E a ga) (hb : TW X T E (.BoolOp .And (b :: rest) pos) gb) : TW X T E (.BoolOp .And (a :: b :: rest) pos) (fAnd ga gb) := by
  refine pw_w (pw_and ha hb) ?_
  rintro σ H Q ⟨s, ρ, rfl, wf, sl, W⟩
  refine ⟨s, ρ, rfl, wf, sl, (Wg.bind W).imp ?_⟩
  rintro x _ ⟨b, rfl, ub, d, hx, W1⟩
  have hx : x = d := hx
  subst hx
  cases x with
  | true => exact ⟨b, ρ, rfl, ub.wf, sl.mono ub.f, W1⟩
  | false => exact Wg.here (rep := rB) ub.wf W1 rfl
theorem w_or (ha : TD X T E a ga) (hb : TW X T E (.BoolOp .Or (b :: rest) pos) gb) : TW X T E (.BoolOp .Or (a :: b :: rest) pos) (fOr ga gb) := by
  refine pw_w (pw_or ha hb) ?_
  rintro σ H Q ⟨s, ρ, rfl, wf, sl, W⟩
  refine ⟨s, ρ, rfl, wf, sl, (Wg.bind W).imp ?_⟩
  rintro x _ ⟨b, rfl, ub, d, hx, W1⟩
  have hx : x = d := hx
  subst hx
  cases x with
  | true => exact Wg.here (rep := rB) ub.wf W1 rfl
  | false => exact ⟨b, ρ, rfl, ub.wf, sl.mono ub.f, W1⟩
theorem t_not (ha : TD X T E a ga) : TD X T E (.UnaryOp .Not a pos) (fNot ga) := by
  refine pt_w (pt_not ha) ?_
  rintro σ H Q ⟨s, ρ, rfl, wf, sl, W⟩
  refine ⟨s, ρ, rfl, wf, sl, (Wg.bind W).imp ?_⟩
  rintro x _ ⟨b, rfl, ub, d, hx, W1⟩
  have hx : x = d := hx
  subst hx
  exact Wg.here (rep := rB) ub.wf W1 rfl
/-! as values (bools) -/
def fAndV (f g : Env → R D) : Env → R D := fun ρ => (f ρ).bnd fun d => (asB d).bnd fun b => if b = true then g ρ else .ok (.bool false)
def fOrV (f g : Env → R D) : Env → R D := fun ρ => (f ρ).bnd fun d => (asB d).bnd fun b => if b = true then .ok (.bool true) else g ρ
def fNotV (f : Env → R D) : Env → R D := fun ρ => (f ρ).bnd fun d => (asB d).bnd fun b => .ok (.bool !b)
theorem e_one {op} (h : ED X T E a fa) : ED X T E (.BoolOp op [a] pos) fa := pe_one h
theorem e_and (ha : ED X T E a fa) (hb : ED X T E (.BoolOp .And (b :: rest) pos) fb) : ED X T E (.BoolOp .And (a :: b :: rest) pos) (fAndV fa fb) := by
  refine pe_w (pe_and ha hb) ?_
  rintro σ H Q ⟨s, ρ, rfl, wf, sl, W⟩
  refine ⟨s, ρ, rfl, wf, sl, (Wg.bind W).imp ?_⟩
  rintro x _ ⟨b, rfl, ub, d, hx, W1⟩
  cases d with
  | bool k =>
    have hx : Dt b.f x (.bool k) := hx
    cases hx
    refine ⟨k, rfl, ?_⟩
    cases k with
    | true => exact ⟨b, ρ, rfl, ub.wf, sl.mono ub.f, W1⟩
    | false => exact W1.here ub.wf (.bl false)
  | _ => exact W1.elim
theorem e_or (ha : ED X T E a fa) (hb : ED X T E (.BoolOp .Or (b :: rest) pos) fb) : ED X T E (.BoolOp .Or (a :: b :: rest) pos) (fOrV fa fb) := by
  refine pe_w (pe_or ha hb) ?_
  rintro σ H Q ⟨s, ρ, rfl, wf, sl, W⟩
  refine ⟨s, ρ, rfl, wf, sl, (Wg.bind W).imp ?_⟩
  rintro x _ ⟨b, rfl, ub, d, hx, W1⟩
  cases d with
  | bool k =>
    have hx : Dt b.f x (.bool k) := hx
    cases hx
    refine ⟨k, rfl, ?_⟩
    cases k with
    | false => exact ⟨b, ρ, rfl, ub.wf, sl.mono ub.f, W1⟩
    | true => exact W1.here ub.wf (.bl true)
  | _ => exact W1.elim
theorem e_not (ha : ED X T E a fa) : ED X T E (.UnaryOp .Not a pos) (fNotV fa) := by
  refine pe_w (pe_not ha) ?_
  rintro σ H Q ⟨s, ρ, rfl, wf, sl, W⟩
  refine ⟨s, ρ, rfl, wf, sl, (Wg.bind W).imp ?_⟩
  rintro x _ ⟨b, rfl, ub, d, hx, W1⟩
  cases d with
  | bool k =>
    have hx : Dt b.f x (.bool k) := hx
    cases hx
    exact ⟨k, rfl, W1.here ub.wf (.bl _)⟩
  | _ => exact W1.elim
def fIf (t : Env → R Bool) (f g : Env → R D) : Env → R D := fun ρ => (t ρ).bnd fun b => if b = true then f ρ else g ρ
theorem e_if (hc : TD X T E c ga) (ha : ED X T E a fa) (hb : ED X T E b fb) : ED X T E (.IfExp c a b pos) (fIf ga fa fb) := by
  refine pe_w (pe_ifExp hc ha hb) ?_
  rintro σ H Q ⟨s, ρ, rfl, wf, sl, W⟩
  refine ⟨s, ρ, rfl, wf, sl, (Wg.bind W).imp ?_⟩
  rintro x _ ⟨b, rfl, ub, d, hx, W1⟩
  have hx : x = d := hx
  subst hx
  cases x with
  | true => exact ⟨b, ρ, rfl, ub.wf, sl.mono ub.f, W1⟩
  | false => exact ⟨b, ρ, rfl, ub.wf, sl.mono ub.f, W1⟩
/-! a op b op c -/
def fChain (g g' : D → D → R D) (fa fb fc : Env → R D) : Env → R D := fun ρ => (fa ρ).bnd fun x => (fb ρ).bnd fun y => (g x y).bnd fun z => (asB z).bnd fun k => if k = true then (fc ρ).bnd fun w => g' y w else .ok (.bool false)
theorem tChain_w {r r' : R2} {g g' : D → D → R D} (hd : OpD X T E r g) (hd' : OpD X T E r' g') : ∀ σ H Q, tD rE X.mg T E (fChain g g' fa fb fc) σ H Q →
    tChain r r' (tD rE X.mg T E fa) (tD rE X.mg T E fb) (tD rE X.mg T E fc) σ H Q := by
  rintro σ H Q ⟨s, ρ, rfl, wf, sl, W⟩
  refine ⟨s, ρ, rfl, wf, sl, (Wg.bind W).imp ?_⟩
  rintro x _ ⟨b, rfl, ub, d, hx, W1⟩
  refine ⟨b, ρ, rfl, ub.wf, sl.mono ub.f, (Wg.bind W1).imp ?_⟩
  rintro y _ ⟨c, rfl, uc, e, hy, W2⟩
  refine hd c x y d e _ uc.wf (dp_mono uc.f d x hx) hy ((Wg.bind W2).imp ?_)
  rintro z _ ⟨k, rfl, uk, q, hz, W3⟩
  cases q with
  | bool k' =>
    have hz : Dt k.f z (.bool k') := hz
    cases hz
    refine ⟨k', rfl, ?_⟩
    cases k' with
    | true =>
      have u2 := uc.trans uk
      have W3 : Wg rE X.mg T E k ((fc ρ).bnd fun w => g' e w) Q := W3
      refine ⟨k, ρ, rfl, uk.wf, sl.mono (ub.f.trans u2.f), (Wg.bind W3).imp ?_⟩
      rintro w' _ ⟨m, rfl, um, e', hw, W4⟩
      exact hd' m y w' e e' Q um.wf (dp_mono (uk.f.trans um.f) e y hy) hw W4
    | false => exact W3.here uk.wf (.bl false)
  | _ => exact W3.elim
theorem e_chain {op op' : CmpOp} {g g' : D → D → R D} (ho : CmpD X T E op g) (ho' : CmpD X T E op' g') (ha : ED X T E a fa) (hb : ED X T E b fb) (hc : ED X T E c fc)
    (hm : lastMarks [op, op'] [b, c] = false := by with_unfolding_all rfl) : ED X T E (.Compare a [op, op'] [b, c] pos) (fChain g g' fa fb fc) := let ⟨_, h1, h2⟩ := ho; let ⟨_, h3, h4⟩ := ho'; pe_w (pe_chain h1 h3 ha hb hc hm) (tChain_w h2 h4)
theorem t_chain {op op' : CmpOp} {g g' : D → D → R D} (ho : CmpD X T E op g) (ho' : CmpD X T E op' g') (ha : ED X T E a fa) (hb : ED X T E b fb) (hc : ED X T E c fc)
    (hm : lastMarks [op, op'] [b, c] = false := by with_unfolding_all rfl) : TD X T E (.Compare a [op, op'] [b, c] pos) (fT (fChain g g' fa fb fc)) := by
  obtain ⟨r, ho, hd⟩ := ho
  obtain ⟨r', ho', hd'⟩ := ho'
  refine pt_w (pt_chain ho ho' ha hb hc hm) fun σ H Q h => ?_
  have h1 := tB_w σ H Q h
  exact tChain_w hd hd' σ H _ h1

/-! ### arguments, displays -/
def aNil : Env → R (List D) := fun _ => .ok []
def aCons (f : Env → R D) (g : Env → R (List D)) : Env → R (List D) := fun ρ => (f ρ).bnd fun x => (g ρ).bnd fun xs => .ok (x :: xs)
variable {es : List Expr} {fs : Env → R (List D)}
theorem a_nil : AD X T E [] aNil := pa_w pa_nil fun σ H Q ⟨s, ρ, e, wf, sl, W⟩ => e ▸ Wg.here (rep := rA) wf W .nil
theorem a_cons (ha : ED X T E e f) (hr : AD X T E es fs) (hs : starEach (e :: es) X.env = (false, eval e X.env) :: starEach es X.env := by rfl) : AD X T E (e :: es) (aCons f fs) := by
  refine pa_w (pa_cons ha hr hs) ?_
  rintro σ H Q ⟨s, ρ, rfl, wf, sl, W⟩
  refine ⟨s, ρ, rfl, wf, sl, (Wg.bind W).imp ?_⟩
  rintro x _ ⟨b, rfl, ub, d, hx, W1⟩
  refine ⟨b, ρ, rfl, ub.wf, sl.mono ub.f, (Wg.bind W1).imp ?_⟩
  rintro xs _ ⟨c, rfl, uc, ds, hxs, W2⟩
  exact Wg.here (rep := rA) uc.wf W2 (.cons (dp_mono uc.f d x hx) hxs)
def dTup (ds : List D) : R D := if ds.length ≤ 16777216 then .ok (.tuple ds) else .bad
def dLst (ds : List D) : R D := if ds.length ≤ 16777216 then .ok (.list ds) else .bad
def fTup (fs : Env → R (List D)) : Env → R D := fun ρ => (fs ρ).bnd dTup
def fLst (fs : Env → R (List D)) : Env → R D := fun ρ => (fs ρ).bnd dLst
/-- a new tuple, a new list: what is wanted of it is there -/
theorem new_tup {s : Hs} {xs : List V} {ds : List D} {Q : VK} (wf : Wf T s) (h : DtAll s.f xs ds) (W : Wg rE X.mg T E s (.ok (.tuple ds)) Q) : ∀ p, s.h p = none → Q (.ref p) (upd s.h p (.tup xs)) := fun p hp => by
  have u := Up.laid wf hp (o := .tup xs) (fun ps z => by cases z)
  exact W (.ref p) _ u (.tup (.inl upd_same) (dpAll_mono u.f ds xs h))
theorem new_lst {s : Hs} {xs : List V} {ds : List D} {Q : VK} (wf : Wf T s) (h : DtAll s.f xs ds) (W : Wg rE X.mg T E s (.ok (.list ds)) Q) : ∀ p, s.h p = none → Q (.ref p) (upd s.h p (.lst xs)) := fun p hp => by
  have u := Up.laid wf hp (o := .lst xs) (fun ps z => by cases z)
  exact W (.ref p) _ u (.lst (.inl upd_same) (dpAll_mono u.f ds xs h))
theorem e_tup {x1} (h : AD X T E es fs) : ED X T E (.Tuple es x1 pos) (fTup fs) := by
  refine pe_w (pe_tup h) ?_
  rintro σ H Q ⟨s, ρ, rfl, wf, sl, W⟩
  refine ⟨s, ρ, rfl, wf, sl, (Wg.bind W).imp ?_⟩
  rintro x _ ⟨b, rfl, ub, d, hx, W1⟩
  unfold dTup at W1
  split at W1
  · rename_i hl
    exact ⟨by rw [dpAll_len hx, sizeLine_eq]; exact hl, new_tup ub.wf hx W1⟩
  · exact W1.elim
theorem e_lst (h : AD X T E es fs) : ED X T E (.List es pos) (fLst fs) := by
  refine pe_w (pe_lst h) ?_
  rintro σ H Q ⟨s, ρ, rfl, wf, sl, W⟩
  refine ⟨s, ρ, rfl, wf, sl, (Wg.bind W).imp ?_⟩
  rintro x _ ⟨b, rfl, ub, d, hx, W1⟩
  unfold dLst at W1
  split at W1
  · rename_i hl
    exact ⟨by rw [dpAll_len hx, sizeLine_eq]; exact hl, new_lst ub.wf hx W1⟩
  · exact W1.elim
/-! ### built-ins that are called -/
def CallD (X : Cx) (T : List (Addr × Str)) (E : XK) (r : List V → Hp → VK → Prop) (g : List D → R D) : Prop :=
  ∀ (s : Hs) (xs : List V) (ds : List D) (Q : VK), Wf T s → DtAll s.f xs ds → Wg rE X.mg T E s (g ds) Q → r xs s.h Q
def fCall (g : List D → R D) (fs : Env → R (List D)) : Env → R D := fun ρ => (fs ρ).bnd g
theorem tCB_w {r : List V → Hp → VK → Prop} {g : List D → R D} (hd : CallD X T E r g) : ∀ σ H Q, tD rE X.mg T E (fCall g fs) σ H Q → tCB r (tD rA X.mg T E fs) σ H Q := by
  rintro σ H Q ⟨s, ρ, rfl, wf, sl, W⟩
  refine ⟨s, ρ, rfl, wf, sl, (Wg.bind W).imp ?_⟩
  rintro x _ ⟨b, rfl, ub, d, hx, W1⟩
  exact hd b x d Q ub.wf hx W1
variable {x : Str} {p : Pos} {id Ty : String} {r : List V → Hp → VK → Prop} {g : List D → R D}
def BltD (X : Cx) (T : List (Addr × Str)) (E : XK) (f : Value) (g : List D → R D) : Prop := ∃ r, CallR X f r ∧ CallD X T E r g
theorem e_callB (hc : BltD X T E (.builtin id) g) (hg : Gl X x) (hm : X.mg x = none) (hv : bootBuiltins x = some (.builtin id)) (ha : AD X T E (e :: es) fs) (hn : x ≠ "__name__" := by decide) (hdb : (x == ("__debug__" : Str)) = false := by decide)
    (he : starEach (e :: es) X.env = (false, eval e X.env) :: starEach es X.env := by rfl) (hpl : (backTo pos (starEach es X.env)).any (·.1) = false := by rfl) : ED X T E (.Call (.Name x p) (e :: es) [] pos) (fCall g fs) :=
  let ⟨_, h1, h2⟩ := hc
  pe_w (pe_callB h1 hg hm hv ha hn hdb he hpl) (tCB_w h2)
theorem e_callTy (hc : BltD X T E (.type Ty) g) (hg : Gl X x) (hm : X.mg x = none) (hv : bootBuiltins x = some (.type Ty)) (ha : AD X T E (e :: es) fs) (hn : x ≠ "__name__" := by decide) (hdb : (x == ("__debug__" : Str)) = false := by decide)
    (he : starEach (e :: es) X.env = (false, eval e X.env) :: starEach es X.env := by rfl) (hpl : (backTo pos (starEach es X.env)).any (·.1) = false := by rfl) : ED X T E (.Call (.Name x p) (e :: es) [] pos) (fCall g fs) :=
  let ⟨_, h1, h2⟩ := hc
  pe_w (pe_callTy h1 hg hm hv ha hn hdb he hpl) (tCB_w h2)
end
end Dl
namespace Dl
open PySem L2 PyProof.Rows
open LamX (ExtN Tabs)
section
variable {X : Cx} {T : List (Addr × Str)} {E : XK}
theorem wg_if {α β : Type} {rep : Hp → β → α → Prop} {mg : Str → Option Value} {s : Hs} {c : Prop} [Decidable c] {r : R α} {Q : β → Hp → Prop} (W : Wg rep mg T E s (if c then r else .bad) Q) : c ∧ Wg rep mg T E s r Q := by
  by_cases h : c
  · rw [if_pos h] at W
    exact ⟨h, W⟩
  · rw [if_neg h] at W
    exact W.elim
/-! ### arithmetic -/
theorem op_catL : OpR X (binaryOp .Add) (fun x y H Q => ∃ l b xs zs, x = .ref l ∧ y = .ref b ∧ SqL X.K H l xs ∧ SqL X.K H b zs ∧ xs.length + zs.length ≤ sizeLine ∧ ∀ p, H p = none → Q (.ref p) (upd H p (.lst (xs ++ zs)))) := by
  intro pins s σ H x y v u Q I rx ry h
  obtain ⟨l, b, xs, zs, rfl, rfl, hH, hB, hz, q⟩ := h
  cases rx
  cases ry
  obtain ⟨its, r, ⟨o, n, e, hc, hd, hs⟩, z⟩ := I.list hH
  obtain ⟨its2, r2, ⟨o2, n2, e2, hc2, hd2, hs2⟩, z2⟩ := I.list hB
  have hl := r.length
  have hl2 := r2.length
  obtain ⟨cls, dd, data, sl⟩ := o
  obtain ⟨cls2, dd2, data2, sl2⟩ := o2
  simp only at hc hd hs hc2 hd2 hs2
  subst hc hd hs hc2 hd2 hs2
  have ea : its.toArray ++ its2.toArray = (its ++ its2).toArray := by simp
  refine concat_meets ⟨_, e, rfl⟩ ⟨_, e2, rfl⟩ noFill_list_add seq_list_add PySem.F.slot_list_add PySem.F.entry_list_add (PySem.F.args_list_add_2 _ _) (list_addW l b its.toArray its2.toArray n n2 none none sl sl2 (by simp; omega)) ⟨e, e2, ?_⟩
  rw [ea]
  exact ⟨.ref _, _, I.lnew (t' := s.toks) (r.append r2) (by rw [List.length_append]; omega), rfl, q _ I.fresh⟩
def gAdd : D → D → R D
  | .int i, .int j => .ok (.int (i + j))
  | .str i, .str j => if i.length + j.length ≤ 16777216 then .ok (.str (i ++ j)) else .bad
  | .list i, .list j => if i.length + j.length ≤ 16777216 then .ok (.list (i ++ j)) else .bad
  | .tuple i, .tuple j => if i.length + j.length ≤ 16777216 then .ok (.tuple (i ++ j)) else .bad
  | _, _ => .bad
theorem b_add : BinD X T E .Add gAdd := by
  refine ⟨_, op_add.or (op_add_str.or (op_catL.or op_catA)), ?_⟩
  intro s x y d e Q wf hx hy W
  cases d <;> cases e <;> first | exact W.elim | skip
  · cases hx; cases hy
    exact .inl ⟨_, _, rfl, rfl, W.here wf (.int _)⟩
  · cases hx; cases hy
    obtain ⟨h, W⟩ := wg_if W
    exact .inr (.inl ⟨_, _, rfl, rfl, by rw [sizeLine_eq]; exact h, W.here wf (.str _)⟩)
  · cases hx with
    | lst h1 h2 =>
      cases hy with
      | lst h3 h4 =>
        obtain ⟨h, W⟩ := wg_if W
        refine .inr (.inr (.inl ⟨_, _, _, _, rfl, rfl, .inl (rd_l wf.sub h1), .inl (rd_l wf.sub h3), by rw [dpAll_len h2, dpAll_len h4, sizeLine_eq]; exact h, new_lst wf (dpAll_app h2 h4) W⟩))
  · cases hx with
    | tup h1 h2 =>
      cases hy with
      | tup h3 h4 =>
        obtain ⟨h, W⟩ := wg_if W
        refine .inr (.inr (.inr ⟨_, _, _, _, rfl, rfl, .inl (rd_t wf.sub h1), .inl (rd_t wf.sub h3), by rw [dpAll_len h2, dpAll_len h4, sizeLine_eq]; exact h, fun z => ?_, fun z z2 => ?_, fun _ _ => new_tup wf (dpAll_app h2 h4) W⟩))
        · subst z
          cases h2
          exact W.here wf (.tup h3 h4)
        · subst z2
          cases h4
          rw [List.append_nil] at W
          exact W.here wf (.tup h1 h2)
def gSub : D → D → R D
  | .int i, .int j => .ok (.int (i - j))
  | _, _ => .bad
theorem b_sub : BinD X T E .Sub gSub := by
  refine ⟨_, op_sub, ?_⟩
  intro s x y d e Q wf hx hy W
  cases d <;> cases e <;> first | exact W.elim | skip
  cases hx; cases hy
  exact ⟨_, _, rfl, rfl, W.here wf (.int _)⟩
/-- one factor below 2 ^ 64, or both below 2 ^ 1000 -/
def MulOk (i j : Int) : Prop := (i.natAbs < 2 ^ 64 ∨ j.natAbs < 2 ^ 64) ∨ (i.natAbs < 2 ^ 1000 ∧ j.natAbs < 2 ^ 1000)
instance (i j : Int) : Decidable (MulOk i j) := by unfold MulOk; infer_instance
theorem op_repL : OpR X (binaryOp .Mult) (fun x y H Q => ∃ l k xs, x = .ref l ∧ y = .int k ∧ Rd H l (.lst xs) ∧ -(2 ^ 63) ≤ k ∧ k < 2 ^ 63 ∧ xs.length * k.toNat ≤ sizeLine ∧
  ∀ p, H p = none → Q (.ref p) (upd H p (.lst (List.replicate k.toNat xs).flatten))) := by
  intro pins s σ H x y v u Q I rx ry h
  obtain ⟨l, k, xs, rfl, rfl, hH, h1, h2, hz, q⟩ := h
  cases rx
  obtain ⟨t, rfl⟩ := ry
  obtain ⟨z, its, n, r, e⟩ := hH.ok I.hok
  have hl := r.length
  have hlen : its.toArray.size * k.toNat ≤ sizeLine := by rw [List.size_toArray, ← hl]; exact hz
  have hcap : ¬ its.toArray.size * k.toNat > (2 ^ 63 - 1) / 8 := by
    have : (sizeLine : Nat) ≤ (2 ^ 63 - 1) / 8 := by decide
    omega
  have hfit : ¬ (!Builtin.List.listFitsIndex k) = true := by
    rw [fitsIndex_both h1 h2]
    exact Bool.false_ne_true
  have hlong : ¬ Builtin.List.listTooLong (its.toArray.size * k.toNat) = true := by
    rw [notLongL hlen]
    exact Bool.false_ne_true
  have hnew : List.foldl (fun x1 x2 => x1 ++ x2) #[] (List.replicate (if its.toArray.isEmpty = true then 0 else k.toNat) its.toArray) = (List.replicate k.toNat its).flatten.toArray := by
    have f0 : ∀ m : Nat, List.foldl (fun x1 x2 => x1 ++ x2) #[] (List.replicate m its.toArray) = (List.replicate m its).flatten.toArray := fun m => by
      have := foldl_rep its m []
      rw [List.nil_append] at this
      exact this
    rw [f0]
    cases its with
    | nil => simp
    | cons a r' => rw [if_neg (by simp)]
  refine wpAny_binaryOp_repeat_ref (T := "list") (U := "int") (by decide) ⟨_, e, rfl⟩ (fun s' => typeIs_int s' k t) noFill_list_mul F.fills_int_mul F.slot_int_rmul repeat_list F.slot_int_index.lookup
    (call_meets F.slot_int_rmul (typeIs_int s k t) F.entry_int_rmul (F.args_int_rmul_2 _ _) (int___rmul___int_list k t l its.toArray n)
      ⟨e, rfl, ⟨_, e, rfl⟩, call_meets F.slot_list_mul ⟨_, e, rfl⟩ F.entry_list_mul (F.args_list_mul_2 _ _) (AutoListH.list___mul___list_int_3 l its.toArray n k t hfit hcap hlong) ⟨e, ?_⟩⟩)
  rw [hnew]
  exact ⟨.ref _, _, I.lnew (t' := s.toks) (r.rep k.toNat) (by rw [PyProof.Rows.lm_len_rep_flat, Nat.mul_comm]; exact hz), rfl, q _ I.fresh⟩
theorem dpAll_rep {H : Hp} {vs : List V} {ds : List D} (h : DtAll H vs ds) : ∀ k : Nat, DtAll H (List.replicate k vs).flatten (List.replicate k ds).flatten
  | 0 => .nil
  | k + 1 => by
    rw [List.replicate_succ, List.flatten_cons, List.replicate_succ, List.flatten_cons]
    exact dpAll_app h (dpAll_rep h k)
def gMul : D → D → R D
  | .int i, .int j => if MulOk i j then .ok (.int (i * j)) else .bad
  | .list xs, .int k => if 0 ≤ k ∧ k ≤ 1000 ∧ xs.length ≤ 1000 then .ok (.list (List.replicate k.toNat xs).flatten) else .bad
  | .tuple xs, .int k => if 2 ≤ k ∧ k ≤ 1000 ∧ xs.length ≤ 1000 ∧ 0 < xs.length then .ok (.tuple (List.replicate k.toNat xs).flatten) else .bad
  | _, _ => .bad
theorem b_mul : BinD X T E .Mult gMul := by
  refine ⟨_, op_mul.or (op_mulW.or (op_repL.or op_repT)), ?_⟩
  intro s x y d e Q wf hx hy W
  cases d <;> cases e <;> first | exact W.elim | skip
  · cases hx; cases hy
    rename_i i j
    obtain ⟨h, W⟩ := wg_if W
    rcases h with h | ⟨h1, h2⟩
    · refine .inl ⟨_, _, rfl, rfl, ?_, W.here wf (.int _)⟩
      rcases h with h | h
      · exact .inl ⟨by omega, by omega⟩
      · exact .inr ⟨by omega, by omega⟩
    · exact .inr (.inl ⟨_, _, rfl, rfl, wide_mul h1 h2 (by decide) (by decide) (by decide), W.here wf (.int _)⟩)
  · cases hy
    cases hx with
    | lst h1 h2 =>
      obtain ⟨h, W⟩ := wg_if W
      have e := dpAll_len h2
      refine .inr (.inr (.inl ⟨_, _, _, rfl, rfl, rd_l wf.sub h1, by omega, by omega, ?_, new_lst wf (dpAll_rep h2 _) W⟩))
      rw [sizeLine_eq, e]
      obtain ⟨h0, h9, h8⟩ := h
      exact Nat.le_trans (Nat.mul_le_mul h8 (Int.toNat_le.mpr h9)) (by decide)
  · cases hy
    cases hx with
    | tup h1 h2 =>
      obtain ⟨h, W⟩ := wg_if W
      have e := dpAll_len h2
      refine .inr (.inr (.inr ⟨_, _, _, rfl, rfl, .inl (rd_t wf.sub h1), ?_, h.1, h.2.1, by omega, new_tup wf (dpAll_rep h2 _) W⟩))
      intro z
      rw [z] at e
      have := h.2.2.2
      rw [← e] at this
      exact absurd this (by decide)
def gFdiv : D → D → R D
  | .int i, .int j => if 0 < j ∧ j.natAbs < 2 ^ 1000 then .ok (.int (i / j)) else .bad
  | _, _ => .bad
theorem b_fdiv : BinD X T E .FloorDiv gFdiv := by
  refine ⟨_, op_fdivW, ?_⟩
  intro s x y d e Q wf hx hy W
  cases d <;> cases e <;> first | exact W.elim | skip
  cases hx; cases hy
  obtain ⟨h, W⟩ := wg_if W
  exact ⟨_, _, rfl, rfl, wide_div h.1 h.2 (by decide) (by decide), W.here wf (.int _)⟩
def gMod : D → D → R D
  | .int i, .int j => if 0 < j then .ok (.int (i % j)) else .bad
  | _, _ => .bad
theorem b_mod : BinD X T E .Mod gMod := by
  refine ⟨_, op_mod, ?_⟩
  intro s x y d e Q wf hx hy W
  cases d <;> cases e <;> first | exact W.elim | skip
  cases hx; cases hy
  obtain ⟨h, W⟩ := wg_if W
  exact ⟨_, _, rfl, rfl, h, W.here wf (.int _)⟩
def gPow : D → D → R D
  | .int i, .int j => if 0 ≤ j ∧ j ≤ 1000000 ∧ i.natAbs < 2 ^ 64 then .ok (.int (i ^ j.toNat)) else .bad
  | _, _ => .bad
theorem b_pow : BinD X T E .Pow gPow := by
  refine ⟨_, op_pow, ?_⟩
  intro s x y d e Q wf hx hy W
  cases d <;> cases e <;> first | exact W.elim | skip
  cases hx; cases hy
  obtain ⟨h, W⟩ := wg_if W
  exact ⟨_, _, rfl, rfl, h, W.here wf (.int _)⟩
def gNeg : D → R D
  | .int i => .ok (.int (-i))
  | _ => .bad
theorem e_neg {a : Expr} {fa : Env → R D} {pos : Pos} (ha : ED X T E a fa) : ED X T E (.UnaryOp .USub a pos) (fUn gNeg fa) := by
  refine e_un un_neg ?_ ha
  intro s x d Q wf hx W
  cases d <;> first | exact W.elim | skip
  cases hx
  exact ⟨_, rfl, W.here wf (.int _)⟩

end
end Dl
namespace Dl
open PySem L2 PyProof.Rows
open LamX (ExtN Tabs)
section
variable {X : Cx} {T : List (Addr × Str)} {E : XK}
/-! ### comparisons -/
def okEq (d e : D) : Bool := d.canLay0 && e.canLay0 && decide (min d.depth e.depth ≤ 64)
def okLt (d e : D) : Bool := PySem.W.alike d e && (match d with | .none => false | _ => true) && decide (min d.depth e.depth ≤ 64)
theorem okLt_of {d e : D} (h : okLt d e = true) : PySem.W.alike d e = true ∧ d ≠ .none ∧ min d.depth e.depth ≤ 64 := by
  unfold okLt at h
  rw [Bool.and_eq_true, Bool.and_eq_true] at h
  refine ⟨h.1.1, fun z => ?_, of_decide_eq_true h.2⟩
  rw [z] at h
  exact absurd h.1.2 (by simp)
theorem okLt_int (i j : Int) : okLt (.int i) (.int j) = true := by simp [okLt, PySem.W.alike, PyData.depth]
def gEq : D → D → R D
  | .int i, .int j => .ok (.bool (i == j))
  | d, e => if okEq d e = true then .ok (.bool (PyData.eqv d e)) else .bad
def gNe : D → D → R D
  | .int i, .int j => .ok (.bool (!(i == j)))
  | d, e => if okEq d e = true then .ok (.bool (!PyData.eqv d e)) else .bad
def gLt : D → D → R D
  | .int i, .int j => .ok (.bool (decide (i < j)))
  | d, e => if okLt d e = true then .ok (.bool (PySem.W.dataLt d e)) else .bad
def gGt : D → D → R D
  | .int i, .int j => .ok (.bool (decide (j < i)))
  | d, e => if okLt d e = true then .ok (.bool (PySem.W.dataLt e d)) else .bad
def gLe : D → D → R D
  | .int i, .int j => .ok (.bool (decide (i ≤ j)))
  | d, e => if okLt d e = true then .ok (.bool (!PySem.W.dataLt e d)) else .bad
def gGe : D → D → R D
  | .int i, .int j => .ok (.bool (decide (j ≤ i)))
  | d, e => if okLt d e = true then .ok (.bool (!PySem.W.dataLt d e)) else .bad
/-- by what the two read -/
def rD2 (C : D → D → Prop) (g : D → D → Bool) : R2 := fun x y H Q => ∃ d e, Dt H x d ∧ Dt H y e ∧ C d e ∧ Q (.bl (g d e)) H
theorem op_D2 {op : CmpOp} {C : D → D → Prop} {g : D → D → Bool}
    (h : ∀ (s : Shared) (a b : Value) (da db : D) (as bs : List Addr) (Q : Value → Shared → Prop), Reads s.heap a da as → Reads s.heap b db bs → C da db → Q (.bool (g da db)) s → wpAny (model X.prog X.w) X.A (compareOp op a b) Q X.xe s) : OpR X (compareOp op) (rD2 C g) := by
  intro pins s σ H x y v u Q I rx ry hh
  obtain ⟨d, e, hd, he, hC, q⟩ := hh
  obtain ⟨as, r1⟩ := Dp.reads I d x v (dt_dp d x hd) rx
  obtain ⟨bs, r2⟩ := Dp.reads I e y u (dt_dp e y he) ry
  exact h s v u d e as bs _ r1 r2 hC ⟨.bl _, H, I, rfl, q⟩
theorem od_D2 {C : D → D → Prop} {k : D → D → Bool} {g : D → D → R D} (h : ∀ d e, g d e = .bad ∨ (C d e ∧ g d e = .ok (.bool (k d e)))) : OpD X T E (rD2 C k) g := by
  intro s x y d e Q wf hx hy W
  rcases h d e with h | ⟨h1, h2⟩
  · rw [h] at W
    exact W.elim
  · rw [h2] at W
    exact ⟨d, e, dp_mono wf.sub d x hx, dp_mono wf.sub e y hy, h1, W.here wf (.bl _)⟩
theorem room64 {A : Around} {da db : D} (hu : A.units + 64 < cLine) (h : min da.depth db.depth ≤ 64) : A.units + min da.depth db.depth < cLine := by omega
theorem c_eq (hu : X.A.units + 64 < cLine) : CmpD X T E .Eq gEq := by
  refine ⟨_, op_D2 (C := fun d e => okEq d e = true) (g := PyData.eqv) fun s a b da db as bs Q ra rb hc q => ?_, od_D2 fun d e => ?_⟩
  · unfold okEq at hc
    rw [Bool.and_eq_true, Bool.and_eq_true] at hc
    exact SeqAt.compareEq_reads ra rb hc.1.1 hc.1.2 (room64 hu (of_decide_eq_true hc.2)) q
  · unfold gEq
    split
    · exact .inr ⟨by simp [okEq, PyData.canLay0, PyData.depth], by simp [PyData.eqv]⟩
    · split
      · exact .inr ⟨by assumption, rfl⟩
      · exact .inl rfl
theorem c_ne (hu : X.A.units + 64 < cLine) : CmpD X T E .NotEq gNe := by
  refine ⟨_, op_D2 (C := fun d e => okEq d e = true) (g := fun d e => !PyData.eqv d e) fun s a b da db as bs Q ra rb hc q => ?_, od_D2 fun d e => ?_⟩
  · unfold okEq at hc
    rw [Bool.and_eq_true, Bool.and_eq_true] at hc
    exact SeqAt.compareNe_reads ra rb hc.1.1 hc.1.2 (room64 hu (of_decide_eq_true hc.2)) q
  · unfold gNe
    split
    · exact .inr ⟨by simp [okEq, PyData.canLay0, PyData.depth], by simp [PyData.eqv]⟩
    · split
      · exact .inr ⟨by assumption, rfl⟩
      · exact .inl rfl
theorem c_lt (hu : X.A.units + 64 < cLine) : CmpD X T E .Lt gLt := by
  refine ⟨_, op_D2 (C := fun d e => okLt d e = true) (g := PySem.W.dataLt) fun s a b da db as bs Q ra rb hc q => ?_, od_D2 fun d e => ?_⟩
  · obtain ⟨h1, h2, h3⟩ := okLt_of hc
    exact PySem.W.lt_data ra rb h1 h2 (room64 hu h3) q
  · unfold gLt
    split
    · exact .inr ⟨okLt_int _ _, by rw [PySem.W.dataLt_int]⟩
    · split
      · exact .inr ⟨by assumption, rfl⟩
      · exact .inl rfl
theorem c_gt (hu : X.A.units + 64 < cLine) : CmpD X T E .Gt gGt := by
  refine ⟨_, op_D2 (C := fun d e => okLt d e = true) (g := fun d e => PySem.W.dataLt e d) fun s a b da db as bs Q ra rb hc q => ?_, od_D2 fun d e => ?_⟩
  · obtain ⟨h1, h2, h3⟩ := okLt_of hc
    exact PySem.W.gt_data ra rb h1 h2 (room64 hu h3) q
  · unfold gGt
    split
    · exact .inr ⟨okLt_int _ _, by rw [PySem.W.dataLt_int]⟩
    · split
      · exact .inr ⟨by assumption, rfl⟩
      · exact .inl rfl
theorem c_le (hu : X.A.units + 64 < cLine) : CmpD X T E .LtE gLe := by
  refine ⟨_, op_D2 (C := fun d e => okLt d e = true) (g := fun d e => !PySem.W.dataLt e d) fun s a b da db as bs Q ra rb hc q => ?_, od_D2 fun d e => ?_⟩
  · obtain ⟨h1, h2, h3⟩ := okLt_of hc
    exact PySem.W.le_data ra rb h1 h2 (room64 hu h3) q
  · unfold gLe
    split
    · refine .inr ⟨okLt_int _ _, ?_⟩
      rw [PySem.W.dataLt_int, PySem.W.not_lt_int]
    · split
      · exact .inr ⟨by assumption, rfl⟩
      · exact .inl rfl
theorem c_ge (hu : X.A.units + 64 < cLine) : CmpD X T E .GtE gGe := by
  refine ⟨_, op_D2 (C := fun d e => okLt d e = true) (g := fun d e => !PySem.W.dataLt d e) fun s a b da db as bs Q ra rb hc q => ?_, od_D2 fun d e => ?_⟩
  · obtain ⟨h1, h2, h3⟩ := okLt_of hc
    exact PySem.W.ge_data ra rb h1 h2 (room64 hu h3) q
  · unfold gGe
    split
    · refine .inr ⟨okLt_int _ _, ?_⟩
      rw [PySem.W.dataLt_int, PySem.W.not_lt_int]
    · split
      · exact .inr ⟨by assumption, rfl⟩
      · exact .inl rfl
/-! is None -/
def isN : D → Bool
  | .none => true
  | _ => false
def gIsN : D → D → R D
  | d, .none => .ok (.bool (isN d))
  | _, _ => .bad
def gNotN : D → D → R D
  | d, .none => .ok (.bool (!isN d))
  | _, _ => .bad
theorem dt_isN {H : Hp} {x : V} {d : D} (h : Dt H x d) : decide (x = .non) = isN d := by
  cases h <;> rfl
theorem c_isN : CmpD X T E .Is gIsN := by
  refine ⟨_, op_isN, ?_⟩
  intro s x y d e Q wf hx hy W
  cases e <;> first | (exfalso; revert W; cases d <;> exact id) | skip
  cases hy
  refine ⟨rfl, ?_⟩
  rw [dt_isN hx]
  cases d <;> exact W.here wf (.bl _)
theorem c_notN : CmpD X T E .IsNot gNotN := by
  refine ⟨_, op_notN, ?_⟩
  intro s x y d e Q wf hx hy W
  cases e <;> first | (exfalso; revert W; cases d <;> exact id) | skip
  cases hy
  refine ⟨rfl, ?_⟩
  rw [dt_isN hx]
  cases d <;> exact W.here wf (.bl _)
/-! in, not in -/
def flatD : D → Bool
  | .none => true
  | .bool _ => true
  | .int _ => true
  | .str _ => true
  | _ => false
def inD (d : D) (ds : List D) : Bool := ds.any fun e => PyData.eqv e d
theorem flat_of {H : Hp} {v : V} {d : D} (h : Dt H v d) (f : flatD d = true) : flatV v = true := by
  cases h <;> first | rfl | cases f
theorem flat_all {H : Hp} : ∀ {vs : List V} {ds : List D}, DtAll H vs ds → ds.all flatD = true → vs.all flatV = true
  | _, _, .nil, _ => rfl
  | _, _, .cons h t, f => by
    rw [List.all_cons, Bool.and_eq_true] at f
    rw [List.all_cons, flat_of h f.1, flat_all t f.2]
    rfl
theorem eqV_eqv {H : Hp} {v w : V} {d e : D} (h : Dt H v d) (h' : Dt H w e) (f : flatD d = true) (f' : flatD e = true) : eqV v w = PyData.eqv d e := by
  cases h <;> cases h' <;> first | cases f | cases f' | skip
  all_goals first | rfl | (simp [eqV, PyData.eqv]; done) | (simp [eqV, PyData.eqv, b2i]; done) | skip
theorem inV_inD {H : Hp} {v : V} {d : D} (h : Dt H v d) (f : flatD d = true) : ∀ {vs : List V} {ds : List D}, DtAll H vs ds → ds.all flatD = true → inV v vs = inD d ds
  | _, _, .nil, _ => rfl
  | _, _, .cons h1 t, f1 => by
    rw [List.all_cons, Bool.and_eq_true] at f1
    have ih := inV_inD h f t f1.2
    unfold inV inD at ih ⊢
    rw [List.any_cons, List.any_cons, ih, eqV_eqv h1 h f1.1 f]
def gInB (d : D) : D → R Bool
  | .list ds => if flatD d = true ∧ ds.all flatD = true then .ok (inD d ds) else .bad
  | .tuple ds => if flatD d = true ∧ ds.all flatD = true then .ok (inD d ds) else .bad
  | .str z => match d with
    | .str y => .ok (!(Builtin.Str.occurrences z y 0 z.length 1).isEmpty)
    | _ => .bad
  | _ => .bad
def gIn : D → D → R D := fun d e => (gInB d e).bnd fun b => .ok (.bool b)
def gNotIn : D → D → R D := fun d e => (gInB d e).bnd fun b => .ok (.bool (!b))
theorem c_in : CmpD X T E .In gIn := by
  refine ⟨_, op_in_seq.or op_in_str, ?_⟩
  intro s x y d e Q wf hx hy W
  unfold gIn at W
  cases e with
  | list ds =>
    cases hy with
    | lst h1 h2 =>
      by_cases h : flatD d = true ∧ ds.all flatD = true
      · rw [show gInB d (.list ds) = .ok (inD d ds) from if_pos h] at W
        refine .inl ⟨_, _, rfl, .inl (.inl (rd_l wf.sub h1)), flat_of hx h.1, flat_all h2 h.2, ?_⟩
        rw [inV_inD hx h.1 h2 h.2]
        exact W.here wf (.bl _)
      · rw [show gInB d (.list ds) = .bad from if_neg h] at W
        exact W.elim
  | tuple ds =>
    cases hy with
    | tup h1 h2 =>
      by_cases h : flatD d = true ∧ ds.all flatD = true
      · rw [show gInB d (.tuple ds) = .ok (inD d ds) from if_pos h] at W
        refine .inl ⟨_, _, rfl, .inr (.inl (rd_t wf.sub h1)), flat_of hx h.1, flat_all h2 h.2, ?_⟩
        rw [inV_inD hx h.1 h2 h.2]
        exact W.here wf (.bl _)
      · rw [show gInB d (.tuple ds) = .bad from if_neg h] at W
        exact W.elim
  | str z =>
    cases hy
    cases d <;> first | exact W.elim | skip
    cases hx
    exact .inr ⟨_, _, rfl, rfl, W.here wf (.bl _)⟩
  | _ => exact W.elim
theorem c_notIn : CmpD X T E .NotIn gNotIn := by
  refine ⟨_, op_notIn_seq.or op_notIn_str, ?_⟩
  intro s x y d e Q wf hx hy W
  unfold gNotIn at W
  cases e with
  | list ds =>
    cases hy with
    | lst h1 h2 =>
      by_cases h : flatD d = true ∧ ds.all flatD = true
      · rw [show gInB d (.list ds) = .ok (inD d ds) from if_pos h] at W
        refine .inl ⟨_, _, rfl, .inl (.inl (rd_l wf.sub h1)), flat_of hx h.1, flat_all h2 h.2, ?_⟩
        rw [inV_inD hx h.1 h2 h.2]
        exact W.here wf (.bl _)
      · rw [show gInB d (.list ds) = .bad from if_neg h] at W
        exact W.elim
  | tuple ds =>
    cases hy with
    | tup h1 h2 =>
      by_cases h : flatD d = true ∧ ds.all flatD = true
      · rw [show gInB d (.tuple ds) = .ok (inD d ds) from if_pos h] at W
        refine .inl ⟨_, _, rfl, .inr (.inl (rd_t wf.sub h1)), flat_of hx h.1, flat_all h2 h.2, ?_⟩
        rw [inV_inD hx h.1 h2 h.2]
        exact W.here wf (.bl _)
      · rw [show gInB d (.tuple ds) = .bad from if_neg h] at W
        exact W.elim
  | str z =>
    cases hy
    cases d <;> first | exact W.elim | skip
    cases hx
    exact .inr ⟨_, _, rfl, rfl, W.here wf (.bl _)⟩
  | _ => exact W.elim
end
end Dl
namespace Dl
open PySem L2 PyProof.Rows
open LamX (ExtN Tabs)
section
variable {X : Cx} {T : List (Addr × Str)} {E : XK} {a b e : Expr} {fa fb f : Env → R D} {pos : Pos} {es : List Expr} {fs : Env → R (List D)}
/-! ### isinstance(x, T), T a built-in class -/
def tyD : D → String
  | .none => "NoneType"
  | .bool _ => "bool"
  | .int _ => "int"
  | .str _ => "str"
  | .list _ => "list"
  | .tuple _ => "tuple"
  | .dict _ => "dict"
/-- is a thing of the first class one of the second -/
def isaT (a b : String) : Bool := a == b || (a == "bool" && b == "int")
def gIsi (t : String) (d : D) : R D := .ok (.bool (isaT (tyD d) t))
theorem ty_of {K : PySem.W.Frag} {H : Hp} {v : V} {d : D} (h : Dt H v d) : TyX K H v (.type (tyD d)) := by
  cases h with
  | non => exact .base .non
  | bl b => exact .base (.bl b)
  | int i => exact .base (.int i)
  | str x => exact .base (.str x)
  | lst h _ =>
    rcases h with h | ⟨o, h⟩
    · exact .base (.lst h)
    · exact .base (.frz h)
  | tup h _ =>
    rcases h with h | ⟨o, h⟩
    · exact .base (.tup h)
    · exact .fTuple h
theorem e_isi {ty : Str} {t : String} {p p2 : Pos} (hk : ∀ d : D, kitB (tyD d) t = some (isaT (tyD d) t)) (ha : ED X T E a fa) (hg : Gl X "isinstance") (hm : X.mg "isinstance" = none) (hg2 : Gl X ty) (hm2 : X.mg ty = none) (hv2 : bootBuiltins ty = some (.type t))
    (hn2 : ty ≠ "__name__" := by decide) (hd2 : (ty == ("__debug__" : Str)) = false := by decide)
    (he : starEach [a, .Name ty p2] X.env = (false, eval a X.env) :: starEach [.Name ty p2] X.env := by rfl) (hpl : (backTo pos (starEach [.Name ty p2] X.env)).any (·.1) = false := by rfl) (hs2 : starEach [.Name ty p2] X.env = (false, eval (.Name ty p2) X.env) :: starEach [] X.env := by rfl) :
    ED X T E (.Call (.Name "isinstance" p) [a, .Name ty p2] [] pos) (fUn (gIsi t) fa) := by
  refine pe_w (pe_callB call_isi hg hm (by decide +kernel) (pa_cons ha (pa_cons (pe_bltn (v := .ty t) hg2 hm2 hv2 rfl hn2 hd2) pa_nil hs2) he) (by decide) (by decide) he hpl) ?_
  rintro σ H Q ⟨s, ρ, rfl, wf, sl, W⟩
  refine ⟨s, ρ, rfl, wf, sl, (Wg.bind W).imp ?_⟩
  rintro x _ ⟨b, rfl, ub, d, hx, W1⟩
  exact ⟨x, .ty t, .type (tyD d), .type t, _, rfl, .ty t, ty_of (dp_mono ub.wf.sub d x hx), kit_ty (hk d), W1.here ub.wf (.bl _)⟩
theorem k_of {t : String} (h : (["NoneType", "bool", "int", "str", "list", "tuple", "dict"].all fun n => decide (kitB n t = some (isaT n t))) = true) : ∀ d : D, kitB (tyD d) t = some (isaT (tyD d) t) := by
  rw [List.all_eq_true] at h
  intro d
  have k : tyD d ∈ ["NoneType", "bool", "int", "str", "list", "tuple", "dict"] := by cases d <;> simp [tyD]
  exact of_decide_eq_true (h _ k)
theorem k_int : ∀ d : D, kitB (tyD d) "int" = some (isaT (tyD d) "int") := k_of (by decide +kernel)
theorem k_bool : ∀ d : D, kitB (tyD d) "bool" = some (isaT (tyD d) "bool") := k_of (by decide +kernel)
theorem k_str : ∀ d : D, kitB (tyD d) "str" = some (isaT (tyD d) "str") := k_of (by decide +kernel)
theorem k_list : ∀ d : D, kitB (tyD d) "list" = some (isaT (tyD d) "list") := k_of (by decide +kernel)
theorem k_tuple : ∀ d : D, kitB (tyD d) "tuple" = some (isaT (tyD d) "tuple") := k_of (by decide +kernel)

/-! ### x[i], x[i:j] -/
def asO {α : Type} : Option α → R α
  | some x => .ok x
  | none => .bad
def gIx : D → D → R D
  | .list xs, .int i => asO (atI xs i)
  | .tuple xs, .int i => asO (atI xs i)
  | .str z, .int i => if z.length ≤ 16777216 then (asO (atI z.cps.toList i)).bnd fun c => .ok (.str ⟨#[c]⟩) else .bad
  | _, _ => .bad
theorem atI_dt {H : Hp} {vs : List V} {ds : List D} {i : Int} {d : D} (h : DtAll H vs ds) (e : atI ds i = some d) : ∃ v, atI vs i = some v ∧ Dt H v d := by
  unfold atI at e ⊢
  rw [dpAll_len h]
  cases q : ixN ds.length i with
  | none =>
    rw [q] at e
    cases e
  | some j =>
    rw [q] at e
    exact dpAll_at h e
theorem e_ix (ha : ED X T E a fa) (hb : ED X T E b fb) (hs : PlainIx b := by exact fun _ _ => rfl) : ED X T E (.Subscript a b pos) (fOp gIx fa fb) := by
  refine e_ixR ix_seq ?_ ha hb hs
  intro s x y d e Q wf hx hy W
  cases d <;> cases e <;> first | exact W.elim | skip
  · cases hx; cases hy
    rename_i z i
    obtain ⟨h, W⟩ := wg_if W
    cases q : atI z.cps.toList i with
    | none =>
      rw [q] at W
      exact W.elim
    | some c =>
      rw [q] at W
      exact .inr (.inr ⟨z, i, c, rfl, rfl, by rw [sizeLine_eq]; exact h, q, W.here wf (.str _)⟩)
  · cases hy
    rename_i xs i
    cases hx with
    | lst h1 h2 =>
      cases q : atI xs i with
      | none =>
        rw [show gIx (.list xs) (.int i) = asO (atI xs i) from rfl, q] at W
        exact W.elim
      | some d =>
        rw [show gIx (.list xs) (.int i) = asO (atI xs i) from rfl, q] at W
        obtain ⟨v, h3, h4⟩ := atI_dt h2 q
        exact .inl ⟨_, _, i, v, rfl, rfl, .inl (rd_l wf.sub h1), h3, W.here wf h4⟩
  · cases hy
    rename_i xs i
    cases hx with
    | tup h1 h2 =>
      cases q : atI xs i with
      | none =>
        rw [show gIx (.tuple xs) (.int i) = asO (atI xs i) from rfl, q] at W
        exact W.elim
      | some d =>
        rw [show gIx (.tuple xs) (.int i) = asO (atI xs i) from rfl, q] at W
        obtain ⟨v, h3, h4⟩ := atI_dt h2 q
        exact .inr (.inl ⟨_, _, i, v, rfl, rfl, .inl (rd_t wf.sub h1), h3, W.here wf h4⟩)
/-! slices -/
def asI : D → R Int
  | .int i => .ok i
  | _ => .bad
def oNone : Env → R (Option Int) := fun _ => .ok none
def oSome (f : Env → R D) : Env → R (Option Int) := fun ρ => (f ρ).bnd fun d => (asI d).bnd fun i => .ok (some i)
theorem o_none : OD X T E none oNone := ⟨fun pins s σ H Q I h => po_none.run pins s σ H Q I (by
  obtain ⟨s', ρ, rfl, wf, sl, W⟩ := h
  exact Wg.here (rep := rO) wf W rfl)⟩
theorem o_some (h : ED X T E e f) : OD X T E (some e) (oSome f) := ⟨fun pins s σ H Q I hh => (po_some h).run pins s σ H Q I (by
  obtain ⟨s, ρ, rfl, wf, sl, W⟩ := hh
  refine ⟨s, ρ, rfl, wf, sl, (Wg.bind W).imp ?_⟩
  rintro x _ ⟨b, rfl, ub, d, hx, W1⟩
  cases d <;> first | exact W1.elim | skip
  have hx : Dt b.f x (.int _) := hx
  cases hx
  exact ⟨_, rfl, Wg.here (rep := rO) ub.wf W1 rfl⟩)⟩
def cutD {α : Type} (xs : List α) (lo hi : Option Int) : List α := (xs.drop (HT.sIx xs.length 0 lo)).take (HT.sIx xs.length xs.length hi - HT.sIx xs.length 0 lo)
def gSl (d : D) (lo hi : Option Int) : R D := match d with
  | .list xs => .ok (.list (cutD xs lo hi))
  | .tuple xs => .ok (.tuple (cutD xs lo hi))
  | .str z => if z.length ≤ 16777216 then .ok (.str (cutS z lo hi)) else .bad
  | _ => .bad
def fSl (fa : Env → R D) (fl fh : Env → R (Option Int)) : Env → R D := fun ρ => (fa ρ).bnd fun x => (fl ρ).bnd fun l => (fh ρ).bnd fun h => gSl x l h
theorem cut_dt {H : Hp} {vs : List V} {ds : List D} (h : DtAll H vs ds) (lo hi : Option Int) : DtAll H (cutV vs lo hi) (cutD ds lo hi) := by
  unfold cutV cutD
  rw [dpAll_len h]
  exact dpAll_take _ (dpAll_drop _ h)
theorem cut_whole {ds : List D} {lo hi : Option Int} (h : HT.sIx ds.length 0 lo = 0 ∧ HT.sIx ds.length ds.length hi = ds.length) : cutD ds lo hi = ds := by
  unfold cutD
  rw [h.1, h.2]
  simp
theorem e_sl {lo hi : Option Expr} {fl fh : Env → R (Option Int)} {p2 : Pos} (ha : ED X T E a fa) (hl : OD X T E lo fl) (hh : OD X T E hi fh) : ED X T E (.Subscript a (.Slice lo hi none p2) pos) (fSl fa fl fh) := by
  refine pe_w (pe_slice (sl_list.or (sl_tupA.or sl_str)) ha hl hh) ?_
  rintro σ H Q ⟨s, ρ, rfl, wf, sl, W⟩
  refine ⟨s, ρ, rfl, wf, sl, (Wg.bind W).imp ?_⟩
  rintro x _ ⟨b, rfl, ub, d, hx, W1⟩
  refine ⟨b, ρ, rfl, ub.wf, sl.mono ub.f, (Wg.bind (rep1 := rO) W1).imp ?_⟩
  rintro l _ ⟨c, rfl, uc, l', hl, W2⟩
  have hl : l = l' := hl
  subst hl
  refine ⟨c, ρ, rfl, uc.wf, sl.mono (ub.f.trans uc.f), (Wg.bind (rep1 := rO) W2).imp ?_⟩
  rintro h _ ⟨k, rfl, uk, h', hh, W3⟩
  have hh : h = h' := hh
  subst hh
  have hx : Dt k.f x d := dp_mono (uc.f.trans uk.f) d x hx
  have wf := uk.wf
  cases d <;> first | exact W3.elim | skip
  · cases hx
    obtain ⟨hz, W3⟩ := wg_if W3
    exact .inr (.inr ⟨_, rfl, by rw [sizeLine_eq]; exact hz, W3.here wf (.str _)⟩)
  · cases hx with
    | lst h1 h2 => exact .inl ⟨_, _, rfl, .inl (rd_l wf.sub h1), new_lst wf (cut_dt h2 l h) W3⟩
  · cases hx with
    | tup h1 h2 =>
      refine .inr (.inl ⟨_, _, rfl, .inl (rd_t wf.sub h1), fun z => ?_, fun _ => new_tup wf (cut_dt h2 l h) W3⟩)
      rw [dpAll_len h2] at z
      have W3 : Wg rE X.mg T E k (.ok (.tuple (cutD _ l h))) Q := W3
      rw [cut_whole z] at W3
      exact W3.here wf (.tup h1 h2)
/-! ### built-ins -/
def gLen : List D → R D
  | [.list xs] => .ok (.int xs.length)
  | [.tuple xs] => .ok (.int xs.length)
  | [.str z] => if z.length ≤ 16777216 then .ok (.int z.length) else .bad
  | _ => .bad
theorem call_case1 {g : List D → R D} {r : List V → Hp → VK → Prop} (h0 : ∀ ds, ds.length ≠ 1 → g ds = .bad) (h1 : ∀ (s : Hs) (x : V) (d : D) (Q : VK), Wf T s → Dt s.f x d → Wg rE X.mg T E s (g [d]) Q → r [x] s.h Q) : CallD X T E r g := by
  intro s xs ds Q wf h W
  cases h with
  | nil =>
    rw [h0 _ (by simp)] at W
    exact W.elim
  | cons hx ht =>
    cases ht with
    | nil => exact h1 s _ _ Q wf hx W
    | cons _ _ =>
      rw [h0 _ (by simp)] at W
      exact W.elim
theorem f_len : BltD X T E (.builtin "len") gLen := by
  refine ⟨_, call_len_seq.or call_len_str, call_case1 (fun ds h => ?_) fun s x d Q wf hx W => ?_⟩
  · match ds, h with
    | [], _ => rfl
    | [_], h => exact absurd rfl h
    | d :: _ :: _, _ => cases d <;> rfl
  · cases d <;> first | exact W.elim | skip
    · cases hx
      obtain ⟨hz, W⟩ := wg_if W
      exact .inr ⟨_, rfl, by rw [sizeLine_eq]; exact hz, W.here wf (.int _)⟩
    · cases hx with
      | lst h1 h2 =>
        refine .inl ⟨_, _, rfl, .inl (.inl (rd_l wf.sub h1)), ?_⟩
        rw [dpAll_len h2]
        exact W.here wf (.int _)
    · cases hx with
      | tup h1 h2 =>
        refine .inl ⟨_, _, rfl, .inr (.inl (rd_t wf.sub h1)), ?_⟩
        rw [dpAll_len h2]
        exact W.here wf (.int _)
/-! lists of one kind -/
def asInts : List D → Option (List Int)
  | [] => some []
  | .int i :: ds => (asInts ds).map (i :: ·)
  | _ :: _ => none
theorem asInts_of : ∀ {ds : List D} {ns : List Int}, asInts ds = some ns → ds = ns.map PyData.int
  | [], ns, h => by cases h; rfl
  | .int i :: ds, ns, h => by
    simp only [asInts, Option.map_eq_some_iff] at h
    obtain ⟨ms, h1, rfl⟩ := h
    rw [asInts_of h1]
    rfl
  | .none :: _, _, h => by cases h
  | .bool _ :: _, _, h => by cases h
  | .str _ :: _, _, h => by cases h
  | .list _ :: _, _, h => by cases h
  | .tuple _ :: _, _, h => by cases h
  | .dict _ :: _, _, h => by cases h
@[simp] theorem asInts_map (ns : List Int) : asInts (ns.map PyData.int) = some ns := by
  induction ns with
  | nil => rfl
  | cons n ns ih => simp [asInts, ih]
def asBls : List D → Option (List Bool)
  | [] => some []
  | .bool i :: ds => (asBls ds).map (i :: ·)
  | _ :: _ => none
theorem asBls_of : ∀ {ds : List D} {ns : List Bool}, asBls ds = some ns → ds = ns.map PyData.bool
  | [], ns, h => by cases h; rfl
  | .bool i :: ds, ns, h => by
    simp only [asBls, Option.map_eq_some_iff] at h
    obtain ⟨ms, h1, rfl⟩ := h
    rw [asBls_of h1]
    rfl
  | .none :: _, _, h => by cases h
  | .int _ :: _, _, h => by cases h
  | .str _ :: _, _, h => by cases h
  | .list _ :: _, _, h => by cases h
  | .tuple _ :: _, _, h => by cases h
  | .dict _ :: _, _, h => by cases h
@[simp] theorem asBls_map (ns : List Bool) : asBls (ns.map PyData.bool) = some ns := by
  induction ns with
  | nil => rfl
  | cons n ns ih => simp [asBls, ih]
/-- of one list: what the answer is, by the list's data -/
def gOne (g : List D → R D) : List D → R D
  | [.list xs] => g xs
  | _ => .bad
theorem gOne_bad {g : List D → R D} (ds : List D) (h : ds.length ≠ 1) : gOne g ds = .bad := by
  match ds, h with
  | [], _ => rfl
  | [_], h => exact absurd rfl h
  | d :: _ :: _, _ => cases d <;> rfl
theorem call_list1 {g : List D → R D} {r : List V → Hp → VK → Prop} (h1 : ∀ (s : Hs) (a : Addr) (xs : List V) (ds : List D) (Q : VK), Wf T s → Rd s.h a (.lst xs) → DtAll s.f xs ds → Wg rE X.mg T E s (g ds) Q → r [.ref a] s.h Q) : CallD X T E r (gOne g) := by
  refine call_case1 gOne_bad fun s x d Q wf hx W => ?_
  cases d <;> first | exact W.elim | skip
  cases hx with
  | lst h2 h3 => exact h1 s _ _ _ Q wf (rd_l wf.sub h2) h3 W
def dSum (ds : List D) : R D := (asO (asInts ds)).bnd fun ns => .ok (.int ns.sum)
def dAll (ds : List D) : R D := (asO (asBls ds)).bnd fun ns => .ok (.bool (ns.all id))
def dAny (ds : List D) : R D := (asO (asBls ds)).bnd fun ns => .ok (.bool (ns.any id))
theorem f_sum (hc : X.calm = true) : BltD X T E (.builtin "sum") (gOne dSum) := by
  refine ⟨_, cr_sum hc, call_list1 fun s a xs ds Q wf h1 h2 W => ?_⟩
  unfold dSum at W
  cases q : asInts ds with
  | none => rw [q] at W; exact W.elim
  | some ns =>
    rw [q] at W
    rw [asInts_of q] at h2
    rw [dpAll_ints h2] at h1
    exact ⟨a, ns, rfl, .inl h1, W.here wf (.int _)⟩
theorem f_all (hc : X.calm = true) : BltD X T E (.builtin "all") (gOne dAll) := by
  refine ⟨_, cr_all hc, call_list1 fun s a xs ds Q wf h1 h2 W => ?_⟩
  unfold dAll at W
  cases q : asBls ds with
  | none => rw [q] at W; exact W.elim
  | some ns =>
    rw [q] at W
    rw [asBls_of q] at h2
    rw [dpAll_bls h2] at h1
    exact ⟨a, ns, rfl, .inl h1, W.here wf (.bl _)⟩
theorem f_any (hc : X.calm = true) : BltD X T E (.builtin "any") (gOne dAny) := by
  refine ⟨_, cr_any hc, call_list1 fun s a xs ds Q wf h1 h2 W => ?_⟩
  unfold dAny at W
  cases q : asBls ds with
  | none => rw [q] at W; exact W.elim
  | some ns =>
    rw [q] at W
    rw [asBls_of q] at h2
    rw [dpAll_bls h2] at h1
    exact ⟨a, ns, rfl, .inl h1, W.here wf (.bl _)⟩
def gAbs : List D → R D
  | [.int i] => .ok (.int (if i < 0 then -i else i))
  | _ => .bad
theorem f_abs : BltD X T E (.builtin "abs") gAbs := by
  refine ⟨_, call_abs, call_case1 (fun ds h => ?_) fun s x d Q wf hx W => ?_⟩
  · match ds, h with
    | [], _ => rfl
    | [_], h => exact absurd rfl h
    | d :: _ :: _, _ => cases d <;> rfl
  · cases d <;> first | exact W.elim | skip
    cases hx
    exact ⟨_, rfl, W.here wf (.int _)⟩
def gInt : List D → R D
  | [.int i] => .ok (.int i)
  | [.bool b] => .ok (.int (if b then 1 else 0))
  | _ => .bad
theorem f_int : BltD X T E (.type "int") gInt := by
  refine ⟨_, call_int1, call_case1 (fun ds h => ?_) fun s x d Q wf hx W => ?_⟩
  · match ds, h with
    | [], _ => rfl
    | [_], h => exact absurd rfl h
    | d :: _ :: _, _ => cases d <;> rfl
  · cases d <;> first | exact W.elim | skip
    · cases hx
      exact .inr ⟨_, rfl, W.here wf (.int _)⟩
    · cases hx
      exact .inl ⟨_, rfl, W.here wf (.int _)⟩
def gTuple : List D → R D
  | [.list xs] => .ok (.tuple xs)
  | [.tuple xs] => .ok (.tuple xs)
  | _ => .bad
theorem f_tuple : BltD X T E (.type "tuple") gTuple := by
  refine ⟨_, call_tuple_of, call_case1 (fun ds h => ?_) fun s x d Q wf hx W => ?_⟩
  · match ds, h with
    | [], _ => rfl
    | [_], h => exact absurd rfl h
    | d :: _ :: _, _ => cases d <;> rfl
  · cases d <;> first | exact W.elim | skip
    · cases hx with
      | lst h1 h2 => exact ⟨_, _, rfl, .inl ⟨.inl (rd_l wf.sub h1), new_tup wf h2 W⟩⟩
    · cases hx with
      | tup h1 h2 => exact ⟨_, _, rfl, .inr ⟨.inl (rd_t wf.sub h1), W.here wf (.tup h1 h2)⟩⟩
def gList : List D → R D
  | [.list xs] => .ok (.list xs)
  | [.tuple xs] => .ok (.list xs)
  | _ => .bad
theorem f_list : BltD X T E (.type "list") gList := by
  refine ⟨_, call_list_of, call_case1 (fun ds h => ?_) fun s x d Q wf hx W => ?_⟩
  · match ds, h with
    | [], _ => rfl
    | [_], h => exact absurd rfl h
    | d :: _ :: _, _ => cases d <;> rfl
  · cases d <;> first | exact W.elim | skip
    · cases hx with
      | lst h1 h2 => exact ⟨_, _, rfl, .inl (.inl (rd_l wf.sub h1)), new_lst wf h2 W⟩
    · cases hx with
      | tup h1 h2 => exact ⟨_, _, rfl, .inr (.inl (rd_t wf.sub h1)), new_lst wf h2 W⟩
end
end Dl
namespace Dl
open PySem L2 PyProof.Rows
open LamX (ExtN Tabs)
open PySem.W (minD maxD minD_ints maxD_ints AlikeAll reads_keeps min_list_data max_list_data)
/-! ### min, max, sorted of data -/
def alikeB (ds : List D) : Bool := ds.all fun x => ds.all fun y => PySem.W.alike x y
theorem alikeB_of {ds : List D} (h : alikeB ds = true) : ∀ x ∈ ds, ∀ y ∈ ds, PySem.W.alike x y = true := by
  unfold alikeB at h
  rw [List.all_eq_true] at h
  intro x hx y hy
  have := h x hx
  rw [List.all_eq_true] at this
  exact this y hy
theorem alikeB_ints (ns : List Int) : alikeB (ns.map PyData.int) = true := by
  simp [alikeB, List.all_eq_true, PySem.W.alike]
theorem depthAll_ints (ns : List Int) : PyData.depthAll (ns.map PyData.int) = 0 := PySem.W.depth_ints ns
def okMin (ds : List D) : Bool := alikeB ds && (ds.all fun d => !isN d) && decide (PyData.depthAll ds ≤ 60)
theorem okMin_of {ds : List D} (h : okMin ds = true) : AlikeAll ds ∧ PyData.depthAll ds ≤ 60 := by
  unfold okMin at h
  rw [Bool.and_eq_true, Bool.and_eq_true] at h
  refine ⟨⟨alikeB_of h.1.1, fun x hx z => ?_⟩, of_decide_eq_true h.2⟩
  have := List.all_eq_true.mp h.1.2 x hx
  rw [z] at this
  exact absurd this (by decide)
def dMin (ds : List D) : R D := match asInts ds with
  | some (n :: ns) => .ok (.int (ns.foldl min n))
  | some [] => .bad
  | none => match ds with
    | [] => .bad
    | x :: xs => if okMin (x :: xs) = true then .ok (minD x xs) else .bad
def dMax (ds : List D) : R D := match asInts ds with
  | some (n :: ns) => .ok (.int (ns.foldl max n))
  | some [] => .bad
  | none => match ds with
    | [] => .bad
    | x :: xs => if okMin (x :: xs) = true then .ok (maxD x xs) else .bad
theorem okMin_ints (n : Int) (ns : List Int) : okMin ((n :: ns).map PyData.int) = true := by
  unfold okMin
  rw [alikeB_ints, depthAll_ints]
  simp [List.all_eq_true, isN]
theorem dMin_cases (ds : List D) : dMin ds = .bad ∨ ∃ x xs, ds = x :: xs ∧ okMin (x :: xs) = true ∧ dMin ds = .ok (minD x xs) := by
  unfold dMin
  cases q : asInts ds with
  | some ns =>
    cases ns with
    | nil => exact .inl rfl
    | cons n ns =>
      have e := asInts_of q
      exact .inr ⟨.int n, ns.map .int, e, okMin_ints n ns, by rw [minD_ints]⟩
  | none =>
    cases ds with
    | nil => exact .inl rfl
    | cons x xs =>
      dsimp only
      split
      · exact .inr ⟨x, xs, rfl, by assumption, rfl⟩
      · exact .inl rfl
theorem dMax_cases (ds : List D) : dMax ds = .bad ∨ ∃ x xs, ds = x :: xs ∧ okMin (x :: xs) = true ∧ dMax ds = .ok (maxD x xs) := by
  unfold dMax
  cases q : asInts ds with
  | some ns =>
    cases ns with
    | nil => exact .inl rfl
    | cons n ns =>
      have e := asInts_of q
      exact .inr ⟨.int n, ns.map .int, e, okMin_ints n ns, by rw [maxD_ints]⟩
  | none =>
    cases ds with
    | nil => exact .inl rfl
    | cons x xs =>
      dsimp only
      split
      · exact .inr ⟨x, xs, rfl, by assumption, rfl⟩
      · exact .inl rfl
theorem foldl_mem {f : D → D → D} (hf : ∀ a y, f a y = a ∨ f a y = y) : ∀ (xs : List D) (x : D), xs.foldl f x ∈ x :: xs
  | [], x => List.mem_cons_self
  | y :: xs, x => by
    have := foldl_mem hf xs (f x y)
    rw [List.foldl_cons]
    rcases List.mem_cons.mp this with h | h
    · rw [h]
      rcases hf x y with e | e
      · rw [e]; exact List.mem_cons_self
      · rw [e]; exact List.mem_cons_of_mem _ List.mem_cons_self
    · exact List.mem_cons_of_mem _ (List.mem_cons_of_mem _ h)
theorem minD_mem (x : D) (xs : List D) : minD x xs ∈ x :: xs := foldl_mem (fun a y => by by_cases h : PySem.W.dataLt y a = true <;> simp [h]) xs x
theorem maxD_mem (x : D) (xs : List D) : maxD x xs ∈ x :: xs := foldl_mem (fun a y => by by_cases h : PySem.W.dataLt a y = true <;> simp [h]) xs x
theorem vals_back {xs : List V} {us : List Value} {i : Nat} {u : Value} (r : Vals xs us) (h : us[i]? = some u) : ∃ x, xs[i]? = some x ∧ RelV x u := by
  have hi : i < xs.length := by
    rw [r.length]
    exact (List.getElem?_eq_some_iff.mp h).1
  obtain ⟨w, h1, h2⟩ := r.get (List.getElem?_eq_getElem hi)
  rw [h] at h1
  cases h1
  exact ⟨_, List.getElem?_eq_getElem hi, h2⟩
section
variable {X : Cx} {T : List (Addr × Str)} {E : XK}
def rBest (ds : List D) (d : D) (vs : List V) (H : Hp) (Q : VK) : Prop := ∃ a xs, vs = [.ref a] ∧ Rd H a (.lst xs) ∧ DtAll H xs ds ∧ ∀ v, Dt H v d → v ∈ xs → Q v H
/-- the value found is one of the list's -/
theorem best_of {pins : List (Addr × Obj)} {σ : L2.St} {H : Hp} {s : Shared} {xs : List V} {ds : List D} {its : List Value} {i : Nat} {v : Value} {h' : Heap} {bs : List Addr} {d : D} (I : L2.Inv X pins σ H s) (h : DtAll H xs ds) (rv : Vals xs its) (hv : its[i]? = some v)
    (hk : ∀ b o, s.heap.get? b = some o → h'.get? b = some o) (rd : Reads h' v d bs) (hm : d ∈ ds) (ha : ∀ x ∈ ds, ∀ y ∈ ds, PySem.W.alike x y = true) : ∃ x, x ∈ xs ∧ RelV x v ∧ Dt H x d := by
  obtain ⟨x, h1, h2⟩ := vals_back rv hv
  obtain ⟨e, h3, h4⟩ := dpAll_get h h1
  obtain ⟨as, r1⟩ := Dp.reads (X := X) I e x v (dt_dp e x h4) h2
  have := PySem.W.alike_unique e d v as bs (ha e (List.mem_of_getElem? h3) d hm) (reads_keeps hk r1) rd
  subst this
  exact ⟨x, List.mem_of_getElem? h1, h2, h4⟩
theorem cr_minD (hc : X.calm = true) (hu : X.A.units + 64 < cLine) : CallR X (.builtin "min") (fun vs H Q => ∃ x xs, okMin (x :: xs) = true ∧ rBest (x :: xs) (minD x xs) vs H Q) := by
  intro pins s σ H vs us Q I r h
  obtain ⟨x, ds, hok, a, xs, rfl, hl, hd, q⟩ := h
  obtain ⟨ha, hdep⟩ := okMin_of hok
  obtain ⟨its, rv, pl, _⟩ := I.list (.inl hl)
  obtain ⟨as, hr⟩ := Dp.readsAll (X := X) I _ _ its (dtAll_dp _ _ hd) rv
  rw [Vals.ref1 r]
  refine min_list_data (I.ok.hd hc) pl.isList (by simpa using hr) ha (by omega) fun i v h' tk bs hv rd hk => ?_
  obtain ⟨y, h1, h2, h3⟩ := best_of I hd rv (by simpa using hv) hk rd (minD_mem x ds) ha.1
  exact ⟨y, H, I.kept (t' := tk) hk, h2, q y h3 h1⟩
theorem cr_maxD (hc : X.calm = true) (hu : X.A.units + 64 < cLine) : CallR X (.builtin "max") (fun vs H Q => ∃ x xs, okMin (x :: xs) = true ∧ rBest (x :: xs) (maxD x xs) vs H Q) := by
  intro pins s σ H vs us Q I r h
  obtain ⟨x, ds, hok, a, xs, rfl, hl, hd, q⟩ := h
  obtain ⟨ha, hdep⟩ := okMin_of hok
  obtain ⟨its, rv, pl, _⟩ := I.list (.inl hl)
  obtain ⟨as, hr⟩ := Dp.readsAll (X := X) I _ _ its (dtAll_dp _ _ hd) rv
  rw [Vals.ref1 r]
  refine max_list_data (I.ok.hd hc) pl.isList (by simpa using hr) ha (by omega) fun i v h' tk bs hv rd hk => ?_
  obtain ⟨y, h1, h2, h3⟩ := best_of I hd rv (by simpa using hv) hk rd (maxD_mem x ds) ha.1
  exact ⟨y, H, I.kept (t' := tk) hk, h2, q y h3 h1⟩
/-- the data of an item of a list, in the frozen part -/
theorem item_dt {f : Hp} {xs : List V} {ds : List D} {v : V} (h : DtAll f xs ds) (hv : v ∈ xs) : ∃ d, d ∈ ds ∧ Dt f v d := by
  obtain ⟨i, hi⟩ := List.getElem?_of_mem hv
  obtain ⟨d, h1, h2⟩ := dpAll_get h hi
  exact ⟨d, List.mem_of_getElem? h1, h2⟩
theorem rd_inj {H : Hp} {a : Addr} {u v : HO} (hu : ∀ o w, u ≠ .frz o w) (hv : ∀ o w, v ≠ .frz o w) (h : Rd H a u) (h' : Rd H a v) : u = v := by
  rcases h with h | ⟨o, h⟩ <;> rcases h' with h' | ⟨o', h'⟩ <;> rw [h] at h'
  · exact Option.some.inj h'
  · exact absurd (Option.some.inj h') (hu _ _)
  · exact absurd (Option.some.inj h').symm (hv _ _)
  · cases h'; rfl
theorem rd_ll {H : Hp} {a : Addr} {xs ys : List V} (h : Rd H a (.lst xs)) (h' : Rd H a (.lst ys)) : xs = ys := by
  have := rd_inj (fun _ _ z => by cases z) (fun _ _ z => by cases z) h h'
  cases this; rfl
theorem rd_tt {H : Hp} {a : Addr} {xs ys : List V} (h : Rd H a (.tup xs)) (h' : Rd H a (.tup ys)) : xs = ys := by
  have := rd_inj (fun _ _ z => by cases z) (fun _ _ z => by cases z) h h'
  cases this; rfl
theorem rd_lt {H : Hp} {a : Addr} {xs ys : List V} (h : Rd H a (.lst xs)) (h' : Rd H a (.tup ys)) : False := by
  have := rd_inj (fun _ _ z => by cases z) (fun _ _ z => by cases z) h h'
  cases this
mutual
/-- a value has one datum -/
theorem dt_inj {H : Hp} : ∀ (d e : D) (v : V), Dt H v d → Dt H v e → d = e
  | .none, _, _, h, h' => by cases h; cases h'; rfl
  | .bool b, _, _, h, h' => by cases h; cases h'; rfl
  | .int i, _, _, h, h' => by cases h; cases h'; rfl
  | .str x, _, _, h, h' => by cases h; cases h'; rfl
  | .list ds, _, _, h, h' => by
    cases h with
    | lst h1 h2 =>
      cases h' with
      | lst h3 h4 =>
        rw [rd_ll h1 h3] at h2
        rw [dtAll_inj ds _ _ h2 h4]
      | tup h3 h4 => exact (rd_lt h1 h3).elim
  | .tuple ds, _, _, h, h' => by
    cases h with
    | tup h1 h2 =>
      cases h' with
      | tup h3 h4 =>
        rw [rd_tt h1 h3] at h2
        rw [dtAll_inj ds _ _ h2 h4]
      | lst h3 h4 => exact (rd_lt h3 h1).elim
  | .dict _, _, _, h, _ => by cases h
theorem dtAll_inj {H : Hp} : ∀ (ds es : List D) (vs : List V), DtAll H vs ds → DtAll H vs es → ds = es
  | [], _, _, h, h' => by cases h; cases h'; rfl
  | d :: ds, _, _, h, h' => by
    cases h with
    | cons h1 h2 =>
      cases h' with
      | cons h3 h4 => rw [dt_inj d _ _ h1 h3, dtAll_inj ds _ _ h2 h4]
end
theorem best_dt {s : Hs} {xs : List V} {ds : List D} {d : D} {v : V} (wf : Wf T s) (h : DtAll s.f xs ds) (hv : v ∈ xs) (hd : Dt s.h v d) : Dt s.f v d := by
  obtain ⟨e, _, h2⟩ := item_dt h hv
  rw [dt_inj d e v hd (dp_mono wf.sub e v h2)]
  exact h2
theorem f_min (hc : X.calm = true) (hu : X.A.units + 64 < cLine) : BltD X T E (.builtin "min") (gOne dMin) := by
  refine ⟨_, cr_minD hc hu, call_list1 fun s a xs ds Q wf h1 h2 W => ?_⟩
  rcases dMin_cases ds with e | ⟨x, zs, rfl, hok, e⟩
  · rw [e] at W
    exact W.elim
  · rw [e] at W
    exact ⟨x, zs, hok, a, xs, rfl, h1, dpAll_mono wf.sub _ _ h2, fun v hv hm => W.here wf (best_dt wf h2 hm hv)⟩
theorem f_max (hc : X.calm = true) (hu : X.A.units + 64 < cLine) : BltD X T E (.builtin "max") (gOne dMax) := by
  refine ⟨_, cr_maxD hc hu, call_list1 fun s a xs ds Q wf h1 h2 W => ?_⟩
  rcases dMax_cases ds with e | ⟨x, zs, rfl, hok, e⟩
  · rw [e] at W
    exact W.elim
  · rw [e] at W
    exact ⟨x, zs, hok, a, xs, rfl, h1, dpAll_mono wf.sub _ _ h2, fun v hv hm => W.here wf (best_dt wf h2 hm hv)⟩
/-! of two ints -/
theorem call_case2 {g : List D → R D} {r : List V → Hp → VK → Prop} (h0 : ∀ ds, ds.length ≠ 2 → g ds = .bad) (h1 : ∀ (s : Hs) (x y : V) (d e : D) (Q : VK), Wf T s → Dt s.f x d → Dt s.f y e → Wg rE X.mg T E s (g [d, e]) Q → r [x, y] s.h Q) : CallD X T E r g := by
  intro s xs ds Q wf h W
  cases h with
  | nil =>
    rw [h0 _ (by simp)] at W
    exact W.elim
  | cons hx ht =>
    cases ht with
    | nil =>
      rw [h0 _ (by simp)] at W
      exact W.elim
    | cons hy ht =>
      cases ht with
      | nil => exact h1 s _ _ _ _ Q wf hx hy W
      | cons _ _ =>
        rw [h0 _ (by simp)] at W
        exact W.elim
def gMin2 : List D → R D
  | [.int i, .int j] => .ok (.int (min i j))
  | _ => .bad
def gMax2 : List D → R D
  | [.int i, .int j] => .ok (.int (max i j))
  | _ => .bad
theorem f_min2 (hc : X.calm = true) : BltD X T E (.builtin "min") gMin2 := by
  refine ⟨_, call_min2 hc, call_case2 (fun ds h => ?_) fun s x y d e Q wf hx hy W => ?_⟩
  · match ds, h with
    | [], _ => rfl
    | [d], _ => cases d <;> rfl
    | [_, _], h => exact absurd rfl h
    | d :: e :: _ :: _, _ => cases d <;> cases e <;> rfl
  · cases d <;> cases e <;> first | exact W.elim | skip
    cases hx; cases hy
    rename_i i j
    refine ⟨i, j, rfl, ?_⟩
    rw [show (if j < i then j else i) = min i j by omega]
    exact W.here wf (.int _)
theorem f_max2 (hc : X.calm = true) : BltD X T E (.builtin "max") gMax2 := by
  refine ⟨_, call_max2 hc, call_case2 (fun ds h => ?_) fun s x y d e Q wf hx hy W => ?_⟩
  · match ds, h with
    | [], _ => rfl
    | [d], _ => cases d <;> rfl
    | [_, _], h => exact absurd rfl h
    | d :: e :: _ :: _, _ => cases d <;> cases e <;> rfl
  · cases d <;> cases e <;> first | exact W.elim | skip
    cases hx; cases hy
    rename_i i j
    refine ⟨i, j, rfl, ?_⟩
    rw [show (if j > i then j else i) = max i j by omega]
    exact W.here wf (.int _)
/-! ### sorted -/
def okSort (ds : List D) : Bool := alikeB ds && ((ds.all fun d => match d with | .tuple (_ :: _) => true | _ => false) || (ds.all fun d => match d with | .tuple _ => false | .none => false | _ => true)) && ds.all fun d => decide (d.depth ≤ 60)
def dSorted (ds : List D) : R D := if okSort ds = true ∧ ds.length ≤ 16777216 then .ok (.list (ds.mergeSort (PySem.W.dataLe false id))) else .bad
theorem okSort_of {ds : List D} (h : okSort ds = true) : PySem.W.AllAlike ds ∧ PySem.W.Sortable ds ∧ ∀ d ∈ ds, d.depth ≤ 60 := by
  unfold okSort at h
  rw [Bool.and_eq_true, Bool.and_eq_true, Bool.or_eq_true, List.all_eq_true, List.all_eq_true, List.all_eq_true] at h
  refine ⟨alikeB_of h.1.1, ?_, fun d hd => of_decide_eq_true (h.2 d hd)⟩
  rcases h.1.2 with h | h
  · refine .inl fun d hd => ?_
    have := h d hd
    cases d <;> first | cases this | skip
    rename_i xs
    cases xs with
    | nil => cases this
    | cons x r => exact ⟨x, r, rfl⟩
  · refine .inr fun d hd => ⟨fun z => ?_, fun xs z => ?_⟩
    · subst z
      have := h _ hd
      cases this
    · subst z
      have := h _ hd
      cases this
theorem each_of {H : Hp} : ∀ {xs : List V} {ds : List D} {its : List Value}, DtAll H xs ds → Vals xs its → PySem.W.EachIs (fun v d => ∃ x, RelV x v ∧ Dt H x d) its ds
  | _, _, _, .nil, .nil => .nil
  | _, _, _, .cons h t, .cons r q => .cons ⟨_, r, h⟩ (each_of t q)
theorem each_back {H : Hp} : ∀ {its : List Value} {ds : List D}, PySem.W.EachIs (fun v d => ∃ x, RelV x v ∧ Dt H x d) its ds → ∃ xs, DtAll H xs ds ∧ Vals xs its
  | _, _, .nil => ⟨[], .nil, .nil⟩
  | _, _, .cons ⟨x, r, h⟩ t => by
    obtain ⟨xs, h1, h2⟩ := each_back t
    exact ⟨x :: xs, .cons h h1, .cons r h2⟩
theorem cr_sortedD (hu : X.A.units + 64 < cLine) : CallR X (.builtin "sorted") (fun vs H Q => ∃ a xs f ds, vs = [.ref a] ∧ Rd H a (.lst xs) ∧ ExtN f H ∧ DtAll f xs ds ∧ okSort ds = true ∧ ds.length ≤ 16777216 ∧ ∀ ys p, DtAll f ys (ds.mergeSort (PySem.W.dataLe false id)) → H p = none → Q (.ref p) (upd H p (.lst ys))) := by
  intro pins s σ H vs us Q I r h
  obtain ⟨a, xs, f, ds, rfl, hl, ex, hd, hok, hlen, q⟩ := h
  obtain ⟨ha, hk, hdep⟩ := okSort_of hok
  obtain ⟨its, rv, pl, _⟩ := I.list (.inl hl)
  rw [Vals.ref1 r]
  have e := each_of hd rv
  have er : PySem.W.EachIs (fun v d => ∃ as, Reads s.heap v (id d) as) its ds := e.mono fun v d ⟨x, r, h⟩ => Dp.reads (X := X) I d x v (dt_dp d x (dp_mono ex d x h)) r
  refine PySem.W.sorted_data (enc := id) (R := fun v d => ∃ x, RelV x v ∧ Dt f x d) pl.isList e er (by rw [List.map_id]; exact ha) (by rw [List.map_id]; exact hk) (by rw [sizeLine_eq]; exact hlen) (fun b hb => ?_) fun out h1 h2 => ?_
  · have := hdep b hb
    show X.A.units + 2 + b.depth < cLine
    omega
  · obtain ⟨ys, h3, h4⟩ := each_back h2
    obtain ⟨ep, he'⟩ := PyProof.Rows.sortedAll_at s.heap its out.toArray
    have hl2 : ys.length ≤ sizeLine := by
      rw [dpAll_len h3, List.length_mergeSort, sizeLine_eq]
      exact hlen
    exact ⟨.ref _, upd H (s.heap.objs.size + 1) (.lst ys), I.laid (t' := s.toks) (fun _ _ => PyProof.Rows.sortedAll_old) (Nat.le_succ _) ⟨hl2, out, ep, h4, by simpa using he'⟩, rfl, q _ _ h3 (I.hok.fresh (Nat.le_succ _))⟩
theorem f_sorted (hu : X.A.units + 64 < cLine) : BltD X T E (.builtin "sorted") (gOne dSorted) := by
  refine ⟨_, cr_sortedD hu, call_list1 fun s a xs ds Q wf h1 h2 W => ?_⟩
  obtain ⟨h, W⟩ := wg_if W
  exact ⟨a, xs, s.f, ds, rfl, h1, wf.sub, h2, h.1, h.2, fun ys p hy hp => new_lst wf hy W p hp⟩
end
end Dl
namespace Dl
open PySem L2 PyProof.Rows
open LamX (ExtN Tabs)
/-! ### calls of defs -/
def spD (mg : Str → Option Value) (T : List (Addr × Str)) (f : List D → R D) : Sp := fun vs H Q E => ∃ s ds, s.h = H ∧ Wf T s ∧ DtAll s.f vs ds ∧ Wg rE mg T E s (f ds) Q
/-- the def x, called with n arguments, is f; at most k deep -/
structure Fn (P : Program) (w : World) (K : PySem.W.Frag) (mg : Str → Option Value) (base : Heap) (T : List (Addr × Str)) (x : Str) (k : Nat) (f : List D → R D) : Prop where
  ex : ∃ (a : Addr) (fd : FuncData) (ps : List Str), FnOk P w K mg base (L2N.CX P w) k a fd ps (spD mg T f) ∧ mg x = some (.ref a) ∧ PySem.W.keepIn K (.ref a) = true ∧ Binds K fd ps []
section
variable {X : Cx} {T : List (Addr × Str)} {E : XK} {e : Expr} {es : List Expr} {fs : Env → R (List D)} {f : List D → R D} {x : Str} {k : Nat} {p pos : Pos}
theorem tCall_w : ∀ σ H Q, tD rE X.mg T E (fCall f fs) σ H Q → tCall (spD X.mg T f) [] E (tD rA X.mg T E fs) σ H Q := by
  rintro σ H Q ⟨s, ρ, rfl, wf, sl, W⟩
  refine ⟨s, ρ, rfl, wf, sl, (Wg.bind W).imp ?_⟩
  rintro xs _ ⟨b, rfl, ub, ds, hx, W1⟩
  rw [List.append_nil]
  exact ⟨b, ds, rfl, ub.wf, hx, W1⟩
theorem e_call (F : Fn X.prog X.w X.K X.mg X.base T x k f) (hr : Room k X.A) (hx : Passes (L2N.CX X.prog X.w) X E) (hg : Gl X x) (ha : AD X T E (e :: es) fs) (hdb : (x == ("__debug__" : Str)) = false := by decide)
    (he : starEach (e :: es) X.env = (false, eval e X.env) :: starEach es X.env := by rfl) (hpl : (backTo pos (starEach es X.env)).any (·.1) = false := by rfl) : ED X T E (.Call (.Name x p) (e :: es) [] pos) (fCall f fs) := by
  obtain ⟨a, fd, ps, h1, h2, h3, h4⟩ := F.ex
  exact pe_w (pe_call h1 hr hg h2 h3 h4 .nil hx ha hdb he hpl) tCall_w
theorem e_call0 (F : Fn X.prog X.w X.K X.mg X.base T x k f) (hr : Room k X.A) (hx : Passes (L2N.CX X.prog X.w) X E) (hg : Gl X x) (hdb : (x == ("__debug__" : Str)) = false := by decide) : ED X T E (.Call (.Name x p) [] [] pos) (fCall f aNil) := by
  obtain ⟨a, fd, ps, h1, h2, h3, h4⟩ := F.ex
  refine pe_w (pe_call0 h1 hr hg h2 h3 h4 .nil hx hdb) ?_
  rintro σ H Q ⟨s, ρ, rfl, wf, sl, W⟩
  exact ⟨s, [], rfl, wf, .nil, W⟩
end

/-! ### what is walked -/
def Walks (T : List (Addr × Str)) (J : It) (ds : List D) (z : Hp) : Prop := ∀ s : Hs, ExtN z s.f → Wf T s →
  (∀ i d, ds[i]? = some d → J.go i s.h ∧ ∀ x H', J.yld i s.h x H' → ∃ f', Up T s ⟨f', H'⟩ ∧ Dt f' x d) ∧ J.stop ds.length s.h
def rI (T : List (Addr × Str)) : Hp → It → List D → Prop := fun z J ds => Walks T J ds z
def ID (X : Cx) (T : List (Addr × Str)) (E : XK) (tg iter : Expr) (f : Env → R (List D)) : Prop := PI X tg iter (tD (rI T) X.mg T E f)
theorem Walks.mono {T : List (Addr × Str)} {J : It} {ds : List D} {z z' : Hp} (h : Walks T J ds z) (e : ExtN z z') : Walks T J ds z' := fun s e' wf => h s (e.trans e') wf
section
variable {X : Cx} {T : List (Addr × Str)} {E : XK} {a b e tg : Expr} {f fa fb : Env → R D} {fs : Env → R (List D)} {p pos : Pos}
theorem pi_or {wi wi' : TI} (h : PI X tg e wi) (h' : PI X tg e wi') : PI X tg e (fun σ H R => wi σ H R ∨ wi' σ H R) :=
  ⟨fun pins s σ H R I q => q.elim (h.run pins s σ H R I) (h'.run pins s σ H R I)⟩
def signs (z : Str) : List D := z.cps.toList.map fun c => .str ⟨#[c]⟩
def items : D → R (List D)
  | .list ds => .ok ds
  | .tuple ds => .ok ds
  | .str z => .ok (signs z)
  | _ => .bad
def fIt (f : Env → R D) : Env → R (List D) := fun ρ => (f ρ).bnd items
theorem wk_list {K : PySem.W.Frag} {a : Addr} {xs : List V} {ds : List D} {z : Hp} (h : Rd z a (.lst xs)) (hd : DtAll z xs ds) : Walks T (Itl K a) ds z := fun s e wf => by
  have r : SqL K s.h a xs := .inl (rd_l wf.sub (rd_l e h))
  refine ⟨fun i d hi => ?_, xs, r, Nat.le_of_eq (dpAll_len hd)⟩
  obtain ⟨v, h1, h2⟩ := dpAll_at hd hi
  refine ⟨⟨xs, v, r, h1⟩, fun x H' y => ?_⟩
  obtain ⟨rfl, y⟩ := y
  have := y xs r
  rw [h1] at this
  cases this
  exact ⟨s.f, Up.refl wf, dp_mono e d _ h2⟩
theorem wk_tup {K : PySem.W.Frag} {a : Addr} {xs : List V} {ds : List D} {z : Hp} (h : Rd z a (.tup xs)) (hd : DtAll z xs ds) : Walks T (Itt K a) ds z := fun s e wf => by
  have r : SqT K s.h a xs := .inl (rd_t wf.sub (rd_t e h))
  refine ⟨fun i d hi => ?_, xs, r, Nat.le_of_eq (dpAll_len hd)⟩
  obtain ⟨v, h1, h2⟩ := dpAll_at hd hi
  refine ⟨⟨xs, v, r, h1⟩, fun x H' y => ?_⟩
  obtain ⟨rfl, y⟩ := y
  have := y xs r
  rw [h1] at this
  cases this
  exact ⟨s.f, Up.refl wf, dp_mono e d _ h2⟩
theorem i_seq (h : ED X T E e f) : ID X T E tg e (fIt f) := by
  refine pi_w (pi_or (pi_list h) (pi_or (pi_tup h) (pi_str h))) ?_
  rintro σ H Q ⟨s, ρ, rfl, wf, sl, W⟩
  unfold fIt at W
  cases q : f ρ with
  | bad => rw [q] at W; exact W.elim
  | err c =>
    refine .inl ⟨s, ρ, rfl, wf, sl, ?_⟩
    rw [q] at W ⊢
    exact W
  | ok d =>
    rw [q] at W
    cases d <;> first | exact W.elim | skip
    · rename_i z
      refine .inr (.inr ⟨s, ρ, rfl, wf, sl, ?_⟩)
      rw [q]
      intro v b ub hv
      have hv : Dt b.f v (.str z) := hv
      cases hv
      refine ⟨z, rfl, W (Its z) b ub fun t e wt => ⟨fun i d hi => ?_, ?_⟩⟩
      · unfold signs at hi
        rw [List.getElem?_map] at hi
        cases qc : z.cps.toList[i]? with
        | none => rw [qc] at hi; cases hi
        | some c =>
          rw [qc] at hi
          cases hi
          have hlt : i < z.cps.size := by
            have := (List.getElem?_eq_some_iff.mp qc).1
            simpa using this
          refine ⟨hlt, fun x H' y => ?_⟩
          obtain ⟨rfl, c', h1, rfl⟩ := y
          have e2 : z.cps.toList[i]? = some c' := by simpa using h1
          rw [qc] at e2
          cases e2
          exact ⟨t.f, Up.refl wt, .str _⟩
      · show z.cps.size ≤ _
        unfold signs
        simp
    · refine .inl ⟨s, ρ, rfl, wf, sl, ?_⟩
      rw [q]
      intro v b ub hv
      have hv : Dt b.f v (.list _) := hv
      cases hv with
      | lst h1 h2 => exact ⟨_, rfl, ⟨_, .inl (rd_l ub.wf.sub h1)⟩, W (Itl X.K _) b ub (wk_list h1 h2)⟩
    · refine .inr (.inl ⟨s, ρ, rfl, wf, sl, ?_⟩)
      rw [q]
      intro v b ub hv
      have hv : Dt b.f v (.tuple _) := hv
      cases hv with
      | tup h1 h2 => exact ⟨_, rfl, ⟨_, .inl (rd_t ub.wf.sub h1)⟩, W (Itt X.K _) b ub (wk_tup h1 h2)⟩
def rangeD (lo : Int) (n : Nat) : List D := (List.range n).map fun i => .int (lo + (i : Nat))
def gRng1 : List D → R (List D)
  | [.int j] => if -(2 ^ 62) ≤ j ∧ j < 2 ^ 62 then .ok (rangeD 0 j.toNat) else .bad
  | _ => .bad
def gRng2 : List D → R (List D)
  | [.int i, .int j] => if -(2 ^ 62) ≤ i ∧ i < 2 ^ 62 ∧ -(2 ^ 62) ≤ j ∧ j < 2 ^ 62 then .ok (rangeD i (j - i).toNat) else .bad
  | _ => .bad
def fItA (g : List D → R (List D)) (fs : Env → R (List D)) : Env → R (List D) := fun ρ => (fs ρ).bnd g
theorem wk_rng {lo : Int} {n : Nat} {z : Hp} : Walks T (Itr lo n) (rangeD lo n) z := fun s e wf => by
  refine ⟨fun i d hi => ?_, by show n ≤ _; simp [rangeD]⟩
  unfold rangeD at hi
  rw [List.getElem?_map] at hi
  cases q : (List.range n)[i]? with
  | none => rw [q] at hi; cases hi
  | some j =>
    rw [q] at hi
    cases hi
    obtain ⟨h1, h2⟩ := List.getElem?_eq_some_iff.mp q
    rw [List.getElem_range] at h2
    subst h2
    rw [List.length_range] at h1
    refine ⟨h1, fun x H' y => ?_⟩
    obtain ⟨rfl, rfl⟩ := y
    exact ⟨s.f, Up.refl wf, .int _⟩
theorem i_range1 (hg : Gl X "range") (hm : X.mg "range" = none) (ha : AD X T E [a] fs) (hs : starEach [a] X.env = [(false, eval a X.env)] := by rfl) : ID X T E tg (.Call (.Name "range" p) [a] [] pos) (fItA gRng1 fs) := by
  refine pi_w (pi_range1 hg hm ha hs) ?_
  rintro σ H Q ⟨s, ρ, rfl, wf, sl, W⟩
  refine ⟨s, ρ, rfl, wf, sl, (Wg.bind W).imp ?_⟩
  rintro xs _ ⟨b, rfl, ub, ds, hx, W1⟩
  match ds, hx, W1 with
  | [.int j], .cons (.int _) .nil, W1 =>
    obtain ⟨h, W1⟩ := wg_if W1
    exact ⟨j, rfl, h.1, h.2, W1 _ b (Up.refl ub.wf) wk_rng⟩
theorem i_range2 (hg : Gl X "range") (hm : X.mg "range" = none) (ha : AD X T E [a, b] fs) (hs : starEach [a, b] X.env = [(false, eval a X.env), (false, eval b X.env)] := by rfl) (hs2 : starEach [b] X.env = [(false, eval b X.env)] := by rfl) :
    ID X T E tg (.Call (.Name "range" p) [a, b] [] pos) (fItA gRng2 fs) := by
  refine pi_w (pi_range2 hg hm ha hs hs2) ?_
  rintro σ H Q ⟨s, ρ, rfl, wf, sl, W⟩
  refine ⟨s, ρ, rfl, wf, sl, (Wg.bind W).imp ?_⟩
  rintro xs _ ⟨b, rfl, ub, ds, hx, W1⟩
  match ds, hx, W1 with
  | [.int i, .int j], .cons (.int _) (.cons (.int _) .nil), W1 =>
    obtain ⟨h, W1⟩ := wg_if W1
    exact ⟨i, j, rfl, h, W1 _ b (Up.refl ub.wf) wk_rng⟩
/-! pairs -/
theorem up_pair {s : Hs} {A : Addr} {x y : V} {d e : D} (wf : Wf T s) (h : s.h A = none) (hx : Dt s.f x d) (hy : Dt s.f y e) : ∃ f', Up T s ⟨f', upd s.h A (.tup [x, y])⟩ ∧ Dt f' (.ref A) (.tuple [d, e]) := by
  have u := Up.laid wf h (o := .tup [x, y]) (fun ps z => by cases z)
  exact ⟨_, u, .tup (.inl upd_same) (.cons (dp_mono u.f d x hx) (.cons (dp_mono u.f e y hy) .nil))⟩
def zipD (xs ys : List D) : List D := List.zipWith (fun x y => PyData.tuple [x, y]) xs ys
def gZip : List D → R (List D)
  | [.list xs, .list ys] => .ok (zipD xs ys)
  | [.tuple xs, .tuple ys] => .ok (zipD xs ys)
  | _ => .bad
theorem zip_at {xs ys : List D} {i : Nat} {d : D} (h : (zipD xs ys)[i]? = some d) : ∃ x y, xs[i]? = some x ∧ ys[i]? = some y ∧ d = .tuple [x, y] := by
  unfold zipD at h
  rw [List.getElem?_zipWith] at h
  cases q : xs[i]? with
  | none => rw [q] at h; cases h
  | some x =>
    cases r : ys[i]? with
    | none => rw [q, r] at h; cases h
    | some y =>
      rw [q, r] at h
      cases h
      exact ⟨x, y, rfl, rfl, rfl⟩
theorem zip_len (xs ys : List D) : xs.length ≤ (zipD xs ys).length ∨ ys.length ≤ (zipD xs ys).length := by
  unfold zipD
  rw [List.length_zipWith]
  omega
theorem i_zip {elts : List Expr} {kk : Nat} {tpos : Pos} (hg : Gl X "zip") (hm : X.mg "zip" = none) (ha : AD X T E [a, b] fs)
    (hs : starEach [a, b] X.env = (false, eval a X.env) :: starEach [b] X.env := by rfl) (hpl : (backTo pos (starEach [b] X.env)).any (·.1) = false := by rfl) : ID X T E (.Tuple elts kk tpos) (.Call (.Name "zip" p) [a, b] [] pos) (fItA gZip fs) := by
  refine pi_w (RZ.pi_zipA hg hm ha hs hpl) ?_
  rintro σ H Q ⟨s, ρ, rfl, wf, sl, W⟩
  refine ⟨s, ρ, rfl, wf, sl, (Wg.bind W).imp ?_⟩
  rintro vs _ ⟨b, rfl, ub, ds, hx, W1⟩
  match ds, hx, W1 with
  | [.list xs, .list ys], .cons (.lst h1 h2) (.cons (.lst h3 h4) .nil), W1 =>
    refine ⟨_, _, _, _, rfl, .inl ⟨.inl (rd_l ub.wf.sub h1), .inl (rd_l ub.wf.sub h3), W1 _ b (Up.refl ub.wf) fun s e wf => ?_⟩⟩
    have r1 : SqL X.K s.h _ _ := .inl (rd_l wf.sub (rd_l e h1))
    have r2 : SqL X.K s.h _ _ := .inl (rd_l wf.sub (rd_l e h3))
    refine ⟨fun i d hi => ?_, _, _, r1, r2, ?_⟩
    · obtain ⟨x, y, e1, e2, rfl⟩ := zip_at hi
      obtain ⟨v, q1, q2⟩ := dpAll_at h2 e1
      obtain ⟨w', q3, q4⟩ := dpAll_at h4 e2
      refine ⟨⟨_, _, v, w', r1, r2, q1, q3⟩, fun z H' y' => ?_⟩
      obtain ⟨A, x1, y1, rfl, hn, rfl, f1, f2⟩ := y'
      have := f1 _ r1
      rw [q1] at this
      cases this
      have := f2 _ r2
      rw [q3] at this
      cases this
      exact up_pair wf hn (dp_mono e x _ q2) (dp_mono e y _ q4)
    · rw [dpAll_len h2, dpAll_len h4]
      exact zip_len xs ys
  | [.tuple xs, .tuple ys], .cons (.tup h1 h2) (.cons (.tup h3 h4) .nil), W1 =>
    refine ⟨_, _, _, _, rfl, .inr ⟨.inl (rd_t ub.wf.sub h1), .inl (rd_t ub.wf.sub h3), W1 _ b (Up.refl ub.wf) fun s e wf => ?_⟩⟩
    have r1 : SqT X.K s.h _ _ := .inl (rd_t wf.sub (rd_t e h1))
    have r2 : SqT X.K s.h _ _ := .inl (rd_t wf.sub (rd_t e h3))
    refine ⟨fun i d hi => ?_, _, _, r1, r2, ?_⟩
    · obtain ⟨x, y, e1, e2, rfl⟩ := zip_at hi
      obtain ⟨v, q1, q2⟩ := dpAll_at h2 e1
      obtain ⟨w', q3, q4⟩ := dpAll_at h4 e2
      refine ⟨⟨_, _, v, w', r1, r2, q1, q3⟩, fun z H' y' => ?_⟩
      obtain ⟨A, x1, y1, rfl, hn, rfl, f1, f2⟩ := y'
      have := f1 _ r1
      rw [q1] at this
      cases this
      have := f2 _ r2
      rw [q3] at this
      cases this
      exact up_pair wf hn (dp_mono e x _ q2) (dp_mono e y _ q4)
    · rw [dpAll_len h2, dpAll_len h4]
      exact zip_len xs ys
def enumD (xs : List D) : List D := xs.mapIdx fun i x => .tuple [.int (i : Nat), x]
def gEnum : List D → R (List D)
  | [.list xs] => .ok (enumD xs)
  | _ => .bad
theorem enum_at {xs : List D} {i : Nat} {d : D} (h : (enumD xs)[i]? = some d) : ∃ x, xs[i]? = some x ∧ d = .tuple [.int (i : Nat), x] := by
  unfold enumD at h
  rw [List.getElem?_mapIdx] at h
  cases q : xs[i]? with
  | none => rw [q] at h; cases h
  | some x =>
    rw [q] at h
    cases h
    exact ⟨x, rfl, rfl⟩
theorem i_enum {elts : List Expr} {kk : Nat} {tpos : Pos} (hg : Gl X "enumerate") (hm : X.mg "enumerate" = none) (ha : AD X T E [a] fs) (hs : starEach [a] X.env = [(false, eval a X.env)] := by rfl) :
    ID X T E (.Tuple elts kk tpos) (.Call (.Name "enumerate" p) [a] [] pos) (fItA gEnum fs) := by
  refine pi_w (pi_enum hg hm ha hs) ?_
  rintro σ H Q ⟨s, ρ, rfl, wf, sl, W⟩
  refine ⟨s, ρ, rfl, wf, sl, (Wg.bind W).imp ?_⟩
  rintro vs _ ⟨b, rfl, ub, ds, hx, W1⟩
  match ds, hx, W1 with
  | [.list xs], .cons (.lst h1 h2) .nil, W1 =>
    refine ⟨_, _, rfl, .inl (rd_l ub.wf.sub h1), W1 _ b (Up.refl ub.wf) fun s e wf => ?_⟩
    have r1 : SqL X.K s.h _ _ := .inl (rd_l wf.sub (rd_l e h1))
    refine ⟨fun i d hi => ?_, _, r1, ?_⟩
    · obtain ⟨x, e1, rfl⟩ := enum_at hi
      obtain ⟨v, q1, q2⟩ := dpAll_at h2 e1
      refine ⟨⟨_, v, r1, q1⟩, fun z H' y' => ?_⟩
      obtain ⟨A, x1, rfl, hn, rfl, f1⟩ := y'
      have := f1 _ r1
      rw [q1] at this
      cases this
      exact up_pair wf hn (.int _) (dp_mono e x _ q2)
    · rw [dpAll_len h2]
      simp [enumD]
end
end Dl
namespace Dl
open PySem L2 PyProof.Rows
open LamX (ExtN Tabs)
/-! ### targets -/
/-- only the slots is were touched -/
def Only (is : List Nat) (σ σ' : L2.St) : Prop := σ'.length = σ.length ∧ ∀ j, j ∉ is → σ'[j]? = σ[j]?
theorem Only.refl {is : List Nat} (σ : L2.St) : Only is σ σ := ⟨rfl, fun _ _ => rfl⟩
theorem Only.trans {is js : List Nat} {σ σ1 σ2 : L2.St} (h : Only is σ σ1) (h' : Only js σ1 σ2) : Only (is ++ js) σ σ2 :=
  ⟨h'.1.trans h.1, fun j hj => by rw [h'.2 j (fun z => hj (List.mem_append_right _ z)), h.2 j (fun z => hj (List.mem_append_left _ z))]⟩
/-- the same of data: what is touched holds data -/
structure Sets (is : List Nat) (ρ ρ' : Env) : Prop where
  len : ρ'.length = ρ.length
  out : ∀ j, j ∉ is → ρ'[j]? = ρ[j]?
  dat : ∀ j, j ∈ is → ∃ d, ρ'[j]? = some (.dat d)
def tG (T : List (Addr × Str)) (is : List Nat) (g : D → Env → Option Env) : TG := fun v σ H Q => ∃ (s : Hs) (ρ ρ' : Env) (d : D), s.h = H ∧ Wf T s ∧ Sl s.f σ ρ ∧ Dt s.f v d ∧ g d ρ = some ρ' ∧ ∀ σ', Sl s.f σ' ρ' → Only is σ σ' → Q σ' H
structure GD (X : Cx) (T : List (Addr × Str)) (tg : Expr) (is : List Nat) (g : D → Env → Option Env) : Prop where
  pg : PG X tg (tG T is g)
  sets : ∀ d ρ ρ', g d ρ = some ρ' → Sets is ρ ρ'
def tGs (T : List (Addr × Str)) (is : List Nat) (g : List D → Env → Option Env) : TGs := fun vs σ H Q => ∃ (s : Hs) (ρ ρ' : Env) (ds : List D), s.h = H ∧ Wf T s ∧ Sl s.f σ ρ ∧ DtAll s.f vs ds ∧ g ds ρ = some ρ' ∧ ∀ σ', Sl s.f σ' ρ' → Only is σ σ' → Q σ' H
structure GDs (X : Cx) (T : List (Addr × Str)) (ts : List Expr) (is : List Nat) (g : List D → Env → Option Env) : Prop where
  pg : PGs X ts (tGs T is g)
  sets : ∀ d ρ ρ', g d ρ = some ρ' → Sets is ρ ρ'
  len : ∀ ds ρ ρ', g ds ρ = some ρ' → ds.length = ts.length
def gNm (i : Nat) : D → Env → Option Env := fun d ρ => if i < ρ.length then some (ρ.set i (.dat d)) else none
def gNil : List D → Env → Option Env
  | [], ρ => some ρ
  | _, _ => none
def gCons (g : D → Env → Option Env) (gs : List D → Env → Option Env) : List D → Env → Option Env
  | d :: ds, ρ => (g d ρ).bind (gs ds)
  | [], _ => none
def gTp (g : List D → Env → Option Env) : D → Env → Option Env
  | .tuple ds, ρ => g ds ρ
  | _, _ => none
theorem sl_set {H : Hp} {σ : L2.St} {ρ : Env} {i : Nat} {v : V} {d : D} (sl : Sl H σ ρ) (hi : i < ρ.length) (h : Dt H v d) : Sl H (σ.set i (some v)) (ρ.set i (.dat d)) := by
  refine ⟨by rw [List.length_set, List.length_set]; exact sl.len, fun j e q => ?_, fun j e q => ?_⟩
  rotate_left
  · by_cases hj : i = j
    · subst hj
      rw [List.getElem?_set_self hi] at q
      cases q
    · rw [List.getElem?_set_ne hj] at q ⊢
      exact sl.raw j e q
  by_cases hj : i = j
  · subst hj
    rw [List.getElem?_set_self hi] at q
    cases q
    exact ⟨v, List.getElem?_set_self (by rw [sl.len]; exact hi), h⟩
  · rw [List.getElem?_set_ne hj] at q ⊢
    exact sl.dat j e q
section
variable {X : Cx} {T : List (Addr × Str)} {E : XK} {pos : Pos}
theorem g_name (i : Nat) {x : Str} (hN : X.N.Nodup) (hi : X.N[i]? = some x := by rfl) (hx : Loc X.env.scope x := by first | exact Or.inl rfl | exact Or.inr rfl) (hf : X.fn x = true ∨ X.env.scope.names.lookup x = some .local := by first | exact .inl rfl | exact .inr rfl | assumption) : GD X T (.Name x pos) [i] (gNm i) := by
  refine ⟨pg_w (pg_name hN hi hx hf) ?_, ?_⟩
  · rintro v σ H Q ⟨s, ρ, ρ', d, rfl, wf, sl, hd, hg, q⟩
    unfold gNm at hg
    split at hg
    · rename_i hlt
      cases hg
      refine q _ (sl_set sl hlt hd) ⟨List.length_set, fun j hj => ?_⟩
      rw [List.getElem?_set_ne (fun z => hj (by simp [z]))]
    · cases hg
  · intro d ρ ρ' hg
    unfold gNm at hg
    split at hg
    · rename_i hlt
      cases hg
      refine ⟨List.length_set, fun j hj => by rw [List.getElem?_set_ne (fun z => hj (by simp [z]))], fun j hj => ?_⟩
      have e : j = i := by simpa using hj
      subst e
      exact ⟨d, List.getElem?_set_self hlt⟩
    · cases hg
theorem gs_nil : GDs X T [] [] gNil := by
  refine ⟨⟨fun pins s σ H vs us Q I r h => pgs_nil.run pins s σ H vs us Q I r ?_⟩, ?_, ?_⟩
  · obtain ⟨s, ρ, ρ', ds, rfl, wf, sl, hd, hg, q⟩ := h
    cases hd with
    | nil =>
      cases hg
      exact ⟨rfl, q σ sl (Only.refl σ)⟩
    | cons _ _ => cases hg
  · intro ds ρ ρ' hg
    cases ds with
    | nil => cases hg; exact ⟨rfl, fun _ _ => rfl, fun j hj => by cases hj⟩
    | cons _ _ => cases hg
  · intro ds ρ ρ' hg
    cases ds with
    | nil => rfl
    | cons _ _ => cases hg
theorem sets_trans {is js : List Nat} {ρ ρ1 ρ2 : Env} (h : Sets is ρ ρ1) (h' : Sets js ρ1 ρ2) : Sets (is ++ js) ρ ρ2 := by
  refine ⟨h'.len.trans h.len, fun j hj => by rw [h'.out j (fun z => hj (List.mem_append_right _ z)), h.out j (fun z => hj (List.mem_append_left _ z))], fun j hj => ?_⟩
  by_cases hk : j ∈ js
  · exact h'.dat j hk
  · rw [h'.out j hk]
    exact h.dat j ((List.mem_append.mp hj).resolve_right hk)
theorem gs_cons {e : Expr} {es : List Expr} {is js : List Nat} {g : D → Env → Option Env} {gs : List D → Env → Option Env} (h1 : GD X T e is g) (h2 : GDs X T es js gs)
    (hs : (assignEach (e :: es) X.env).map (·.2) = assign e X.env :: (assignEach es X.env).map (·.2) := by rfl) : GDs X T (e :: es) (is ++ js) (gCons g gs) := by
  refine ⟨⟨fun pins s σ H vs us Q I r h => (pgs_cons h1.pg h2.pg hs).run pins s σ H vs us Q I r ?_⟩, ?_, ?_⟩
  · obtain ⟨s, ρ, ρ', ds, rfl, wf, sl, hd, hg, q⟩ := h
    cases hd with
    | nil => cases hg
    | cons hx ht =>
      rename_i d ds
      have hg : (g d ρ).bind (gs ds) = some ρ' := hg
      cases q1 : g d ρ with
      | none => rw [q1] at hg; cases hg
      | some ρ1 =>
        rw [q1] at hg
        exact ⟨_, _, rfl, s, ρ, ρ1, d, rfl, wf, sl, hx, q1, fun σ' sl' o1 => ⟨s, ρ1, ρ', ds, rfl, wf, sl', ht, hg, fun σ2 sl2 o2 => q σ2 sl2 (o1.trans o2)⟩⟩
  · intro ds ρ ρ' hg
    cases ds with
    | nil => cases hg
    | cons d ds =>
      have hg : (g d ρ).bind (gs ds) = some ρ' := hg
      cases q1 : g d ρ with
      | none => rw [q1] at hg; cases hg
      | some ρ1 =>
        rw [q1] at hg
        exact sets_trans (h1.sets d ρ ρ1 q1) (h2.sets ds ρ1 ρ' hg)
  · intro ds ρ ρ' hg
    cases ds with
    | nil => cases hg
    | cons d ds =>
      have hg : (g d ρ).bind (gs ds) = some ρ' := hg
      cases q1 : g d ρ with
      | none => rw [q1] at hg; cases hg
      | some ρ1 =>
        rw [q1] at hg
        rw [List.length_cons, List.length_cons, h2.len ds ρ1 ρ' hg]
theorem g_tup {es : List Expr} {is : List Nat} {k : Nat} {g : List D → Env → Option Env} (hc : X.calm = true) (h : GDs X T es is g)
    (hn : (assignEach es X.env).length = es.length := by rfl) (hst : (assignEach es X.env).findIdx? (·.1) = none := by rfl) : GD X T (.Tuple es k pos) is (gTp g) := by
  refine ⟨pg_w (pg_tup hc h.pg hn hst) ?_, ?_⟩
  · rintro v σ H Q ⟨s, ρ, ρ', d, rfl, wf, sl, hd, hg, q⟩
    cases d <;> first | cases hg | skip
    cases hd with
    | tup h1 h2 =>
      have hg : g _ ρ = some ρ' := hg
      exact ⟨_, _, rfl, .inl (rd_t wf.sub h1), by rw [dpAll_len h2, h.len _ _ _ hg], s, ρ, ρ', _, rfl, wf, sl, h2, hg, q⟩
  · intro d ρ ρ' hg
    cases d <;> first | cases hg | skip
    exact h.sets _ ρ ρ' hg
end

/-! ### comprehensions -/
def ne {α : Type} : R α → R α
  | .ok a => .ok a
  | _ => .bad
def wipeE (ρ : Env) : List Nat → Env
  | [] => ρ
  | v :: vs => (wipeE ρ vs).set v .non
theorem wipeE_len (ρ : Env) : ∀ vs, (wipeE ρ vs).length = ρ.length
  | [] => rfl
  | v :: vs => by unfold wipeE; rw [List.length_set, wipeE_len ρ vs]
theorem wipeE_dat {ρ : Env} {i : Nat} {d : D} : ∀ {vs : List Nat}, (wipeE ρ vs)[i]? = some (.dat d) → ρ[i]? = some (.dat d) ∧ i ∉ vs
  | [], h => ⟨h, by simp⟩
  | v :: vs, h => by
    unfold wipeE at h
    by_cases hi : v = i
    · subst hi
      by_cases hv : v < (wipeE ρ vs).length
      · rw [List.getElem?_set_self hv] at h; cases h
      · rw [List.getElem?_eq_none (by simpa using hv)] at h; cases h
    · rw [List.getElem?_set_ne hi] at h
      obtain ⟨h1, h2⟩ := wipeE_dat h
      exact ⟨h1, by simp only [List.mem_cons, not_or]; exact ⟨fun e => hi e.symm, h2⟩⟩
theorem wipeE_raw {ρ : Env} {i : Nat} {d : V} : ∀ {vs : List Nat}, (wipeE ρ vs)[i]? = some (.raw d) → ρ[i]? = some (.raw d) ∧ i ∉ vs
  | [], h => ⟨h, by simp⟩
  | v :: vs, h => by
    unfold wipeE at h
    by_cases hi : v = i
    · subst hi
      by_cases hv : v < (wipeE ρ vs).length
      · rw [List.getElem?_set_self hv] at h; cases h
      · rw [List.getElem?_eq_none (by simpa using hv)] at h; cases h
    · rw [List.getElem?_set_ne hi] at h
      obtain ⟨h1, h2⟩ := wipeE_raw h
      exact ⟨h1, by simp only [List.mem_cons, not_or]; exact ⟨fun e => hi e.symm, h2⟩⟩
theorem sl_wipe {H : Hp} {σ : L2.St} {ρ : Env} (vs : List Nat) (sl : Sl H σ ρ) : Sl H (wipe σ vs) (wipeE ρ vs) := by
  refine ⟨by rw [wipe_length, wipeE_len]; exact sl.len, fun i d q => ?_, fun i v q => ?_⟩
  rotate_left
  · obtain ⟨h1, h2⟩ := wipeE_raw q
    rw [wipe_out h2]
    exact sl.raw i v h1
  obtain ⟨h1, h2⟩ := wipeE_dat q
  obtain ⟨v, h3, h4⟩ := sl.dat i d h1
  exact ⟨v, by rw [wipe_out h2]; exact h3, h4⟩
theorem wipe_in {σ : L2.St} {i : Nat} : ∀ {vs : List Nat}, i ∈ vs → i < σ.length → (wipe σ vs)[i]? = some none
  | v :: vs, h, hl => by
    unfold wipe
    by_cases hi : v = i
    · subst hi
      exact List.getElem?_set_self (by rw [wipe_length]; exact hl)
    · rw [List.getElem?_set_ne hi]
      exact wipe_in ((List.mem_cons.mp h).resolve_left (fun e => hi e.symm)) hl
theorem wipe_only {is vs : List Nat} {σ σ2 : L2.St} (hs : ∀ j ∈ is, j ∈ vs) (o : Only is (wipe σ vs) σ2) : wipe σ2 vs = wipe σ vs := by
  have hl : σ2.length = σ.length := by rw [o.1, wipe_length]
  refine List.ext_getElem? fun j => ?_
  by_cases hj : j ∈ vs
  · by_cases hlt : j < σ.length
    · rw [wipe_in hj hlt, wipe_in hj (by rw [hl]; exact hlt)]
    · rw [List.getElem?_eq_none (by rw [wipe_length]; omega), List.getElem?_eq_none (by rw [wipe_length]; omega)]
  · rw [wipe_out hj, o.2 j (fun z => hj (hs j z))]
def lcLoop (g : D → Env → Option Env) (tt : Env → R Bool) (te : Env → R D) (ρ : Env) : List D → R (List D)
  | [] => .ok []
  | d :: ds => match g d ρ with
    | none => .bad
    | some ρ' => (ne (tt ρ')).bnd fun b => if b = true then (ne (te ρ')).bnd fun y => (lcLoop g tt te ρ ds).bnd fun ys => .ok (y :: ys) else lcLoop g tt te ρ ds
def fLc (fi : Env → R (List D)) (g : D → Env → Option Env) (tt : Env → R Bool) (te : Env → R D) (vs : List Nat) : Env → R D := fun ρ => (fi ρ).bnd fun ds => if ds.length ≤ 16777216 then (lcLoop g tt te (wipeE ρ vs) ds).bnd fun ys => .ok (.list ys) else .bad
theorem tabs_upd {T : List (Addr × Str)} {H : Hp} {A : Addr} {xs ys : List V} (t : Tabs T H) (h : H A = some (.lst xs)) : Tabs T (upd H A (.lst ys)) := fun p hp => by
  obtain ⟨ps, h1, h2, h3⟩ := t p hp
  have n1 : p.1 ≠ A := ne_of h1 h (fun z => by cases z)
  refine ⟨ps, by rw [upd_ne n1]; exact h1, h2, fun pos cv hc => ?_⟩
  obtain ⟨c, e1, e2⟩ := h3 pos cv hc
  have n2 : c ≠ A := ne_of e2 h (fun z => by unfold LamX.CodeO at z; cases z)
  exact ⟨c, e1, by rw [upd_ne n2]; exact e2⟩
/-- an object that the frozen part does not know is written -/
theorem extN_mut {f H : Hp} {A : Addr} {o : HO} (e : ExtN f H) (h : f A = none) : ExtN f (upd H A o) := fun b u hb nt => by
  rw [upd_ne (ne_of_none hb h)]
  exact e b u hb nt
theorem extN_mutL {f H : Hp} {A : Addr} {o : HO} (e : ExtN f H) (h : ¬ Lv f A) : ExtN f (upd H A o) := fun b u hb nt => by
  have : b ≠ A := fun z => h (by rw [← z]; exact ⟨u, hb, nt⟩)
  rw [upd_ne this]
  exact e b u hb nt
theorem not_lv {H : Hp} {A : Addr} (h : H A = none) : ¬ Lv H A := fun ⟨o, e, _⟩ => by rw [h] at e; cases e
theorem Up.mut {T : List (Addr × Str)} {a : Hs} {f H : Hp} {A : Addr} {xs ys : List V} (u : Up T a ⟨f, H⟩) (h0 : ¬ Lv a.h A) (hf : f A = none) (hH : H A = some (.lst xs)) : Up T a ⟨f, upd H A (.lst ys)⟩ :=
  ⟨u.f, extN_mutL u.h h0, u.new, ⟨extN_mut u.wf.sub hf, u.wf.nt, tabs_upd u.wf.tabs hH⟩⟩
/-- a list that stood apart is frozen -/
theorem Up.freeze {T : List (Addr × Str)} {a : Hs} {f H : Hp} {A : Addr} {xs : List V} (u : Up T a ⟨f, H⟩) (h0 : ¬ Lv a.h A) (hf : f A = none) (hH : H A = some (.lst xs)) : Up T a ⟨upd f A (.lst xs), H⟩ := by
  refine ⟨fun b o e nt => ?_, u.h, fun p h1 h2 => ?_, ⟨fun b o e nt => ?_, fun q ps e => ?_, u.wf.tabs⟩⟩
  · have hb := u.f b o e nt
    have : b ≠ A := ne_of_none hb hf
    show upd f A _ b = some o
    rw [upd_ne this]
    exact hb
  · have hp : p ≠ A := fun z => h0 (by rw [← z]; exact h2)
    show upd f A _ p = none
    rw [upd_ne hp]
    exact u.new p h1 h2
  · by_cases hb : b = A
    · subst hb
      have e : upd f b _ b = some o := e
      rw [upd_same] at e
      cases e
      exact hH
    · have e : upd f A _ b = some o := e
      rw [upd_ne hb] at e
      exact u.wf.sub b o e nt
  · by_cases hq : q = A
    · subst hq
      have e : upd f q _ q = some (.tbl ps) := e
      rw [upd_same] at e
      cases e
    · have e : upd f A _ q = some (.tbl ps) := e
      rw [upd_ne hq] at e
      exact u.wf.nt q ps e
def TDs (X : Cx) (T : List (Addr × Str)) (E : XK) (ifs : List Expr) (f : Env → R Bool) : Prop := PTs X ifs (tD rB X.mg T E f)
def tYesD : Env → R Bool := fun _ => .ok true
section
variable {X : Cx} {T : List (Addr × Str)} {E : XK} {pos : Pos}
theorem ts_nil : TDs X T E [] tYesD := ⟨fun pins s σ H Q I h => pts_nil.run pins s σ H Q I (by
  obtain ⟨s', ρ, rfl, wf, sl, W⟩ := h
  exact Wg.here (rep := rB) wf W rfl)⟩
theorem ts_one {c : Expr} {f : Env → R Bool} (h : TD X T E c f) : TDs X T E [c] f := pts_one h
theorem wg_ne {α β : Type} {rep : Hp → β → α → Prop} {mg : Str → Option Value} {s : Hs} {r : R α} {Q : β → Hp → Prop} (W : Wg rep mg T E (s) (ne r) Q) : Wg rep mg T E0 s r Q := by
  cases r with
  | ok a => exact W
  | err c => exact W.elim
  | bad => exact W.elim
theorem lc_w {wi : TI} {fi : Env → R (List D)} {g : D → Env → Option Env} {tt : Env → R Bool} {te : Env → R D} {is vs : List Nat} {mg : Str → Option Value} (hs : ∀ j ∈ is, j ∈ vs) :
    ∀ σ H Q, tD rE mg T E (fLc fi g tt te vs) σ H Q → tLc (tD (rI T) mg T E fi) (tG T is g) (tD rB mg T E0 tt) (tD rE mg T E0 te) vs σ H Q := by
  rintro σ H Q ⟨s, ρ, rfl, wf, sl, W⟩
  refine ⟨s, ρ, rfl, wf, sl, (Wg.bind W).imp ?_⟩
  rintro J _ ⟨b, rfl, ub, items, wk, W1⟩
  obtain ⟨hlen, W1⟩ := wg_if W1
  intro A hA
  have bA : b.f A = none := ub.wf.free hA
  -- the turns from i on
  let Pv : Nat → Hp → Prop := fun i H => ∃ f acc dn, Up T b ⟨f, H⟩ ∧ f A = none ∧ H A = some (.lst acc) ∧ DtAll f acc dn ∧ acc.length ≤ i ∧
    Wg rE mg T E b ((lcLoop g tt te (wipeE ρ vs) (items.drop i)).bnd fun ys => .ok (.list (dn ++ ys))) Q
  have p0 : Pv 0 (upd b.h A (.lst [])) := by
    have u0 : Up T b ⟨b.f, upd b.h A (.lst [])⟩ := ⟨ExtN.refl _, extN_upd hA, fun _ h _ => h, ⟨extN_mut ub.wf.sub bA, ub.wf.nt, Tabs.ext ub.wf.tabs (same_upd hA)⟩⟩
    exact ⟨b.f, [], [], u0, bA, upd_same, .nil, Nat.le_refl _, W1⟩
  refine ⟨fun i m H => m = items.length - i ∧ i ≤ items.length ∧ Pv i H, ⟨items.length, by simp, Nat.zero_le _, p0⟩, ?_⟩
  rintro i m H ⟨rfl, hi, f, acc, dn, u, fA, hHA, hdn, hacc, W2⟩
  obtain ⟨go, stop⟩ := wk ⟨f, H⟩ u.f u.wf
  by_cases hlt : i < items.length
  · obtain ⟨go1, go2⟩ := go i items[i] (List.getElem?_eq_getElem hlt)
    refine .inr ⟨go1, Pv (i + 1), fun H' p' => ⟨_, by omega, rfl, hlt, p'⟩, fun x H' y => ?_⟩
    obtain ⟨f', u', hx⟩ := go2 x H' y
    have fA' : f' A = none := u'.new A fA ⟨_, hHA, fun ps z => by cases z⟩
    have hHA' : H' A = some (.lst acc) := u'.h A _ hHA (fun ps z => by cases z)
    have ud := u.trans u'
    rw [List.drop_eq_getElem_cons hlt] at W2
    unfold lcLoop at W2
    cases qg : g items[i] (wipeE ρ vs) with
    | none =>
      rw [qg] at W2
      exact W2.elim
    | some ρ' =>
      rw [qg] at W2
      dsimp only at W2
      refine ⟨⟨f', H'⟩, wipeE ρ vs, ρ', items[i], rfl, u'.wf, sl_wipe vs (sl.mono (ub.f.trans ud.f)), hx, qg, fun σ2 sl2 o2 => ⟨wipe_only hs o2, ?_⟩⟩
      cases qt : tt ρ' with
      | bad => rw [qt] at W2; exact W2.elim
      | err c => rw [qt] at W2; exact W2.elim
      | ok k =>
        rw [qt] at W2
        refine ⟨⟨f', H'⟩, ρ', rfl, u'.wf, sl2, ?_⟩
        rw [qt]
        rintro k' c uc rfl
        have uc0 := ud.trans uc
        have fc : c.f A = none := uc.new A fA' ⟨_, hHA', fun ps z => by cases z⟩
        have hc : c.h A = some (.lst acc) := uc.h A _ hHA' (fun ps z => by cases z)
        cases k' with
        | false => exact ⟨c.f, acc, dn, uc0, fc, hc, dpAll_mono (u'.f.trans uc.f) _ _ hdn, by omega, W2⟩
        | true =>
          cases qe : te ρ' with
          | bad =>
            have W2 : Wg rE mg T E b (((ne (te ρ')).bnd fun y => (lcLoop g tt te (wipeE ρ vs) (items.drop (i + 1))).bnd fun ys => .ok (y :: ys)).bnd fun ys => .ok (.list (dn ++ ys))) Q := W2
            rw [qe] at W2; exact W2.elim
          | err c =>
            have W2 : Wg rE mg T E b (((ne (te ρ')).bnd fun y => (lcLoop g tt te (wipeE ρ vs) (items.drop (i + 1))).bnd fun ys => .ok (y :: ys)).bnd fun ys => .ok (.list (dn ++ ys))) Q := W2
            rw [qe] at W2; exact W2.elim
          | ok y =>
            have W2 : Wg rE mg T E b (((ne (te ρ')).bnd fun y => (lcLoop g tt te (wipeE ρ vs) (items.drop (i + 1))).bnd fun ys => .ok (y :: ys)).bnd fun ys => .ok (.list (dn ++ ys))) Q := W2
            rw [qe] at W2
            refine ⟨c, ρ', rfl, uc.wf, sl2.mono uc.f, ?_⟩
            rw [qe]
            intro v k uk hv
            have uk0 := uc0.trans uk
            have fk : k.f A = none := uk.new A fc ⟨_, hc, fun ps z => by cases z⟩
            have hk : k.h A = some (.lst acc) := uk.h A _ hc (fun ps z => by cases z)
            refine ⟨acc, hk, by rw [sizeLine_eq]; omega, k.f, acc ++ [v], dn ++ [y], Up.mut uk0 (not_lv hA) fk hk, fk, upd_same, dpAll_app (dpAll_mono ((u'.f.trans uc.f).trans uk.f) _ _ hdn) (.cons hv .nil), by rw [List.length_append]; exact Nat.succ_le_succ hacc, ?_⟩
            have e : ∀ r : R (List D), (((ne (R.ok y)).bnd fun y => r.bnd fun ys => R.ok (y :: ys)).bnd fun ys => (R.ok (PyData.list (dn ++ ys)) : R D)) = r.bnd fun ys => .ok (.list (dn ++ [y] ++ ys)) := fun r => by
              cases r <;> simp [ne]
            rw [e] at W2
            exact W2
  · have e : i = items.length := by omega
    subst e
    refine .inl ⟨stop, ?_⟩
    rw [List.drop_length] at W2
    have W2 : Wg rE mg T E b (.ok (.list (dn ++ []))) Q := W2
    rw [List.append_nil] at W2
    have uf := u.freeze (not_lv hA) fA hHA
    exact W2 (.ref A) _ uf (.lst (.inl upd_same) (dpAll_mono (extN_upd fA) _ _ hdn))
end
end Dl
namespace Dl
open PySem L2 PyProof.Rows
open LamX (ExtN Tabs)
section
variable {X : Cx} {T : List (Addr × Str)} {E : XK} {pos : Pos}
theorem e_lc {elt tg iter : Expr} {ifs : List Expr} {scope : Scope} {own : List (Str × Nat)} {fi : Env → R (List D)} {g : D → Env → Option Env} {tt : Env → R Bool} {te : Env → R D} {is : List Nat} (hc : X.calm = true) (hN : X.N.Nodup) (hi : ID X T E tg iter fi) (ok : BlkOk X.N X.env.scope scope own)
    (hg : ∀ (s : Shared) (H : Hp) (C : Addr) (cl : List (Str × Addr)) (fp : List Addr), GD (X.blk s H scope (compEnvC scope cl C X.env) fp) T tg is g) (ht : ∀ (s : Shared) (H : Hp) (C : Addr) (cl : List (Str × Addr)) (fp : List Addr), TDs (X.blk s H scope (compEnvC scope cl C X.env) fp) T E0 ifs tt)
    (he : ∀ (s : Shared) (H : Hp) (C : Addr) (cl : List (Str × Addr)) (fp : List Addr), ED (X.blk s H scope (compEnvC scope cl C X.env) fp) T E0 elt te) (hs : ∀ j ∈ is, j ∈ own.map (·.2)) (hf : ∀ x, foldedSetIterable iter X.env x = pure x := by intro _; rfl) :
    ED X T E (.ListComp elt [⟨tg, iter, ifs, 0⟩] scope pos) (fLc fi g tt te (own.map (·.2))) :=
  pe_w (pe_lc (tt := tD rB X.mg T E0 tt) (te := tD rE X.mg T E0 te) hc hN hi ok (fun s H C cl fp => (hg s H C cl fp).pg) ht he hf) (lc_w (wi := fun _ _ _ => True) hs)
end
/-! ### the state of a body -/
def isOwn : Slot → Bool
  | .own _ => true
  | .dct _ => true
  | _ => false
inductive KVs (f : Hp) : List (Key × V) → List (Int × D) → Prop
  | nil : KVs f [] []
  | cons {i : Int} {v : V} {d : D} {kvs : List (Key × V)} {ks : List (Int × D)} : Dt f v d → KVs f kvs ks → KVs f ((.inl i, v) :: kvs) ((i, d) :: ks)
theorem KVs.mono {f f' : Hp} (e : ExtN f f') : ∀ {kvs : List (Key × V)} {ks : List (Int × D)}, KVs f kvs ks → KVs f' kvs ks
  | _, _, .nil => .nil
  | _, _, .cons h t => .cons (dp_mono e _ _ h) (t.mono e)
structure Own (b0 : Hs) (f H : Hp) (σ : L2.St) (ρ : Env) : Prop where
  own : ∀ (i : Nat) ds, ρ[i]? = some (.own ds) → ∃ p xs, σ[i]? = some (some (.ref p)) ∧ ¬ Lv b0.h p ∧ f p = none ∧ H p = some (.lst xs) ∧ DtAll f xs ds
  dct : ∀ (i : Nat) ks, ρ[i]? = some (.dct ks) → ∃ p kvs, σ[i]? = some (some (.ref p)) ∧ ¬ Lv b0.h p ∧ f p = none ∧ H p = some (.dK kvs) ∧ KVs f kvs ks
  apart : ∀ (i j : Nat) s t p, i ≠ j → ρ[i]? = some s → isOwn s = true → ρ[j]? = some t → isOwn t = true → σ[i]? = some (some (.ref p)) → σ[j]? ≠ some (some (.ref p))
structure Rf (T : List (Addr × Str)) (b0 : Hs) (f : Hp) (σ : L2.St) (H : Hp) (ρ : Env) : Prop where
  up : Up T b0 ⟨f, H⟩
  sl : Sl f σ ρ
  own : Own b0 f H σ ρ
def Rl (T : List (Addr × Str)) (b0 : Hs) (σ : L2.St) (H : Hp) (ρ : Env) : Prop := ∃ f, Rf T b0 f σ H ρ
section
variable {T : List (Addr × Str)} {b0 : Hs} {f f' H H' : Hp} {σ σ' : L2.St} {ρ ρ' : Env}
theorem Own.up (o : Own b0 f H σ ρ) (u : Up T ⟨f, H⟩ ⟨f', H'⟩) : Own b0 f' H' σ ρ := by
  refine ⟨fun i ds h => ?_, fun i ks h => ?_, o.apart⟩
  · obtain ⟨p, xs, h1, h2, h3, h4, h5⟩ := o.own i ds h
    exact ⟨p, xs, h1, h2, u.new p h3 ⟨_, h4, fun ps z => by cases z⟩, u.h p _ h4 (fun ps z => by cases z), dpAll_mono u.f _ _ h5⟩
  · obtain ⟨p, kvs, h1, h2, h3, h4, h5⟩ := o.dct i ks h
    exact ⟨p, kvs, h1, h2, u.new p h3 ⟨_, h4, fun ps z => by cases z⟩, u.h p _ h4 (fun ps z => by cases z), h5.mono u.f⟩
theorem Rf.step {b : Hs} (r : Rf T b0 f σ H ρ) (u : Up T ⟨f, H⟩ b) : Rf T b0 b.f σ b.h ρ := ⟨r.up.trans u, r.sl.mono u.f, r.own.up u⟩
/-- slots were set -/
theorem Rf.sets {is : List Nat} (r : Rf T b0 f σ H ρ) (sl : Sl f σ' ρ') (o : Only is σ σ') (st : Sets is ρ ρ') : Rf T b0 f σ' H ρ' := by
  have back : ∀ (i : Nat) s, ρ'[i]? = some s → isOwn s = true → i ∉ is := fun i s h hs hi => by
    obtain ⟨d, e⟩ := st.dat i hi
    rw [h] at e
    cases e
    cases hs
  refine ⟨r.up, sl, ⟨fun i ds h => ?_, fun i ks h => ?_, fun i j s t p hij h1 h2 h3 h4 h5 => ?_⟩⟩
  · have hi := back i _ h rfl
    rw [st.out i hi] at h
    rw [o.2 i hi]
    exact r.own.own i ds h
  · have hi := back i _ h rfl
    rw [st.out i hi] at h
    rw [o.2 i hi]
    exact r.own.dct i ks h
  · have hi := back i _ h1 h2
    have hj := back j _ h3 h4
    rw [st.out i hi] at h1
    rw [st.out j hj] at h3
    rw [o.2 i hi] at h5
    rw [o.2 j hj]
    exact r.own.apart i j s t p hij h1 h2 h3 h4 h5
/-- another base: the frozen part of now -/
theorem Rf.base (r : Rf T b0 f σ H ρ) : Rf T ⟨f, b0.h⟩ f σ H ρ := ⟨⟨ExtN.refl _, r.up.h, fun _ h _ => h, r.up.wf⟩, r.sl, ⟨r.own.own, r.own.dct, r.own.apart⟩⟩
theorem Up.base {b : Hs} (u : Up T b0 ⟨f, H⟩) (u' : Up T ⟨f, b0.h⟩ b) : Up T b0 b := ⟨u.f.trans u'.f, u'.h, fun p h1 h2 => u'.new p (u.new p h1 h2) h2, u'.wf⟩
theorem Rf.unbase {f1 : Hp} (u : Up T b0 ⟨f, H⟩) (r : Rf T ⟨f, b0.h⟩ f1 σ' H' ρ') : Rf T b0 f1 σ' H' ρ' := ⟨u.base r.up, r.sl, ⟨r.own.own, r.own.dct, r.own.apart⟩⟩
end
inductive Fl where
  | next (ρ : Env)
  | ret (d : D)
  | brk (ρ : Env)
  | cont (ρ : Env)
  | err (c : Str)
  | bad
def WS (mg : Str → Option Value) (T : List (Addr × Str)) (E : XK) (b0 : Hs) (Dn : Ends) : Fl → Prop
  | .next ρ => ∀ σ H, Rl T b0 σ H ρ → Dn.nx σ H
  | .brk ρ => ∀ σ H, Rl T b0 σ H ρ → Dn.bk σ H
  | .cont ρ => ∀ σ H, Rl T b0 σ H ρ → Dn.ct σ H
  | .ret d => ∀ v s, Up T b0 s → Dt s.f v d → Dn.rt v s.h
  | .err c => ∃ cls, mg c = some cls ∧ ∀ s, Up T b0 s → E cls none s.h
  | .bad => False
def tS (mg : Str → Option Value) (T : List (Addr × Str)) (E : XK) (g : Env → Fl) : TS := fun Dn σ H => ∃ b0 ρ, Rl T b0 σ H ρ ∧ WS mg T E b0 Dn (g ρ)
def SD (X : Cx) (T : List (Addr × Str)) (E : XK) (st : Stmt) (g : Env → Fl) : Prop := PS X st (tS X.mg T E g)
def SsD (X : Cx) (T : List (Addr × Str)) (E : XK) (st : List Stmt) (g : Env → Fl) : Prop := PSs X st (tS X.mg T E g)
/-- then: a value, and what follows -/
def thenF {α : Type} (r : R α) (k : α → Fl) : Fl := match r with
  | .ok a => k a
  | .err c => .err c
  | .bad => .bad
@[simp] theorem thenF_ok {α : Type} (a : α) (k : α → Fl) : thenF (.ok a) k = k a := rfl
@[simp] theorem thenF_err {α : Type} (c : Str) (k : α → Fl) : thenF (.err c : R α) k = .err c := rfl
@[simp] theorem thenF_bad {α : Type} (k : α → Fl) : thenF (.bad : R α) k = .bad := rfl
section
variable {X : Cx} {T : List (Addr × Str)} {E : XK} {pos : Pos} {st : Stmt} {sts : List Stmt} {g g' : Env → Fl} {mg : Str → Option Value}
/-- an expression within a statement -/
theorem st_w {α β : Type} {rep : Hp → β → α → Prop} {f : Env → R α} {k : α → Fl} {b0 : Hs} {Dn : Ends} {σ : L2.St} {H : Hp} {ρ : Env} {Q : β → Hp → Prop} (r : Rl T b0 σ H ρ) (W : WS mg T E b0 Dn (thenF (f ρ) k))
    (h : ∀ v a (fz : Hp) H', Rf T b0 fz σ H' ρ → rep fz v a → f ρ = .ok a → WS mg T E b0 Dn (k a) → Q v H') : tD rep mg T E f σ H Q := by
  obtain ⟨fz, r⟩ := r
  refine ⟨⟨fz, H⟩, ρ, rfl, r.up.wf, r.sl, ?_⟩
  cases q : f ρ with
  | ok a =>
    rw [q] at W
    exact fun v b ub hv => h v a b.f b.h (r.step ub) hv q W
  | err c =>
    rw [q] at W
    obtain ⟨cls, h1, h2⟩ := W
    exact ⟨cls, h1, fun b ub => h2 b (r.up.trans ub)⟩
  | bad =>
    rw [q] at W
    exact W.elim
def sNil : Env → Fl := fun ρ => .next ρ
def sSeq (g g' : Env → Fl) : Env → Fl := fun ρ => match g ρ with
  | .next ρ' => g' ρ'
  | r => r
theorem ss_nil : SsD X T E [] sNil := pss_w pss_nil fun Dn σ H ⟨b0, ρ, r, W⟩ => W σ H r
theorem ss_cons (h1 : SD X T E st g) (h2 : SsD X T E sts g') : SsD X T E (st :: sts) (sSeq g g') := by
  refine pss_w (pss_cons h1 h2) ?_
  rintro Dn σ H ⟨b0, ρ, r, W⟩
  refine ⟨b0, ρ, r, ?_⟩
  unfold sSeq at W
  cases q : g ρ with
  | next ρ' =>
    rw [q] at W
    exact fun σ' H' r' => ⟨b0, ρ', r', W⟩
  | _ =>
    rw [q] at W
    exact W
theorem ss_one (h1 : SD X T E st g) : SsD X T E [st] g := pss_one h1
def sExpr (f : Env → R D) : Env → Fl := fun ρ => thenF (f ρ) fun _ => .next ρ
theorem s_expr {e : Expr} {f : Env → R D} (he : ED X T E e f) (hs : swapsWith e none pos.line X.env = pure false := by rfl) : SD X T E (.Expr e pos) (sExpr f) := by
  refine ps_w (ps_expr he hs) ?_
  rintro Dn σ H ⟨b0, ρ, r, W⟩
  exact st_w r W fun v a fz H' r' _ _ W' => W' σ H' ⟨fz, r'⟩
def sRet (f : Env → R D) : Env → Fl := fun ρ => thenF (f ρ) fun d => .ret d
theorem s_ret {e : Expr} {f : Env → R D} (he : ED X T E e f) : SD X T E (.Return (some e) pos) (sRet f) := by
  refine ps_w (ps_ret he) ?_
  rintro Dn σ H ⟨b0, ρ, r, W⟩
  exact st_w r W fun v a fz H' r' hv _ W' => W' v ⟨fz, H'⟩ r'.up hv
def sRetN : Env → Fl := fun _ => .ret .none
theorem s_retN : SD X T E (.Return none pos) sRetN := by
  refine ps_w ps_retN ?_
  rintro Dn σ H ⟨b0, ρ, ⟨f, r⟩, W⟩
  exact W .non ⟨f, H⟩ r.up .non
def sIf (t : Env → R Bool) (g g' : Env → Fl) : Env → Fl := fun ρ => thenF (t ρ) fun b => if b = true then g ρ else g' ρ
theorem s_if {c : Expr} {a b : List Stmt} {t : Env → R Bool} (hc : TD X T E c t) (ha : SsD X T E a g) (hb : SsD X T E b g') : SD X T E (.If c a b pos) (sIf t g g') := by
  refine ps_w (ps_if hc ha hb) ?_
  rintro Dn σ H ⟨b0, ρ, r, W⟩
  refine st_w (rep := rB) r W fun v a fz H' r' hv _ W' => ?_
  have hv : v = a := hv
  subst hv
  cases v with
  | true => exact ⟨b0, ρ, ⟨fz, r'⟩, W'⟩
  | false => exact ⟨b0, ρ, ⟨fz, r'⟩, W'⟩
def sCont : Env → Fl := fun ρ => .cont ρ
def sBrk : Env → Fl := fun ρ => .brk ρ
theorem s_continue : SD X T E (.Continue pos) sCont := ps_w ps_continue fun Dn σ H ⟨b0, ρ, r, W⟩ => W σ H r
theorem s_break : SD X T E (.Break pos) sBrk := ps_w ps_break fun Dn σ H ⟨b0, ρ, r, W⟩ => W σ H r
theorem s_pass : SD X T E (.Pass pos) sNil := ps_w ps_pass fun Dn σ H ⟨b0, ρ, r, W⟩ => W σ H r
def asF : Option Env → Fl
  | some ρ => .next ρ
  | none => .bad
def sAsg (f : Env → R D) (gt : D → Env → Option Env) : Env → Fl := fun ρ => thenF (f ρ) fun d => asF (gt d ρ)
theorem tAsg_w {te : TE} {f : Env → R D} {gt : D → Env → Option Env} {is : List Nat} (hs : ∀ d ρ ρ', gt d ρ = some ρ' → Sets is ρ ρ') : ∀ Dn σ H, tS mg T E (sAsg f gt) Dn σ H → tAsg (tD rE mg T E f) (tG T is gt) Dn σ H := by
  rintro Dn σ H ⟨b0, ρ, r, W⟩
  refine st_w r W fun v d fz H' r' hv _ W' => ?_
  cases q : gt d ρ with
  | none =>
    rw [q] at W'
    exact W'.elim
  | some ρ' =>
    rw [q] at W'
    exact ⟨⟨fz, H'⟩, ρ, ρ', d, rfl, r'.up.wf, r'.sl, hv, q, fun σ' sl' o => W' σ' H' ⟨fz, r'.sets sl' o (hs d ρ ρ' q)⟩⟩
theorem s_asg {tg e : Expr} {f : Env → R D} {gt : D → Env → Option Env} {is : List Nat} (he : ED X T E e f) (hg : GD X T tg is gt) (hs : swapsWithSole [tg] e pos.line X.env = pure false := by rfl) (hw : swappedStores [tg] e X.env = pure none := by rfl)
    (h1 : (assignEach [tg] X.env).map (·.2) = [assign tg X.env] := by rfl) : SD X T E (.Assign [tg] e pos) (sAsg f gt) := ps_w (ps_asg he hg.pg hs hw h1) (tAsg_w (te := fun _ _ _ => True) hg.sets)
/-- name = [..] on one line -/
theorem s_setLc {i : Nat} {y : Str} {py spos : Pos} {elt tg iter : Expr} {ifs : List Expr} {scope : Scope} {own : List (Str × Nat)} {fi : Env → R (List D)} {gt : D → Env → Option Env} {tt : Env → R Bool} {te : Env → R D} {is : List Nat} (hc : X.calm = true) (hN : X.N.Nodup) (hy : X.N[i]? = some y) (hyl : X.env.scope.names.lookup y = some .local)
    (hsw : swapsWith (.ListComp elt [⟨tg, iter, ifs, 0⟩] scope pos) (some (.Name y py)) spos.line X.env = pure true) (hi : ID X T E tg iter fi) (ok : BlkOk X.N X.env.scope scope own)
    (hg : ∀ (s : Shared) (H : Hp) (C : Addr) (cl : List (Str × Addr)) (fp : List Addr), GD (X.blk s H scope (compEnvC scope cl C X.env) fp) T tg is gt) (ht : ∀ (s : Shared) (H : Hp) (C : Addr) (cl : List (Str × Addr)) (fp : List Addr), TDs (X.blk s H scope (compEnvC scope cl C X.env) fp) T E0 ifs tt)
    (he : ∀ (s : Shared) (H : Hp) (C : Addr) (cl : List (Str × Addr)) (fp : List Addr), ED (X.blk s H scope (compEnvC scope cl C X.env) fp) T E0 elt te) (hs : ∀ j ∈ is, j ∈ own.map (·.2)) (hf : ∀ x, foldedSetIterable iter X.env x = pure x := by intro _; rfl) :
    SD X T E (.Assign [.Name y py] (.ListComp elt [⟨tg, iter, ifs, 0⟩] scope pos) spos) (sAsg (fLc fi gt tt te (own.map (·.2))) (gNm i)) := by
  have hn : GD X T (.Name y py) [i] (gNm i) := g_name i hN hy (.inl hyl) (.inr hyl)
  refine ps_w (ps_setLc (tt := tD rB X.mg T E0 tt) (te := tD rE X.mg T E0 te) hc hN hy hyl hsw hi ok (fun s H C cl fp => (hg s H C cl fp).pg) ht he hf) ?_
  intro Dn σ H h
  have h1 := tAsg_w (te := fun _ _ _ => True) hn.sets Dn σ H h
  refine lc_w (wi := fun _ _ _ => True) hs σ H _ ?_
  obtain ⟨s, ρ, rfl, wf, sl, W⟩ := h1
  refine ⟨s, ρ, rfl, wf, sl, W.imp ?_⟩
  rintro v H' ⟨s', ρ1, ρ2, d, rfl, wf', sl', hd, hg', q⟩
  unfold gNm at hg'
  split at hg'
  · rename_i hlt
    cases hg'
    refine q _ (sl_set sl' hlt hd) ⟨List.length_set, fun j hj => ?_⟩
    rw [List.getElem?_set_ne (fun z => hj (by simp [z]))]
  · cases hg'
end
end Dl
namespace Dl
open PySem L2 PyProof.Rows
open LamX (ExtN Tabs)
section
variable {X : Cx} {T : List (Addr × Str)} {E : XK} {pos : Pos} {st : Stmt} {sts : List Stmt} {g g' : Env → Fl} {mg : Str → Option Value}
/-! ### for -/
def forLoop (gt : D → Env → Option Env) (body : Env → Fl) : List D → Env → Fl
  | [], ρ => .next ρ
  | d :: ds, ρ => match gt d ρ with
    | none => .bad
    | some ρ1 => match body ρ1 with
      | .next ρ2 => forLoop gt body ds ρ2
      | .cont ρ2 => forLoop gt body ds ρ2
      | .brk ρ2 => .next ρ2
      | .ret d => .ret d
      | .err c => .err c
      | .bad => .bad
def sFor (fi : Env → R (List D)) (gt : D → Env → Option Env) (body : Env → Fl) : Env → Fl := fun ρ => thenF (fi ρ) fun ds => forLoop gt body ds ρ
theorem s_for {tg iter : Expr} {body : List Stmt} {fi : Env → R (List D)} {gt : D → Env → Option Env} {is : List Nat} (hp : PassesOwn (model X.prog X.w) X.A X.env X.xe) (hc : X.calm = true) (hi : ID X T E tg iter fi) (hg : GD X T tg is gt) (hb : SsD X T E body g)
    (hs : ∀ x, foldedSetIterable iter X.env x = pure x := by intro _; rfl) : SD X T E (.For tg iter body [] pos) (sFor fi gt g) := by
  refine ps_w (ps_for hp hc hi hg.pg hb hs) ?_
  rintro Dn σ H ⟨b0, ρ, r, W⟩
  refine st_w (rep := rI T) r W fun J items fz H1 r1 wk _ W1 => ?_
  refine ⟨fun i m σ H => m = items.length - i ∧ i ≤ items.length ∧ ∃ f ρ, Rf T b0 f σ H ρ ∧ ExtN fz f ∧ WS X.mg T E b0 Dn (forLoop gt g (items.drop i) ρ), ⟨items.length, by simp, Nat.zero_le _, fz, ρ, r1, ExtN.refl _, W1⟩, ?_⟩
  rintro i m σ2 H2 ⟨rfl, hi, f, ρ2, r2, ex, W2⟩
  obtain ⟨go, stop⟩ := wk ⟨f, H2⟩ ex r2.up.wf
  by_cases hlt : i < items.length
  · obtain ⟨go1, go2⟩ := go i items[i] (List.getElem?_eq_getElem hlt)
    refine .inr ⟨go1, fun σ' H' => ∃ f' ρ', Rf T b0 f' σ' H' ρ' ∧ ExtN fz f' ∧ WS X.mg T E b0 Dn (forLoop gt g (items.drop (i + 1)) ρ'), fun σ' H' p' => ⟨_, by omega, rfl, hlt, p'⟩, fun x H' y => ?_⟩
    obtain ⟨f', u', hx⟩ := go2 x H' y
    have r3 : Rf T b0 f' σ2 H' ρ2 := r2.step (b := ⟨f', H'⟩) u'
    rw [List.drop_eq_getElem_cons hlt] at W2
    unfold forLoop at W2
    cases qg : gt items[i] ρ2 with
    | none =>
      rw [qg] at W2
      exact W2.elim
    | some ρ' =>
      rw [qg] at W2
      dsimp only at W2
      refine ⟨⟨f', H'⟩, ρ2, ρ', items[i], rfl, u'.wf, r3.sl, hx, qg, fun σ3 sl3 o3 => ?_⟩
      have r4 : Rf T b0 f' σ3 H' ρ' := r3.sets sl3 o3 (hg.sets _ _ _ qg)
      refine ⟨⟨f', b0.h⟩, ρ', ⟨f', r4.base⟩, ?_⟩
      have exf : ∀ {f1 : Hp}, ExtN f' f1 → ExtN fz f1 := fun e => (ex.trans u'.f).trans e
      cases qb : g ρ' with
      | next ρ5 =>
        rw [qb] at W2
        rintro σ5 H5 ⟨f5, r5⟩
        exact ⟨f5, ρ5, r5.unbase r4.up, exf r5.up.f, W2⟩
      | cont ρ5 =>
        rw [qb] at W2
        rintro σ5 H5 ⟨f5, r5⟩
        exact ⟨f5, ρ5, r5.unbase r4.up, exf r5.up.f, W2⟩
      | brk ρ5 =>
        rw [qb] at W2
        rintro σ5 H5 ⟨f5, r5⟩
        exact W2 σ5 H5 ⟨f5, r5.unbase r4.up⟩
      | ret d =>
        rw [qb] at W2
        exact fun v s us hv => W2 v s (r4.up.base us) hv
      | err c =>
        rw [qb] at W2
        obtain ⟨cls, h1, h2⟩ := W2
        exact ⟨cls, h1, fun s us => h2 s (r4.up.base us)⟩
      | bad =>
        rw [qb] at W2
        exact W2.elim
  · have e : i = items.length := by omega
    subst e
    refine .inl ⟨stop, ?_⟩
    rw [List.drop_length] at W2
    exact W2 σ2 H2 ⟨f, r2⟩
/-! ### while, n turns at most -/
def whLoop (t : Env → R Bool) (body : Env → Fl) : Nat → Env → Fl
  | 0, _ => .bad
  | n + 1, ρ => thenF (t ρ) fun b => if b = true then (match body ρ with
      | .next ρ2 => whLoop t body n ρ2
      | .cont ρ2 => whLoop t body n ρ2
      | .brk ρ2 => .next ρ2
      | .ret d => .ret d
      | .err c => .err c
      | .bad => .bad) else .next ρ
theorem s_while {c : Expr} {body : List Stmt} {t : Env → R Bool} (n : Nat) (hp : PassesOwn (model X.prog X.w) X.A X.env X.xe) (hc : TD X T E c t) (hb : SsD X T E body g) : SD X T E (.While c body [] pos) (whLoop t g n) := by
  refine ps_w (ps_while hp hc hb) ?_
  rintro Dn σ H ⟨b0, ρ, ⟨f, r⟩, W⟩
  refine ⟨fun m σ H => ∃ f ρ, Rf T b0 f σ H ρ ∧ WS X.mg T E b0 Dn (whLoop t g m ρ), ⟨n, f, ρ, r, W⟩, ?_⟩
  rintro m σ2 H2 ⟨f2, ρ2, r2, W2⟩
  cases m with
  | zero => exact W2.elim
  | succ m =>
    unfold whLoop at W2
    refine st_w (rep := rB) ⟨f2, r2⟩ W2 fun b b' fz H3 r3 hb' _ W3 => ?_
    have hb' : b = b' := hb'
    subst hb'
    cases b with
    | false => exact W3 σ2 H3 ⟨fz, r3⟩
    | true =>
      refine ⟨fun σ' H' => ∃ f' ρ', Rf T b0 f' σ' H' ρ' ∧ WS X.mg T E b0 Dn (whLoop t g m ρ'), fun σ' H' p => ⟨m, Nat.lt_succ_self m, p⟩, ?_⟩
      refine ⟨⟨fz, b0.h⟩, ρ2, ⟨fz, r3.base⟩, ?_⟩
      rw [if_pos rfl] at W3
      cases qb : g ρ2 with
      | next ρ5 =>
        rw [qb] at W3
        rintro σ5 H5 ⟨f5, r5⟩
        exact ⟨f5, ρ5, r5.unbase r3.up, W3⟩
      | cont ρ5 =>
        rw [qb] at W3
        rintro σ5 H5 ⟨f5, r5⟩
        exact ⟨f5, ρ5, r5.unbase r3.up, W3⟩
      | brk ρ5 =>
        rw [qb] at W3
        rintro σ5 H5 ⟨f5, r5⟩
        exact W3 σ5 H5 ⟨f5, r5.unbase r3.up⟩
      | ret d =>
        rw [qb] at W3
        exact fun v s us hv => W3 v s (r3.up.base us) hv
      | err c =>
        rw [qb] at W3
        obtain ⟨cls, h1, h2⟩ := W3
        exact ⟨cls, h1, fun s us => h2 s (r3.up.base us)⟩
      | bad =>
        rw [qb] at W3
        exact W3.elim
/-! ### a list of one's own: made, lengthened, frozen -/
theorem set_own {ρ : Env} {i j : Nat} {s t : Slot} (h : (ρ.set i s)[j]? = some t) : (i = j ∧ t = s ∧ i < ρ.length) ∨ (i ≠ j ∧ ρ[j]? = some t) := by
  by_cases hj : i = j
  · subst hj
    by_cases hi : i < ρ.length
    · rw [List.getElem?_set_self hi] at h
      cases h
      exact .inl ⟨rfl, rfl, hi⟩
    · rw [List.getElem?_eq_none (by simpa using hi)] at h
      cases h
  · rw [List.getElem?_set_ne hj] at h
    exact .inr ⟨hj, h⟩
/-- a slot takes a list that stands apart -/
theorem Rf.take {b0 : Hs} {f H : Hp} {σ : L2.St} {ρ : Env} {i : Nat} {A : Addr} {xs : List V} {ds : List D} (r : Rf T b0 f σ H ρ) (hi : i < ρ.length) (h0 : H A = none) (hd : DtAll f xs ds) : Rf T b0 f (σ.set i (some (.ref A))) (upd H A (.lst xs)) (ρ.set i (.own ds)) := by
  have fA : f A = none := r.up.wf.free h0
  have lA : ¬ Lv b0.h A := fun h => by
    obtain ⟨o, e, _⟩ := h.mono r.up.h
    rw [show (⟨f, H⟩ : Hs).h A = H A from rfl, h0] at e
    cases e
  have nA : ∀ p o, H p = some o → p ≠ A := fun p o h => ne_of_none h h0
  have iσ : i < σ.length := by rw [r.sl.len]; exact hi
  refine ⟨⟨r.up.f, extN_mutL r.up.h lA, r.up.new, ⟨extN_mut r.up.wf.sub fA, r.up.wf.nt, Tabs.ext r.up.wf.tabs (same_upd h0)⟩⟩, ⟨by rw [List.length_set, List.length_set]; exact r.sl.len, fun j d h => ?_, fun j d h => (set_own h).elim (fun ⟨_, e, _⟩ => by cases e) fun ⟨hj, h⟩ => by rw [List.getElem?_set_ne hj]; exact r.sl.raw j d h⟩, ⟨fun j es h => ?_, fun j es h => ?_, fun j k s t p hjk h1 h2 h3 h4 h5 => ?_⟩⟩
  · rcases set_own h with ⟨_, e, _⟩ | ⟨hj, h⟩
    · cases e
    · rw [List.getElem?_set_ne hj]
      exact r.sl.dat j d h
  · rcases set_own h with ⟨hj, e, _⟩ | ⟨hj, h⟩
    · subst hj
      cases e
      exact ⟨A, xs, List.getElem?_set_self iσ, lA, fA, upd_same, hd⟩
    · obtain ⟨p, ys, h1, h2, h3, h4, h5⟩ := r.own.own j es h
      exact ⟨p, ys, by rw [List.getElem?_set_ne hj]; exact h1, h2, h3, by rw [upd_ne (nA p _ h4)]; exact h4, h5⟩
  · rcases set_own h with ⟨_, e, _⟩ | ⟨hj, h⟩
    · cases e
    · obtain ⟨p, ys, h1, h2, h3, h4, h5⟩ := r.own.dct j es h
      exact ⟨p, ys, by rw [List.getElem?_set_ne hj]; exact h1, h2, h3, by rw [upd_ne (nA p _ h4)]; exact h4, h5⟩
  · have at_ : ∀ (j : Nat) s p, ρ[j]? = some s → isOwn s = true → σ[j]? = some (some (.ref p)) → p ≠ A := fun j s p h1 h2 h3 => by
      cases s with
      | own es =>
        obtain ⟨q, ys, g1, _, _, g4, _⟩ := r.own.own j es h1
        rw [h3] at g1
        cases g1
        exact nA _ _ g4
      | dct es =>
        obtain ⟨q, ys, g1, _, _, g4, _⟩ := r.own.dct j es h1
        rw [h3] at g1
        cases g1
        exact nA _ _ g4
      | non => cases h2
      | dat d => cases h2
      | raw d => cases h2
    rcases set_own h1 with ⟨hj, e, _⟩ | ⟨hj, h1⟩
    · subst hj
      rcases set_own h3 with ⟨hk, _, _⟩ | ⟨hk, h3⟩
      · exact absurd hk hjk
      · rw [List.getElem?_set_self iσ] at h5
        cases h5
        rw [List.getElem?_set_ne hk]
        exact fun z => at_ k t A h3 h4 z rfl
    · rw [List.getElem?_set_ne hj] at h5
      rcases set_own h3 with ⟨hk, _, _⟩ | ⟨hk, h3⟩
      · subst hk
        rw [List.getElem?_set_self iσ]
        intro z
        cases z
        exact at_ j s A h1 h2 h5 rfl
      · rw [List.getElem?_set_ne hk]
        exact r.own.apart j k s t p hjk h1 h2 h3 h4 h5
/-- x = [e, ..] -/
def sOwn (i : Nat) (fs : Env → R (List D)) : Env → Fl := fun ρ => thenF (fs ρ) fun ds => if i < ρ.length ∧ ds.length ≤ 16777216 then .next (ρ.set i (.own ds)) else .bad
theorem s_own {i : Nat} {x : Str} {es : List Expr} {fs : Env → R (List D)} {p1 p2 : Pos} (hN : X.N.Nodup) (h : AD X T E es fs) (hi : X.N[i]? = some x := by rfl) (hx : Loc X.env.scope x := by first | exact Or.inl rfl | exact Or.inr rfl)
    (hs : swapsWith (.List es p2) (some (.Name x p1)) pos.line X.env = pure false := by rfl) (hf : X.fn x = true ∨ X.env.scope.names.lookup x = some .local := by first | exact .inl rfl | exact .inr rfl | assumption) :
    SD X T E (.Assign [.Name x p1] (.List es p2) pos) (sOwn i fs) := by
  refine ps_w (ps_set hN hi hx (pe_lst h) hs hf) ?_
  rintro Dn σ H ⟨b0, ρ, r, W⟩
  refine st_w (rep := rA) r W fun xs ds fz H' r' hv _ W' => ?_
  by_cases hc : i < ρ.length ∧ ds.length ≤ 16777216
  · rw [if_pos hc] at W'
    refine ⟨by rw [dpAll_len hv, sizeLine_eq]; exact hc.2, fun p hp => W' _ _ ⟨fz, r'.take hc.1 hp hv⟩⟩
  · rw [if_neg hc] at W'
    exact W'.elim
/-- x.append(e) -/
def sApp (i : Nat) (f : Env → R D) : Env → Fl := fun ρ => match ρ[i]? with
  | some (.own ds) => thenF (f ρ) fun d => if ds.length < 16777216 then .next (ρ.set i (.own (ds ++ [d]))) else .bad
  | _ => .bad
theorem Rf.write {b0 : Hs} {f H : Hp} {σ : L2.St} {ρ : Env} {i : Nat} {A : Addr} {xs ys : List V} {ds es : List D} (r : Rf T b0 f σ H ρ) (hi : ρ[i]? = some (.own ds)) (hσ : σ[i]? = some (some (.ref A))) (h0 : ¬ Lv b0.h A) (fA : f A = none) (hH : H A = some (.lst xs)) (hd : DtAll f ys es) :
    Rf T b0 f σ (upd H A (.lst ys)) (ρ.set i (.own es)) := by
  have ap : ∀ (j : Nat) s p, i ≠ j → ρ[j]? = some s → isOwn s = true → σ[j]? = some (some (.ref p)) → p ≠ A := fun j s p hij h1 h2 h3 z => by
    subst z
    exact r.own.apart i j _ s p hij hi rfl h1 h2 hσ h3
  refine ⟨r.up.mut h0 fA hH, ⟨by rw [List.length_set]; exact r.sl.len, fun j d h => ?_, fun j d h => (set_own h).elim (fun ⟨_, e, _⟩ => by cases e) fun ⟨hj, h⟩ => r.sl.raw j d h⟩, ⟨fun j es' h => ?_, fun j es' h => ?_, fun j k s t p hjk h1 h2 h3 h4 h5 => ?_⟩⟩
  · rcases set_own h with ⟨_, e, _⟩ | ⟨hj, h⟩
    · cases e
    · exact r.sl.dat j d h
  · rcases set_own h with ⟨hj, e, _⟩ | ⟨hj, h⟩
    · subst hj
      cases e
      exact ⟨A, ys, hσ, h0, fA, upd_same, hd⟩
    · obtain ⟨p, zs, h1, h2, h3, h4, h5⟩ := r.own.own j es' h
      exact ⟨p, zs, h1, h2, h3, by rw [upd_ne (ap j _ p hj h rfl h1)]; exact h4, h5⟩
  · rcases set_own h with ⟨_, e, _⟩ | ⟨hj, h⟩
    · cases e
    · obtain ⟨p, zs, h1, h2, h3, h4, h5⟩ := r.own.dct j es' h
      exact ⟨p, zs, h1, h2, h3, by rw [upd_ne (ap j _ p hj h rfl h1)]; exact h4, h5⟩
  · have pj : ∃ s', ρ[j]? = some s' ∧ isOwn s' = true := by
      rcases set_own h1 with ⟨hj, e, _⟩ | ⟨hj, h1⟩
      · subst hj; exact ⟨_, hi, rfl⟩
      · exact ⟨s, h1, h2⟩
    have pk : ∃ s', ρ[k]? = some s' ∧ isOwn s' = true := by
      rcases set_own h3 with ⟨hj, e, _⟩ | ⟨hj, h3⟩
      · subst hj; exact ⟨_, hi, rfl⟩
      · exact ⟨t, h3, h4⟩
    obtain ⟨s', g1, g2⟩ := pj
    obtain ⟨t', g3, g4⟩ := pk
    exact r.own.apart j k s' t' p hjk g1 g2 g3 g4 h5
theorem s_app {i : Nat} {x : Str} {e : Expr} {f : Env → R D} {p1 apos cpos : Pos} (he : ED X T E e f) (hN : X.N[i]? = some x := by rfl) (hv : Vis X.env.scope x := by first | exact Or.inl rfl | exact Or.inr (Or.inl rfl) | exact Or.inr (Or.inr rfl)) (hd : (x == ("__debug__" : Str)) = false := by decide)
    (hcd : (x == ("__classdict__" : Str)) = false := by decide) (hsw : swapsWith (.Call (.Attribute (.Name x p1) "append" apos) [e] [] cpos) none pos.line X.env = pure false := by rfl)
    (hse : starEach [e] X.env = (false, eval e X.env) :: starEach [] X.env := by rfl)
    (hbase : attributeBase (.Name x p1) "append" X.env (eval (.Name x p1) X.env) = eval (.Name x p1) X.env := by rfl)
    (hfew : ((backTo cpos (starEach [e] X.env)).all (fun x => !x.1) && (backToKw cpos (keywordEach [] X.env)).all (fun x => x.1.isSome)
      && decide ([e].length + ([] : List Keyword).length + (if ([] : List Keyword).isEmpty then 0 else 1) < 30)) = true := by rfl)
    (hline : (apos.endLine == cpos.line) = true := by rfl) (hplain : (backTo cpos (starEach [] X.env)).any (·.1) = false := by rfl) :
    SD X T E (.Expr (.Call (.Attribute (.Name x p1) "append" apos) [e] [] cpos) pos) (sApp i f) := by
  refine ps_w (ps_expr (pe_bm PySem.F.plainAttrs_list PySem.F.slot_list_append PySem.F.type_list_append mt_append (pe_var hN hv hd hcd) (pa_cons he pa_nil hse) hbase hfew hline hse hplain) hsw) ?_
  rintro Dn σ H ⟨b0, ρ, ⟨fz, r⟩, W⟩
  unfold sApp at W
  cases q : ρ[i]? with
  | none => rw [q] at W; exact W.elim
  | some s =>
    rw [q] at W
    cases s <;> first | exact W.elim | skip
    rename_i ds
    dsimp only at W
    obtain ⟨A, xs, h1, h2, h3, h4, h5⟩ := r.own.own i ds q
    refine ⟨.ref A, h1, .inl ⟨rfl, xs, .inl (.inl h4)⟩, ?_⟩
    refine st_w ⟨fz, r⟩ W fun v d f' H' r' hv' _ W' => ?_
    obtain ⟨A', xs', g1, g2, g3, g4, g5⟩ := r'.own.own i ds q
    rw [h1] at g1
    cases g1
    by_cases hc : ds.length < 16777216
    · rw [if_pos hc] at W'
      refine ⟨A, xs', v, rfl, rfl, g4, by rw [dpAll_len g5, sizeLine_eq]; exact hc, W' _ _ ⟨f', r'.write q h1 g2 g3 g4 (dpAll_app g5 (.cons hv' .nil))⟩⟩
    · rw [if_neg hc] at W'
      exact W'.elim
/-- from here on it is data -/
def frz (i : Nat) (ρ : Env) : Env := match ρ[i]? with
  | some (.own ds) => ρ.set i (.dat (.list ds))
  | _ => ρ
theorem Rf.frz {b0 : Hs} {f H : Hp} {σ : L2.St} {ρ : Env} (i : Nat) (r : Rf T b0 f σ H ρ) : ∃ f', Rf T b0 f' σ H (Dl.frz i ρ) := by
  unfold Dl.frz
  cases q : ρ[i]? with
  | none => exact ⟨f, r⟩
  | some s =>
    cases s <;> first | exact ⟨f, r⟩ | skip
    rename_i ds
    obtain ⟨A, xs, h1, h2, h3, h4, h5⟩ := r.own.own i ds q
    have hi : i < ρ.length := (List.getElem?_eq_some_iff.mp q).1
    have ap : ∀ (j : Nat) s p, i ≠ j → ρ[j]? = some s → isOwn s = true → σ[j]? = some (some (.ref p)) → p ≠ A := fun j s p hij g1 g2 g3 z => by
      subst z
      exact r.own.apart i j _ s p hij q rfl g1 g2 h1 g3
    have ex : ExtN f (upd f A (.lst xs)) := extN_upd h3
    refine ⟨upd f A (.lst xs), r.up.freeze h2 h3 h4, ⟨by rw [List.length_set]; exact r.sl.len, fun j d h => ?_, fun j d h => (set_own h).elim (fun ⟨_, e, _⟩ => by cases e) fun ⟨hj, h⟩ => r.sl.raw j d h⟩, ⟨fun j es' h => ?_, fun j es' h => ?_, fun j k s t p hjk g1 g2 g3 g4 g5 => ?_⟩⟩
    · rcases set_own h with ⟨hj, e, _⟩ | ⟨hj, h⟩
      · subst hj
        cases e
        exact ⟨.ref A, h1, .lst (.inl upd_same) (dpAll_mono ex _ _ h5)⟩
      · obtain ⟨v, g1, g2⟩ := r.sl.dat j d h
        exact ⟨v, g1, dp_mono ex _ _ g2⟩
    · rcases set_own h with ⟨_, e, _⟩ | ⟨hj, h⟩
      · cases e
      · obtain ⟨p, zs, g1, g2, g3, g4, g5⟩ := r.own.own j es' h
        exact ⟨p, zs, g1, g2, by rw [upd_ne (ap j _ p hj h rfl g1)]; exact g3, g4, dpAll_mono ex _ _ g5⟩
    · rcases set_own h with ⟨_, e, _⟩ | ⟨hj, h⟩
      · cases e
      · obtain ⟨p, zs, g1, g2, g3, g4, g5⟩ := r.own.dct j es' h
        exact ⟨p, zs, g1, g2, by rw [upd_ne (ap j _ p hj h rfl g1)]; exact g3, g4, g5.mono ex⟩
    · rcases set_own g1 with ⟨hj, e, _⟩ | ⟨hj, g1⟩
      · rw [e] at g2; cases g2
      · rcases set_own g3 with ⟨hk, e, _⟩ | ⟨hk, g3⟩
        · rw [e] at g4; cases g4
        · exact r.own.apart j k s t p hjk g1 g2 g3 g4 g5
def sFrz (i : Nat) (g : Env → Fl) : Env → Fl := fun ρ => g (frz i ρ)
theorem s_frz (i : Nat) (h : SD X T E st g) : SD X T E st (sFrz i g) := ps_w h fun Dn σ H ⟨b0, ρ, ⟨f, r⟩, W⟩ => ⟨b0, frz i ρ, r.frz i, W⟩
theorem ss_frz (i : Nat) (h : SsD X T E sts g) : SsD X T E sts (sFrz i g) := pss_w h fun Dn σ H ⟨b0, ρ, ⟨f, r⟩, W⟩ => ⟨b0, frz i ρ, r.frz i, W⟩
end
end Dl
namespace Dl
open PySem L2 PyProof.Rows
open LamX (ExtN Tabs)
/-! ### a def -/
def endF : Fl → R D
  | .next _ => .ok .none
  | .ret d => .ok d
  | .err c => .err c
  | _ => .bad
def runB (n m : Nat) (g : Env → Fl) : List D → R D := fun ds => if ds.length = n then endF (g (ds.map Slot.dat ++ List.replicate (m - n) Slot.non)) else .bad
theorem start_at {N : List Str} {vs : List V} {i : Nat} : (L2.start N vs)[i]? = if i < vs.length then (vs[i]?).map some else if i < vs.length + (N.length - vs.length) then some none else none := by
  unfold L2.start
  by_cases h : i < vs.length
  · rw [if_pos h, List.getElem?_append_left (by simpa using h), List.getElem?_map]
  · rw [if_neg h, List.getElem?_append_right (by simpa using h), List.getElem?_replicate]
    simp only [List.length_map]
    by_cases h2 : i < vs.length + (N.length - vs.length)
    · rw [if_pos h2, if_pos (by omega)]
    · rw [if_neg h2, if_neg (by omega)]
theorem sl_start {f : Hp} {N : List Str} {vs : List V} {ds : List D} (h : DtAll f vs ds) : Sl f (L2.start N vs) (ds.map Slot.dat ++ List.replicate (N.length - ds.length) Slot.non) := by
  have hl := dpAll_len h
  refine ⟨by unfold L2.start; simp [hl], fun i d q => ?_, fun i d q => by
    rcases List.mem_append.mp (List.mem_of_getElem? q) with h | h
    · obtain ⟨_, _, e⟩ := List.mem_map.mp h; cases e
    · obtain ⟨_, e⟩ := List.mem_replicate.mp h; cases e⟩
  by_cases hi : i < ds.length
  · rw [List.getElem?_append_left (by simpa using hi), List.getElem?_map] at q
    cases r : ds[i]? with
    | none => rw [r] at q; cases q
    | some e =>
      rw [r] at q
      cases q
      obtain ⟨v, h1, h2⟩ := dpAll_at h r
      exact ⟨v, by rw [start_at, if_pos (by omega), h1]; rfl, h2⟩
  · rw [List.getElem?_append_right (by simpa using hi), List.getElem?_replicate] at q
    split at q <;> cases q
theorem own_start {b0 : Hs} {f H : Hp} {σ : L2.St} {ds : List D} {k : Nat} : Own b0 f H σ (ds.map Slot.dat ++ List.replicate k Slot.non) := by
  have no : ∀ (i : Nat) s, (ds.map Slot.dat ++ List.replicate k Slot.non)[i]? = some s → isOwn s = false := fun i s h => by
    have := List.mem_of_getElem? h
    rcases List.mem_append.mp this with h | h
    · obtain ⟨d, _, rfl⟩ := List.mem_map.mp h
      rfl
    · obtain ⟨_, rfl⟩ := List.mem_replicate.mp h
      rfl
  exact ⟨fun i ds h => (by have := no i _ h; cases this), fun i ks h => (by have := no i _ h; cases this), fun i j s t p _ h1 h2 _ _ _ => (by rw [no i s h1] at h2; cases h2)⟩
theorem body_w {mg : Str → Option Value} {T : List (Addr × Str)} {E : XK} {n : Nat} {N : List Str} {g : Env → Fl} {vs : List V} {H : Hp} {Q : VK} (h : spD mg T (runB n N.length g) vs H Q E) :
    tS mg T E g { nx := fun _ H' => Q .non H', rt := Q } (L2.start N vs) H := by
  obtain ⟨s, ds, rfl, wf, hd, W⟩ := h
  unfold runB at W
  obtain ⟨hn, W⟩ := wg_if W
  rw [← hn] at W
  refine ⟨s, _, ⟨s.f, Up.refl wf, sl_start hd, own_start⟩, ?_⟩
  cases q : g (ds.map Slot.dat ++ List.replicate (N.length - ds.length) Slot.non) with
  | next ρ =>
    rw [q] at W
    rintro σ H' ⟨f, r⟩
    exact W .non ⟨f, H'⟩ r.up .non
  | ret d =>
    rw [q] at W
    exact fun v b ub hv => W v b ub hv
  | err c =>
    rw [q] at W
    exact W
  | brk ρ => rw [q] at W; exact W.elim
  | cont ρ => rw [q] at W; exact W.elim
  | bad => rw [q] at W; exact W.elim
section
variable {P : Program} {w : World} {K : PySem.W.Frag} {mg : Str → Option Value} {base : Heap} {T : List (Addr × Str)}
/-- THE RULE for a def -/
theorem okN {x qual : Str} {st : Stmt} {f : Addr} {fd : FuncData} {N ps : List Str} {k : Nat} {sp : Sp} (F : Fun K x qual st f fd) (S : FnScope N ps (defScope st)) (len : ∀ vs H Q E, sp vs H Q E → vs.length = ps.length) (hbody : ∀ (cdv : Value) (A : Around) (outer : List PySem.Env) (s : Shared) (H : Hp) (vs : List V) (Q : VK) (E : XK), Room k (A.deeper (envOfC qual (defScope st) s.heap.objs.size f cdv)) → sp vs H Q E →
    ∃ t, PSs (cxOf (L2N.CX P w) P w K mg base N qual (defScope st) f cdv A outer s H E) (defBody st) t ∧ t { nx := fun _ H' => Q .non H', rt := Q } (L2.start N vs) H) : FnOk P w K mg base (L2N.CX P w) (k + 1) f fd ps sp := by
  obtain ⟨oc, od, kV, doc, pm, an, cdv, ct, osl, e, lk, hcd⟩ := F.ex
  subst e
  exact fn_of lk hcd S len fun A outer s H vs Q E hr hsp => hbody cdv A outer s H vs Q E hr hsp
theorem fn_mk {x qual : Str} {st : Stmt} {f : Addr} {fd : FuncData} {N ps : List Str} {k : Nat} {g : Env → Fl} (F : Fun K x qual st f fd) (S : FnScope N ps (defScope st)) (hm : mg x = some (.ref f)) (hb : Binds K fd ps [])
    (hbody : ∀ (cdv : Value) (A : Around) (outer : List PySem.Env) (s : Shared) (H : Hp) (E : XK), Room k (cxOf (L2N.CX P w) P w K mg base N qual (defScope st) f cdv A outer s H E).A →
      SsD (cxOf (L2N.CX P w) P w K mg base N qual (defScope st) f cdv A outer s H E) T E (defBody st) g) : Fn P w K mg base T x (k + 1) (runB ps.length N.length g) := by
  refine ⟨f, fd, ps, okN F S (fun vs H Q E h => ?_) (fun cdv A outer s H vs Q E hr h => ?_), hm, F.kp, hb⟩
  · obtain ⟨s, ds, rfl, wf, hd, W⟩ := h
    unfold runB at W
    obtain ⟨hn, W⟩ := wg_if W
    rw [dpAll_len hd, hn]
  · exact ⟨_, hbody cdv A outer s H E hr, body_w h⟩
theorem Fn.mono {x : Str} {j k : Nat} {f : List D → R D} (F : Fn P w K mg base T x j f) (h : j ≤ k) : Fn P w K mg base T x k f := by
  obtain ⟨a, fd, ps, h1, h2⟩ := F.ex
  exact ⟨a, fd, ps, h1.mono h, h2⟩
/-- what is raised in a body leaves it -/
theorem takesB {N : List Str} {qual : Str} {sc : Scope} {f : Addr} {cdv : Value} {A : Around} {outer : List PySem.Env} {s : Shared} {H : Hp} {E : XK} : L2N.Takes (cxOf (L2N.CX P w) P w K mg base N qual sc f cdv A outer s H E) (fun cls d _ H => E cls d H) := L2N.takes_of rfl rfl rfl rfl
theorem passB {N : List Str} {qual : Str} {sc : Scope} {f : Addr} {cdv : Value} {A : Around} {outer : List PySem.Env} {s : Shared} {H : Hp} {E : XK} : Passes (L2N.CX P w) (cxOf (L2N.CX P w) P w K mg base N qual sc f cdv A outer s H E) E := L2N.passes_call takesB fun _ _ _ _ h => h
theorem ownB {N : List Str} {qual : Str} {sc : Scope} {f : Addr} {cdv : Value} {A : Around} {outer : List PySem.Env} {s : Shared} {H : Hp} {E : XK} : PassesOwn (model P w) (cxOf (L2N.CX P w) P w K mg base N qual sc f cdv A outer s H E).A (cxOf (L2N.CX P w) P w K mg base N qual sc f cdv A outer s H E).env (cxOf (L2N.CX P w) P w K mg base N qual sc f cdv A outer s H E).xe :=
  passes_of (X := cxOf (L2N.CX P w) P w K mg base N qual sc f cdv A outer s H E) rfl
end
/-! ### raise X('..') -/
structure Exn (K : PySem.W.Frag) (mg : Str → Option Value) (x : Str) : Prop where
  ex : ∃ C : Addr, mg x = some (.ref C) ∧ PySem.W.excIn K C [.type "ValueError", .type "Exception", .type "BaseException", .type "object"] "ValueError.__new__" = true ∧ PySem.W.keepIn K (.ref C) = true ∧
    PySem.W.subIn K (.ref C) (.type "BaseException") = some true ∧ PySem.W.typeIn K (.ref C) = some (.type "type")
section
variable {X : Cx} {T : List (Addr × Str)} {E : XK} {pos : Pos}
def sRaise (c : Str) : Env → Fl := fun _ => .err c
theorem s_raise {x m : Str} {j : Nat} {p p2 p3 : Pos} (x0 : Exn X.K X.mg x) (hc : X.calm = true) (tk : L2N.Takes X (fun cls d _ H => E cls d H)) (hg : Gl X x) (hdb : (x == ("__debug__" : Str)) = false := by decide) :
    SD X T E (.Raise (some (.Call (.Name x p) [.Constant (.str m) j p2] [] p3)) none pos) (sRaise x) := by
  obtain ⟨C, h1, h2, h3, h4, h5⟩ := x0.ex
  refine ps_w (L2N.ps_raise hc tk (L2N.pmk_own PySem.F.excBase_ValueError h2 h1 h3 (raises_own h4 h5) hg hdb)) ?_
  rintro Dn σ H ⟨b0, ρ, ⟨f, r⟩, W⟩
  obtain ⟨cls, e, W⟩ := W
  rw [h1] at e
  cases e
  exact W ⟨f, H⟩ r.up
/-! ### a, b = x, y (local names) -/
def setD (i : Nat) (d : D) (ρ : Env) : Env := ρ.set i (.dat d)
def sPar2 (i j : Nat) (fs : Env → R (List D)) : Env → Fl := fun ρ => thenF (fs ρ) fun ds => match ds with
  | [d, e] => if i < ρ.length ∧ j < ρ.length then .next ((ρ.set i (.dat d)).set j (.dat e)) else .bad
  | _ => .bad
theorem Rf.set1 {b0 : Hs} {f H : Hp} {σ : L2.St} {ρ : Env} {i : Nat} {v : V} {d : D} (r : Rf T b0 f σ H ρ) (hi : i < ρ.length) (hd : Dt f v d) : Rf T b0 f (σ.set i (some v)) H (ρ.set i (.dat d)) := by
  refine r.sets (is := [i]) (sl_set r.sl hi hd) ⟨List.length_set, fun j hj => by rw [List.getElem?_set_ne (fun z => hj (by simp [z]))]⟩ ⟨List.length_set, fun j hj => by rw [List.getElem?_set_ne (fun z => hj (by simp [z]))], fun j hj => ?_⟩
  have e : j = i := by simpa using hj
  subst e
  exact ⟨d, List.getElem?_set_self hi⟩
theorem s_par2 {i j : Nat} {x y : Str} {a b : Expr} {fs : Env → R (List D)} {px py pt : Pos} {kt k2 pt2} (hc : X.calm = true) (hN : X.N.Nodup) (ha : AD X T E [a, b] fs) (hij : i ≠ j := by decide) (hi : X.N[i]? = some x := by rfl) (hj : X.N[j]? = some y := by rfl)
    (hx : X.env.scope.names.lookup x = some .local := by rfl) (hy : X.env.scope.names.lookup y = some .local := by rfl)
    (hw : swappedStores [.Tuple [.Name x px, .Name y py] kt pt] (.Tuple [a, b] k2 pt2) X.env = pure (some [x, y]) := by rfl)
    (hs : swapsWithSole [.Tuple [.Name x px, .Name y py] kt pt] (.Tuple [a, b] k2 pt2) pos.line X.env = pure false := by rfl) :
    SD X T E (.Assign [.Tuple [.Name x px, .Name y py] kt pt] (.Tuple [a, b] k2 pt2) pos) (sPar2 i j fs) := by
  refine ps_w (ps_par hc hN hi hj hij hx hy ha hw hs) ?_
  rintro Dn σ H ⟨b0, ρ, r, W⟩
  refine st_w (rep := rA) r W fun vs ds fz H' r' hv _ W' => ?_
  match ds, hv, W' with
  | [d, e], .cons h1 (.cons h2 .nil), W' =>
    dsimp only at W'
    by_cases hc : i < ρ.length ∧ j < ρ.length
    · rw [if_pos hc] at W'
      exact ⟨_, _, rfl, W' _ _ ⟨fz, (r'.set1 hc.1 h1).set1 (by rw [List.length_set]; exact hc.2) h2⟩⟩
    · rw [if_neg hc] at W'
      exact W'.elim
def sPar3 (i j l : Nat) (fs : Env → R (List D)) : Env → Fl := fun ρ => thenF (fs ρ) fun ds => match ds with
  | [d, e, f] => if i < ρ.length ∧ j < ρ.length ∧ l < ρ.length then .next (((ρ.set i (.dat d)).set j (.dat e)).set l (.dat f)) else .bad
  | _ => .bad
/-! ### range as a value, x[::-1] -/
def gTupRg (lo hi : Int) : R D := if 0 ≤ lo ∧ lo ≤ 16777216 ∧ 0 ≤ hi ∧ hi ≤ 16777216 then .ok (.tuple (rangeD lo (hi - lo).toNat)) else .bad
def gLstRg (lo hi : Int) : R D := if 0 ≤ lo ∧ lo ≤ 16777216 ∧ 0 ≤ hi ∧ hi ≤ 16777216 then .ok (.list (rangeD lo (hi - lo).toNat)) else .bad
def fRg1 (g : Int → Int → R D) (f : Env → R D) : Env → R D := fun ρ => (f ρ).bnd fun d => (asI d).bnd fun n => g 0 n
def fRg2 (g : Int → Int → R D) (f f' : Env → R D) : Env → R D := fun ρ => (f ρ).bnd fun d => (f' ρ).bnd fun e => (asI d).bnd fun n => (asI e).bnd fun m => g n m
theorem rg_dt {f : Hp} (lo hi : Int) : DtAll f (rgV lo hi) (rangeD lo (hi - lo).toNat) := by
  unfold rgV rangeD
  generalize List.range (hi - lo).toNat = l
  induction l with
  | nil => exact .nil
  | cons n l ih => exact .cons (.int _) ih
theorem e_tupRg {a : Expr} {fa : Env → R D} {p p2 pos2 : Pos} (hc : X.calm = true) (hg : Gl X "tuple") (hm : X.mg "tuple" = none) (hg2 : Gl X "range") (hm2 : X.mg "range" = none) (ha : ED X T E a fa)
    (na : starEach [.Call (.Name "range" p2) [a] [] pos2] X.env = (false, eval (.Call (.Name "range" p2) [a] [] pos2) X.env) :: starEach [] X.env := by rfl) (na2 : starEach [a] X.env = (false, eval a X.env) :: starEach [] X.env := by rfl) :
    ED X T E (.Call (.Name "tuple" p) [.Call (.Name "range" p2) [a] [] pos2] [] pos) (fRg1 gTupRg fa) := by
  refine pe_w (pe_tupRg hc hg hm (prg_1 hg2 hm2 ha na2) na) ?_
  rintro σ H Q ⟨s, ρ, rfl, wf, sl, W⟩
  refine ⟨s, ρ, rfl, wf, sl, (Wg.bind W).imp ?_⟩
  rintro x _ ⟨b, rfl, ub, d, hx, W1⟩
  cases d <;> first | exact W1.elim | skip
  have hx : Dt b.f x (.int _) := hx
  cases hx
  obtain ⟨h, W1⟩ := wg_if W1
  exact ⟨_, rfl, .of_le h.1 h.2.2.2 h.2.1 h.2.2.1, new_tup ub.wf (rg_dt _ _) W1⟩
theorem e_lstRg {a : Expr} {fa : Env → R D} {p p2 pos2 : Pos} (hc : X.calm = true) (hg : Gl X "list") (hm : X.mg "list" = none) (hg2 : Gl X "range") (hm2 : X.mg "range" = none) (ha : ED X T E a fa)
    (na : starEach [.Call (.Name "range" p2) [a] [] pos2] X.env = (false, eval (.Call (.Name "range" p2) [a] [] pos2) X.env) :: starEach [] X.env := by rfl) (na2 : starEach [a] X.env = (false, eval a X.env) :: starEach [] X.env := by rfl) :
    ED X T E (.Call (.Name "list" p) [.Call (.Name "range" p2) [a] [] pos2] [] pos) (fRg1 gLstRg fa) := by
  refine pe_w (pe_listRg hc hg hm (prg_1 hg2 hm2 ha na2) na) ?_
  rintro σ H Q ⟨s, ρ, rfl, wf, sl, W⟩
  refine ⟨s, ρ, rfl, wf, sl, (Wg.bind W).imp ?_⟩
  rintro x _ ⟨b, rfl, ub, d, hx, W1⟩
  cases d <;> first | exact W1.elim | skip
  have hx : Dt b.f x (.int _) := hx
  cases hx
  obtain ⟨h, W1⟩ := wg_if W1
  exact ⟨_, rfl, .of_le h.1 h.2.2.2 h.2.1 h.2.2.1, new_lst ub.wf (rg_dt _ _) W1⟩
def gRevA : D → R D
  | .list xs => .ok (.list xs.reverse)
  | _ => .bad
theorem e_revA {a : Expr} {fa : Env → R D} {k : Nat} {p1 p2 p3 : Pos} (ha : ED X T E a fa) : ED X T E (.Subscript a (.Slice none none (some (.UnaryOp .USub (.Constant (.int 1) k p1) p2)) p3) pos) (fUn gRevA fa) := by
  refine pe_w (pe_revL ha) ?_
  rintro σ H Q ⟨s, ρ, rfl, wf, sl, W⟩
  refine ⟨s, ρ, rfl, wf, sl, (Wg.bind W).imp ?_⟩
  rintro x _ ⟨b, rfl, ub, d, hx, W1⟩
  cases d <;> first | exact W1.elim | skip
  have hx : Dt b.f x (.list _) := hx
  cases hx with
  | lst h1 h2 => exact ⟨_, _, rfl, .inl (rd_l ub.wf.sub h1), new_lst ub.wf (dpAll_rev h2) W1⟩
end
end Dl
namespace Dl
open PySem L2 PyProof.Rows
open LamX (ExtN Tabs)
section
variable {X : Cx} {T : List (Addr × Str)} {E : XK} {pos : Pos}
theorem e_globE {x : Str} {i : Int} (hg : Gl X x) (hm : ∃ t, X.mg x = some (.int i t)) (hd : (x == ("__debug__" : Str)) = false := by decide) : ED X T E (.Name x pos) (fC (.int i)) := by
  obtain ⟨t, hm⟩ := hm
  exact e_glob hg hm hd
theorem e_globSE {x : Str} {i : Str} (hg : Gl X x) (hm : ∃ t, X.mg x = some (.str i t)) (hd : (x == ("__debug__" : Str)) = false := by decide) : ED X T E (.Name x pos) (fC (.str i)) := by
  obtain ⟨t, hm⟩ := hm
  exact e_globS hg hm hd
end
/-! ### sorted(set(t)), t a tuple of ints -/
def insU (k : Int) : List Int → List Int
  | [] => [k]
  | x :: xs => if k < x then k :: x :: xs else if k = x then x :: xs else x :: insU k xs
def sortU (ns : List Int) : List Int := ns.foldr insU []
theorem mem_insU {k j : Int} : ∀ {l : List Int}, j ∈ insU k l ↔ j = k ∨ j ∈ l
  | [] => by simp [insU]
  | x :: xs => by
    unfold insU
    split
    · simp
    · split
      · rename_i h1 h2
        subst h2
        simp
      · rw [List.mem_cons, mem_insU, List.mem_cons]
        constructor
        · rintro (h | h | h) <;> simp [h]
        · rintro (h | h | h) <;> simp [h]
theorem rise_insU {k : Int} : ∀ {l : List Int}, l.Pairwise (· < ·) → (insU k l).Pairwise (· < ·)
  | [], _ => by simp [insU]
  | x :: xs, h => by
    have h' := List.pairwise_cons.mp h
    unfold insU
    split
    · rename_i hk
      refine List.pairwise_cons.mpr ⟨fun y hy => ?_, h⟩
      rcases List.mem_cons.mp hy with rfl | hy
      · exact hk
      · exact Int.lt_trans hk (h'.1 y hy)
    · split
      · exact h
      · rename_i h1 h2
        refine List.pairwise_cons.mpr ⟨fun y hy => ?_, rise_insU h'.2⟩
        rcases mem_insU.mp hy with rfl | hy
        · omega
        · exact h'.1 y hy
theorem mem_sortU {j : Int} : ∀ {l : List Int}, j ∈ sortU l ↔ j ∈ l
  | [] => by simp [sortU]
  | x :: xs => by
    show j ∈ insU x (sortU xs) ↔ _
    rw [mem_insU, mem_sortU, List.mem_cons]
theorem rise_sortU : ∀ (l : List Int), (sortU l).Pairwise (· < ·)
  | [] => List.Pairwise.nil
  | x :: xs => rise_insU (rise_sortU xs)
theorem rise_unique : ∀ {l m : List Int}, l.Pairwise (· < ·) → m.Pairwise (· < ·) → (∀ k, k ∈ l ↔ k ∈ m) → l = m
  | [], [], _, _, _ => rfl
  | [], y :: ys, _, _, h => by have := (h y).mpr List.mem_cons_self; cases this
  | x :: xs, [], _, _, h => by have := (h x).mp List.mem_cons_self; cases this
  | x :: xs, y :: ys, hl, hm, h => by
    have hl' := List.pairwise_cons.mp hl
    have hm' := List.pairwise_cons.mp hm
    have e : x = y := by
      rcases List.mem_cons.mp ((h x).mp List.mem_cons_self) with e | e
      · exact e
      · rcases List.mem_cons.mp ((h y).mpr List.mem_cons_self) with e2 | e2
        · exact e2.symm
        · have a1 := hm'.1 x e
          have a2 := hl'.1 y e2
          omega
    subst e
    rw [rise_unique hl'.2 hm'.2 fun k => ?_]
    constructor
    · intro hk
      rcases List.mem_cons.mp ((h k).mp (List.mem_cons_of_mem _ hk)) with e | e
      · have := hl'.1 k hk
        omega
      · exact e
    · intro hk
      rcases List.mem_cons.mp ((h k).mpr (List.mem_cons_of_mem _ hk)) with e | e
      · have := hm'.1 k hk
        omega
      · exact e
def gSortedSet : D → R D
  | .tuple ds => (asO (asInts ds)).bnd fun ns => if ns.length < 60 then .ok (.list ((sortU ns).map PyData.int)) else .bad
  | _ => .bad
section
variable {X : Cx} {T : List (Addr × Str)} {E : XK} {pos : Pos}
theorem cr_setTupI (hc : X.calm = true) : CallR X (.type "set") (fun xs H Q => ∃ (p : Addr) (ns : List Int), xs = [.ref p] ∧ SqT X.K H p (ns.map V.int) ∧ ns.length ≤ 1000 ∧ ∀ q c, H q = none → c ≤ ns.length → Q (.ref q) (upd H q (SetO X.w q (fun j => decide (j ∈ ns)) c))) := by
  intro pins s σ H xs us Q I r h
  obtain ⟨p0, ns, rfl, hq, hl, q⟩ := h
  rw [Vals.ref1 r]
  obtain ⟨its, rv, pt, hz⟩ := I.tuple hq
  have hi : IntsAre its.toArray.toList ns := intsAre_of rv
  refine call_set_tupI ns (I.ok.hd hc) (show s.heap.IsTuple p0 its.toArray from pt) hi (by unfold scanBound; omega) fun h' tk c R1 hcn k => ?_
  exact ⟨.ref s.heap.objs.size, _, I.laid (t' := tk) (o := SetO X.w s.heap.objs.size (fun j => decide (j ∈ ns)) c) k (Nat.le_refl _) (setO_new R1), rfl, q _ c (I.hok.fresh (Nat.le_refl _)) hcn⟩
theorem e_sortedSet {a : Expr} {fa : Env → R D} {p p2 pos2 : Pos} (hc : X.calm = true) (hg : Gl X "sorted") (hm : X.mg "sorted" = none) (hg2 : Gl X "set") (hm2 : X.mg "set" = none) (ha : ED X T E a fa)
    (na : starEach [.Call (.Name "set" p2) [a] [] pos2] X.env = (false, eval (.Call (.Name "set" p2) [a] [] pos2) X.env) :: starEach [] X.env := by rfl) (na2 : starEach [a] X.env = (false, eval a X.env) :: starEach [] X.env := by rfl)
    (nb : (backTo pos (starEach [] X.env)).any (·.1) = false := by rfl) (nb2 : (backTo pos2 (starEach [] X.env)).any (·.1) = false := by rfl) :
    ED X T E (.Call (.Name "sorted" p) [.Call (.Name "set" p2) [a] [] pos2] [] pos) (fUn gSortedSet fa) := by
  refine pe_w (pe_callB (cr_sortedSet hc) hg hm (by decide +kernel) (pa_cons (pe_callTy (cr_setTupI hc) hg2 hm2 (by decide +kernel) (pa_cons ha pa_nil na2) (by decide) (by decide) na2 nb2) pa_nil na) (by decide) (by decide) na nb) ?_
  rintro σ H Q ⟨s, ρ, rfl, wf, sl, W⟩
  refine ⟨s, ρ, rfl, wf, sl, (Wg.bind W).imp ?_⟩
  rintro x _ ⟨b, rfl, ub, d, hx, W1⟩
  cases d <;> first | exact W1.elim | skip
  rename_i ds
  have hx : Dt b.f x (.tuple ds) := hx
  cases hx with
  | tup h1 h2 =>
    cases qi : asInts ds with
    | none =>
      rw [show gSortedSet (.tuple ds) = (asO (asInts ds)).bnd _ from rfl, qi] at W1
      exact W1.elim
    | some ns =>
      rw [show gSortedSet (.tuple ds) = (asO (asInts ds)).bnd _ from rfl, qi] at W1
      obtain ⟨hlt, W1⟩ := wg_if W1
      rw [asInts_of qi] at h2
      rw [dpAll_ints h2] at h1
      refine ⟨_, ns, rfl, .inl (rd_t ub.wf.sub h1), by omega, fun q c hq hcn => ?_⟩
      refine ⟨q, _, c, rfl, upd_same, by omega, fun ms p hs hm hl hp => ?_⟩
      have e : ms = sortU ns := rise_unique hs (rise_sortU ns) fun k => by
        rw [hm k, mem_sortU, decide_eq_true_eq]
      subst e
      have u1 := Up.laid ub.wf hq (o := SetO X.w q (fun j => decide (j ∈ ns)) c) (fun ps z => by unfold SetO at z; cases z)
      exact new_lst (X := X) (E := E) u1.wf (dpAll_of_ints (sortU ns)) (Wg.up u1 W1) p hp
end
end Dl
namespace Dl
open PySem L2 PyProof.Rows
open LamX (ExtN Tabs)
/-! ### the end of a law's row -/
/-- what the law's own def promises: f of the script is a value -/
def spL (T : List (Addr × Str)) (f : List D → R D) : Sp := fun vs H Q _ => ∃ s ds d, s.h = H ∧ Wf T s ∧ DtAll s.f vs ds ∧ f ds = .ok d ∧ ∀ v b, Up T s b → Dt b.f v d → Q v b.h
section
variable {P : Program} {w : World} {K : PySem.W.Frag} {mg : Str → Option Value} {base : Heap} {T : List (Addr × Str)}
theorem fn_mkX {x qual : Str} {st : Stmt} {f : Addr} {fd : FuncData} {N ps : List Str} {k : Nat} {m : List D → R D} {g : Env → Fl} (F : Fun K x qual st f fd) (S : FnScope N ps (defScope st)) (hm : m = runB ps.length N.length g)
    (hbody : ∀ (cdv : Value) (A : Around) (outer : List PySem.Env) (s : Shared) (H : Hp) (E : XK), Room k (cxOf (L2N.CX P w) P w K mg base N qual (defScope st) f cdv A outer s H E).A →
      SsD (cxOf (L2N.CX P w) P w K mg base N qual (defScope st) f cdv A outer s H E) T E (defBody st) g) : FnOk P w K mg base (L2N.CX P w) (k + 1) f fd ps (spD mg T m) := by
  subst hm
  refine okN F S (fun vs H Q E h => ?_) (fun cdv A outer s H vs Q E hr h => ?_)
  · obtain ⟨s, ds, rfl, wf, hd, W⟩ := h
    unfold runB at W
    obtain ⟨hn, W⟩ := wg_if W
    rw [dpAll_len hd, hn]
  · exact ⟨_, hbody cdv A outer s H E hr, body_w h⟩
theorem law_fn {k : Nat} {f : Addr} {fd : FuncData} {ps : List Str} {g : List D → R D} (h : FnOk P w K mg base (L2N.CX P w) k f fd ps (spD mg T g)) : FnOk P w K mg base (L2N.CX P w) k f fd ps (spL T g) :=
  h.imp fun vs H Q E ⟨s, ds, d, e, wf, hd, q, h⟩ => ⟨s, ds, e, wf, hd, by rw [q]; exact h⟩
end
def noList (K : PySem.W.Frag) : Bool := K.all fun x => !(x.2.cls == Value.type "list")
theorem noList_of {K : PySem.W.Frag} (h : noList K = true) {a : Addr} {o : Obj} (e : K.lookup a = some o) : o.cls ≠ .type "list" := fun z => by
  have m : (a, o) ∈ K := by
    clear h
    induction K with
    | nil => cases e
    | cons p K ih =>
      obtain ⟨b, u⟩ := p
      rw [List.lookup_cons] at e
      split at e
      · rename_i hb
        cases e
        have hb := beq_iff_eq.mp hb
        subst hb
        exact List.mem_cons_self
      · exact List.mem_cons_of_mem _ (ih e)
  have := List.all_eq_true.mp h _ m
  rw [z] at this
  exact absurd this (by decide)
theorem law_end {K : PySem.W.Frag} {f : List D → R D} {n : Nat} (hf : ∀ ns : List Int, ns.length ≤ n → f [.list (ns.map PyData.int)] = .ok (.bool true)) (nl : noList K = true) {H : Hp} {a : Addr} {ns : List Int} (hl : ns.length ≤ n) (hO : L2.Only H) (hS : SqL K H a (ns.map V.int)) :
    spL [] f [.ref a] H (fun v _ => v = .bl true) fun _ _ _ => False := by
  rcases hS with h | ⟨o, its, m, hk, hc, _⟩
  · refine ⟨⟨H, H⟩, [.list (ns.map PyData.int)], .bool true, rfl, ⟨ExtN.refl _, fun p ps z => ?_, fun p hp => by cases hp⟩, .cons (.lst h (dpAll_of_ints ns)) .nil, hf ns hl, fun v b ub hv => ?_⟩
    · rcases hO p with e | ⟨o, xs, e⟩
      · have z : H p = some (.tbl ps) := z
        rw [e] at z
        cases z
      · have z : H p = some (.tbl ps) := z
        rw [e] at z
        cases z
    · cases hv
      rfl
  · exact absurd hc (noList_of nl hk)
theorem cx_no {P : Program} {w : World} {outer : List PySem.Env} {H : Hp} {s : Shared} {e : Value} {s' : Shared} (h : L2N.CX P w outer H s (fun _ _ _ => False) e s') : False := by
  obtain ⟨_, _, _, _, _, _, _, _, _, _, _, _, z⟩ := h
  exact z
end Dl
namespace Dl
open PySem PySem.Spec L2 PyProof.Rows HotX
open LamX (ExtN Tabs)
/-! ### while an exception is handled: lists walked, summed -/
section
variable {prog : Program} {w : World} {A : Around} {E : Value → Shared → Prop} {s : Shared}
theorem next_listH {it l x1 : Addr} {i : Nat} {items : Array Value} {Q : Option Value → Shared → Prop} (hot : HotAt A x1 s.heap) (hne : x1 ≠ it) (hit : s.heap.IsListIter it l i) (hl : s.heap.IsList l items) (hx : items[i]? = none)
    (hQ : ∀ h', Heap.ExtBut it s.heap h' → Q none { s with heap := h' }) : wpAny (model prog w) A (pyNext (.ref it)) Q E s := by
  obtain ⟨hh, o1, vs1, h1, d1, c1⟩ := hot
  obtain ⟨o, ho, hc, hd⟩ := id hit; obtain ⟨ol, hol, _, nl, hdl⟩ := hl
  unfold pyNext; refine wpAny_bind (wpAny_attempt (wpAny_callSpecial?_slot (name := Str.ofString "__next__") hit.typeIs slot_listiter_next (wpAny_call_entry slot_listiter_next hit.typeIs entry_listiter_next ?_ (args_listiter_next _))))
  show wpAny _ _ (field (.ref it) 0 >>= _) _ _ s; refine wpAny_bind (wpAny_field ho hd (x := .ref l) rfl ?_)
  show wpAny _ _ (if (Value.ref l == Value.none) = true then _ else _) _ _ s; rw [if_neg (show ¬ ((Value.ref l == Value.none) = true) from Bool.false_ne_true)]
  show wpAny _ _ (field (.ref it) 1 >>= _) _ _ s; refine wpAny_bind (wpAny_field ho hd (x := .int i 0) rfl ?_)
  show wpAny _ _ (seqItems? (.ref l) >>= _) _ _ s; refine wpAny_bind (wpAny_seqItems hol hdl ?_)
  simp only [Int.toNat_natCast, hx]; refine wpAny_bind (wpAny_rule (wpAny_bind (wpAny_setField ho hd (by simp) ?_)))
  show wpAny _ _ (newExc (.type "StopIteration") [] >>= _) _ _ _; refine wpAny_bind ?_
  simp only [newExc, newTuple]; refine wpAny_bind (wpAny_newObj_type ?_ (by size_fits))
  refine wpAny_bind (m := firstArgMember _ _) (wpAny_of_eq (a := Value.none) (by first | rfl | (simp only [firstArgMember]; rfl)) ?_); refine wpAny_newObj_type ?_ (by size_fits)
  have k1 := (Heap.get?_update_other s.heap (Obj.mapFields (·.setIfInBounds 0 .none)) (Ne.symm hne)).trans h1
  refine raiseNew_hot ⟨hh, o1, vs1, Heap.get?_push_of_some _ (Heap.get?_push_of_some _ k1), d1, c1⟩ (Nat.ne_of_lt (Heap.lt_size (Heap.get?_push_of_some _ k1))) (Heap.get?_push_size _ rfl) rfl (by first | (simp; done) | (simp; omega)) ?_
  refine wpAny_bind (wpAny_isInstance (T := "StopIteration") (b := true) ⟨_, Heap.get?_update_self _ (Heap.get?_push_size _ rfl) rfl, rfl⟩ isSubtype_stop ?_)
  refine wpAny_pure (hQ _ fun b u hb e => ?_)
  have k2 : (s.heap.update it (Obj.mapFields (·.setIfInBounds 0 .none))).get? b = some u := (Heap.get?_update_other _ _ (Ne.symm hb)).trans e
  rw [Heap.get?_update_other _ _ (Nat.ne_of_gt (Heap.lt_size (Heap.get?_push_of_some _ k2)))]
  exact Heap.get?_push_of_some _ (Heap.get?_push_of_some _ k2)
end
theorem walks_listH {prog : Program} {w : World} {A : Around} {x1 : Addr} {o1 : Obj} {v1 : Array Value} (hh : A.handled = some (.ref x1)) (d1 : o1.data = .fields v1) (c1 : v1[2]? = some .none) (I ax : Addr) (hne : ax ≠ I) (hn1 : x1 ≠ I) (items : Array Value) :
    PySem.Walks prog w A I [I, ax, x1] [I] items.size (fun i v => items[i]? = some v) (fun i h => (h.IsListIter I ax i ∧ h.IsList ax items) ∧ h.get? x1 = some o1) where
  sub := fun b hb => by rw [List.mem_singleton.mp hb]; exact List.mem_cons_self
  frame := fun _ _ _ st hk => ⟨⟨st.1.1.at fun o e => hk I (by simp) o e, st.1.2.at fun o e => hk ax (by simp) o e⟩, hk x1 (by simp) _ st.2⟩
  item := fun i s Q E hi st hQ => by
    refine wpAny_pyNext_list_item st.1.1 st.1.2 (x := items[i]) (by simp [hi]) fun h' hit' hs' => hQ _ h' s.toks (by simp [hi]) ⟨⟨hit', st.1.2.extBut hs'.extBut hne⟩, hs'.extBut _ _ hn1 st.2⟩ fun b o hb e => ?_
    exact hs'.extBut b o (fun h => hb (by simp [h])) e
  done := fun s Q E st hQ => next_listH ⟨hh, o1, v1, st.2, d1, c1⟩ hn1 st.1.1 st.1.2 (by simp) fun h' he' => hQ h' s.toks fun b o hb e => he' b o (fun h => hb (List.mem_singleton.mpr h)) e
  self := fun _ _ _ _ st hQ => wpAny_pyIter_listiter st.1.1 hQ
theorem sum_listH {prog : Program} {w : World} {A : Around} {E : Value → Shared → Prop} {s : Shared} {l x1 : Addr} {xs : Array (Int × Tok)} {Q : Value → Shared → Prop} (hot : HotAt A x1 s.heap) (hl : s.heap.IsList l (intItems xs))
    (h : ∀ h' tk t', (∀ b o, s.heap.get? b = some o → h'.get? b = some o) → Q (.int (preSum (numAt xs) xs.size) t') { s with heap := h', toks := tk }) : wpAny (model prog w) A (call (.builtin "sum") [.ref l]) Q E s := by
  obtain ⟨hh, o1, v1, h1, d1, c1⟩ := hot
  have n1 : x1 ≠ s.heap.objs.size := Nat.ne_of_lt (Heap.lt_size h1)
  refine call_sum_walkG (iter_intList hl fun s₂ e st hfp hlI => ?_)
  subst e
  refine ⟨_, _, _, _, _, _, numAt xs, rfl, walks_listH (A := A.in1) hh d1 c1 _ l hlI n1 (intItems xs), ⟨st, Heap.get?_push_of_some _ h1⟩, fun b hb => ?_, (fun _ _ => intItems_at), fun h' tk t' hk => ?_⟩
  · rcases List.mem_cons.mp hb with z | hb
    · exact hfp b (by rw [z]; simp)
    · rcases List.mem_cons.mp hb with z | hb
      · exact hfp b (by rw [z]; simp)
      · rw [List.mem_singleton.mp hb]
        show x1 < (s.heap.push _).objs.size
        rw [Heap.size_push]
        exact Nat.lt_succ_of_lt (Heap.lt_size h1)
  · have := h h' tk t' (old_kept hk)
    simpa [intItems] using this
section
variable {X : Cx}
/-- sum(..) in an except suite -/
theorem cr_sumH {X : Cx} (hc : L2H.HotC X) : CallR X (.builtin "sum") (rSum X.K) := by
  intro pins s σ H vs us Q I r h
  obtain ⟨a, ns, rfl, hs, q⟩ := h
  obtain ⟨its, rv, hl, _⟩ := I.list hs
  obtain ⟨x1, hot⟩ := hc.at I
  rw [Vals.ref1 r]
  obtain ⟨xs, e⟩ := rv.ints.allInts.items
  have hn : numsOf (intItems xs).toList = ns := by rw [← e]; exact rv.ints.numsOf
  rw [nums_intItems] at hn
  have hl' := hl.isList
  rw [e] at hl'
  refine sum_listH hot hl' fun h' tk t' hk => ?_
  rw [preSum_eq, List.take_of_length_le (by simp), hn]
  exact ⟨.int _, H, I.kept hk, ⟨_, rfl⟩, q⟩
end
end Dl
namespace Dl
open PySem PySem.Spec L2 PyProof.Rows HotX
/-! ### [e for x in a_list] in an except suite, e a plain value -/
section
variable {X : Cx}
/-- xs: the list's items; ys: what e gives of each; D: the new list -/
def tLcH (K : PySem.W.Frag) (ta te : TE) (vs : List Nat) (i0 : Nat) : TE := fun σ H Q => ta σ H fun v H1 => ∃ (a : Addr) (xs ys : List V), v = .ref a ∧ SqL K H1 a xs ∧ ys.length = xs.length ∧ xs.length < 1000 ∧
  (∀ (j : Nat) (x y : V), xs[j]? = some x → ys[j]? = some y → ∀ (H' : Hp) (Q' : VK), (∀ b o, H1 b = some o → H' b = some o) → Q' y H' → te ((wipe σ vs).set i0 (some x)) H' Q') ∧ ∀ D, H1 D = none → Q (.ref D) (upd H1 D (.lst ys))
theorem take_snoc {α : Type} {ys : List α} {j : Nat} {y : α} (h : ys[j]? = some y) : ys.take j ++ [y] = ys.take (j + 1) := by
  rw [List.take_succ, h]; rfl
theorem pe_lcH {elt iter : Expr} {scope : Scope} {own : List (Str × Nat)} {tx : Str} {px pos : Pos} {ta te : TE} {i0 : Nat} (hc : L2H.HotC X) (hN : X.N.Nodup) (ha : PE X iter ta) (ok : BlkOk X.N X.env.scope scope own) (hi0 : i0 ∈ own.map (·.2))
    (hg : ∀ (s : Shared) (H : Hp) (C : Addr) (cl : List (Str × Addr)) (fp : List Addr), PG (X.blk s H scope (compEnvC scope cl C X.env) fp) (.Name tx px) (gName i0))
    (he : ∀ (s : Shared) (H : Hp) (C : Addr) (cl : List (Str × Addr)) (fp : List Addr), PE (X.blk s H scope (compEnvC scope cl C X.env) fp) elt te) (hs : ∀ x, foldedSetIterable iter X.env x = pure x := by intro _; rfl) :
    PE X (.ListComp elt [⟨.Name tx px, iter, [], 0⟩] scope pos) (tLcH X.K ta te (own.map (·.2)) i0) := by
  refine ⟨fun pins s σ H Q I h => ?_⟩
  rw [eval_ListComp]
  have hfree : ∀ y ∈ scope.names, y.2 = .free → ∃ c, X.env.cells.lookup y.1 = some c := fun y hy e => (ok.free y hy e).elim (fun k => I.ok.has _ (.inl k)) fun k => I.ok.has _ (.inr k)
  refine wpAny_comprehension_free (use := none) rfl hs (closure_ok hfree) ok.kind (fun y hy e => by rw [ok.uniq y hy, e]) (thn (ha.run pins s σ H _ I h) fun v s1 ⟨v', H1, I1, r1, a, xs, ys, ev, hq, hyl, hxl, hte, hQ⟩ => ?_)
  subst ev
  obtain rfl : v = Value.ref a := r1
  obtain ⟨its, rv, pl, hz⟩ := I1.list hq
  have hits := rv.length
  obtain ⟨p, hot, hp⟩ := hc
  obtain ⟨hpg, hpn, hpL, hpf, hpc⟩ := I1.pin p (List.mem_append_left _ hp)
  -- the iterator, the new list, the block's names
  refine wpAny_pyIter_list pl.isList (wpAny_newObj_type (newEnv_comp ?_) (by show 0 ≤ sizeLine; decide))
  generalize hs2 : ({ s1 with heap := s1.heap.push { cls := .type "list_iterator", data := .fields #[.ref a, .int 0 0] } } : Shared) = s2
  have I2 : Inv X pins σ H1 s2 := by rw [← hs2]; exact I1.kept (t' := s1.toks) fun b o e => Heap.get?_push_of_some _ e
  have st2 : s2.heap.IsListIter s1.heap.objs.size a 0 := by rw [← hs2]; exact ⟨_, Heap.get?_push_size _ rfl, rfl, rfl⟩
  generalize hit : s1.heap.objs.size = it at st2
  have h2 : s2.heap.objs.size = it + 1 := by rw [← hs2]; show (s1.heap.push _).objs.size = _; rw [Heap.size_push, hit]
  have fit : FpOk X pins H1 it := I1.fpOk (Nat.le_of_eq hit) (I1.hok.fresh (Nat.le_of_eq hit))
  generalize hD : s2.heap.objs.size = D
  have hDn : H1 D = none := I2.hok.fresh (Nat.le_of_eq hD)
  generalize hs3 : ({ s2 with heap := s2.heap.push { cls := .type "list", data := .seq ([] : List Value).toArray } } : Shared) = s3
  have I3 : Inv X pins σ (upd H1 D (.lst [])) s3 := by
    rw [← hs3]
    refine I2.laid (t' := s2.toks) (fun b o e => Heap.get?_push_of_some _ e) (Nat.le_of_eq hD) ⟨Nat.zero_le _, [], 0, .nil, ?_⟩
    rw [← hD]; exact Heap.get?_push_size _ rfl
  have nitD : it ≠ D := by omega
  have sz3 : s3.heap.objs.size = D + 1 := by rw [← hs3]; show (s2.heap.push _).objs.size = _; rw [Heap.size_push, hD]
  have f3 : ∀ b ∈ [it], FpOk X pins (upd H1 D (.lst [])) b ∧ b < s3.heap.objs.size := fun b hb => by
    rw [List.mem_singleton.mp hb]
    exact ⟨⟨by rw [upd_ne nitD]; exact fit.1, fit.2⟩, by omega⟩
  have st3 : s3.heap.IsListIter it a 0 := by rw [← hs3]; exact st2.at fun o e => Heap.get?_push_of_some _ e
  have g3 : s3.heap.get? p.1 = some p.2 := by rw [← hs3, ← hs2]; exact Heap.get?_push_of_some _ (Heap.get?_push_of_some _ hpg)
  have I4 := block_start I3 ok hN f3
  have pg := hg s3 (upd H1 D (.lst [])) s3.heap.objs.size (cellsFrom (s3.heap.objs.size + 1) scope.names (cloFrom X.env.cells scope.names [])) [it]
  have pe := he s3 (upd H1 D (.lst [])) s3.heap.objs.size (cellsFrom (s3.heap.objs.size + 1) scope.names (cloFrom X.env.cells scope.names [])) [it]
  show codeAny _ _ (.compStart (.ListComp elt [⟨.Name tx px, iter, [], 0⟩] scope pos) 0 (.ref it) (.ref D) (compEnvC scope (cellsFrom (s3.heap.objs.size + 1) scope.names (cloFrom X.env.cells scope.names [])) s3.heap.objs.size X.env)) (compPost (model X.prog X.w) X.A X.xe none (EP X pins σ Q) (.ref D) s3.heap.objs.size) { s3 with heap := pushCells (s3.heap.push { cls := .type "dict", data := .dict #[] }) scope.names }
  generalize hce : compEnvC scope (cellsFrom (s3.heap.objs.size + 1) scope.names (cloFrom X.env.cells scope.names [])) s3.heap.objs.size X.env = ce at I4 pg pe ⊢
  have cL : ce.locals = s3.heap.objs.size := by subst hce; rfl
  generalize hs4 : ({ s3 with heap := pushCells (s3.heap.push { cls := .type "dict", data := .dict #[] }) scope.names } : Shared) = s4 at I4 ⊢
  have k34 : ∀ b o, s3.heap.get? b = some o → s4.heap.get? b = some o := fun b o e => by rw [← hs4]; exact pushCells_keeps _ _ _ _ (Heap.get?_push_of_some _ e)
  have st4 : s4.heap.IsListIter it a 0 := st3.at fun o e => k34 _ _ e
  have le1 : s1.heap.objs.size ≤ D := by rw [hit, ← hD, h2]; exact Nat.le_succ _
  have aD : a ≠ D := by
    obtain ⟨_, e, _⟩ := pl.isList
    exact Nat.ne_of_lt (Nat.lt_of_lt_of_le (Heap.lt_size e) le1)
  have ext : ∀ zs b o, H1 b = some o → upd H1 D (.lst zs) b = some o := fun zs b o e => by rw [upd_ne (ne_of_none e hDn)]; exact e
  have hqD : ∀ zs, SqL X.K (upd H1 D (.lst zs)) a xs := fun zs => by
    rcases hq with r | r
    · exact .inl (rd_l (LamX.ExtN.of (ext zs)) r)
    · exact .inr r
  have npD : p.1 ≠ D := Nat.ne_of_lt (Nat.lt_of_lt_of_le (Heap.lt_size hpg) le1)
  have npI : p.1 ≠ it := by rw [← hit]; exact Nat.ne_of_lt (Heap.lt_size hpg)
  have pinB : ∀ {σ' : L2.St} {H' : Hp} {s' : Shared}, Inv (X.blk s3 (upd H1 D (.lst [])) scope ce [it]) [] σ' H' s' → s'.heap.get? p.1 = some p.2 → H' p.1 = none → Inv (X.blk s3 (upd H1 D (.lst [])) scope ce [it]) [p] σ' H' s' := fun {σ' H' s'} I' e1 e2 =>
    I'.pins_of fun q hq' => by
      rw [List.mem_singleton.mp hq']
      refine ⟨e1, e2, ?_, fun z => ?_, hpc⟩
      · show p.1 ≠ ce.locals
        rw [cL]
        exact Nat.ne_of_lt (Heap.lt_size g3)
      · rcases List.mem_cons.mp (I1.stkSub _ z) with z | z
        · exact hpL z
        · exact hpf z
  have nIt : ∀ zs, upd H1 D (.lst zs) it = none := fun zs => by rw [upd_ne nitD]; exact fit.1
  have stat : ∀ {zs : List V} {σ' : L2.St} {s' : Shared}, Inv (X.blk s3 (upd H1 D (.lst [])) scope ce [it]) [p] σ' (upd H1 D (.lst zs)) s' → FpOk (X.blk s3 (upd H1 D (.lst [])) scope ce [it]) [p] (upd H1 D (.lst zs)) it := fun {zs σ' s'} I' =>
    ⟨nIt zs, (I'.ok.exf it List.mem_cons_self).1, I'.ok.exfs it List.mem_cons_self, .inl List.mem_cons_self, fun x c e => (I'.ok.exf it List.mem_cons_self).2 x c e, fun q hq' => by
      have hq' : q ∈ [p] := hq'
      rw [List.mem_singleton.mp hq']; exact npI⟩
  have loop : codeAny (model X.prog X.w) X.A (.compLoop (.ListComp elt [⟨.Name tx px, iter, [], 0⟩] scope pos) 0 (.ref it) (.ref D) ce) (compPost (model X.prog X.w) X.A X.xe none (EP X pins σ Q) (.ref D) s3.heap.objs.size) s4 := by
    refine compLoop_any (fun n s' => ∃ j, (j + n = xs.length + 1 ∧ j ≤ xs.length) ∧ Inv (X.blk s3 (upd H1 D (.lst [])) scope ce [it]) [p] (wipe σ (own.map (·.2))) (upd H1 D (.lst (ys.take j))) s' ∧ s'.heap.IsListIter it a j) ?_ (xs.length + 1) ⟨0, ⟨by omega, by omega⟩, pinB I4 (k34 _ _ g3) (by show upd H1 D (.lst []) p.1 = none; rw [upd_ne npD]; exact hpn), st4⟩
    rintro n s5 ⟨j, ⟨hj, hj'⟩, I5, st5⟩
    obtain ⟨its5, rv5, pl5, _⟩ := I5.list (hqD (ys.take j))
    have hl5 := rv5.length
    obtain ⟨f0, f1, f2, f3', f4, f5⟩ := stat I5
    obtain ⟨hh, v1, d1, c1⟩ := hot
    have hp5 := (I5.pin p (List.mem_append_right _ List.mem_cons_self)).1
    by_cases hjl : j < xs.length
    · obtain ⟨x, hx⟩ : ∃ x, xs[j]? = some x := ⟨xs[j], List.getElem?_eq_getElem hjl⟩
      obtain ⟨y, hy⟩ : ∃ y, ys[j]? = some y := ⟨ys[j]'(by omega), List.getElem?_eq_getElem (by omega)⟩
      obtain ⟨u, hu, ru⟩ := rv5.get hx
      refine wpAny_pyNext_list_item st5 pl5.isList (x := u) (by simpa using hu) fun h6 st6 sb => ?_
      have I6 : Inv (X.blk s3 (upd H1 D (.lst [])) scope ce [it]) [p] (wipe σ (own.map (·.2))) (upd H1 D (.lst (ys.take j))) { s5 with heap := h6 } := I5.turned (t' := s5.toks) (fun b o hb e => (sb.2 b hb).trans e) f0 f1 f3' f4 f5
      obtain ⟨o6, e6, c6, d6⟩ := id st6
      refine go_of (s := { s5 with heap := h6 }) e6 c6 d6 (by decide) ?_
      have I7 := I6.pinned (fp := [it]) (fun b hb => by rw [List.mem_singleton.mp hb]; exact stat I6) (fun b hb => by rw [List.mem_singleton.mp hb]; exact ⟨o6, e6, fun v z => by rw [d6] at z; cases z⟩)
      refine thnF (pg.run _ _ _ _ x u (fun σ' H' => σ' = (wipe σ (own.map (·.2))).set i0 (some x) ∧ H' = upd H1 D (.lst (ys.take j))) I7 ru ⟨rfl, rfl⟩) fun _ s8 ⟨σ8, H8, I8, e1, e2⟩ => ?_
      subst e1 e2
      refine wpAny_tests_nil ?_
      rw [if_pos rfl]
      refine thnF (pe.run _ s8 _ _ (fun y' H' => y' = y ∧ H' = upd H1 D (.lst (ys.take j))) I8 (hte j x y hx hy _ _ (ext _) ⟨rfl, rfl⟩)) fun z s10 ⟨yv, H10, I10, r10, e3, e4⟩ => ?_
      subst e3 e4
      refine app_ok (X := X.blk s3 (upd H1 D (.lst [])) scope ce [it]) I10 (show upd H1 D (.lst (ys.take j)) D = some (.lst (ys.take j)) from upd_same) ?_ r10 fun s11 I11 => ?_
      · rw [List.length_take]
        exact Nat.lt_of_le_of_lt (m := 1000) (by omega) (by decide)
      · rw [upd_upd, take_snoc hy] at I11
        refine ⟨n - 1, by omega, j + 1, ⟨by omega, by omega⟩, (I11.unpinned (pins := [p])).weak (by rw [List.length_set]) (fun i v e => ?_), ?_⟩
        · have hne : i0 ≠ i := fun z => (wipe_some e).2 (by rw [← z]; exact hi0)
          rw [List.getElem?_set_ne hne]
          exact e
        · have := (I11.pin (it, o6) (List.mem_append_right _ (List.mem_append_right _ (mem_pinsAt List.mem_cons_self e6)))).1
          exact ⟨o6, this, c6, d6⟩
    · have hje : j = xs.length := by omega
      refine next_listH ⟨hh, p.2, v1, hp5, d1, c1⟩ npI st5 pl5.isList (by simp; omega) fun h6 eb => ?_
      have I6 : Inv (X.blk s3 (upd H1 D (.lst [])) scope ce [it]) [p] (wipe σ (own.map (·.2))) (upd H1 D (.lst (ys.take j))) { s5 with heap := h6 } := I5.turned (t' := s5.toks) (fun b o hb e => eb b o hb e) f0 f1 f3' f4 f5
      rw [List.take_of_length_le (by omega)] at I6
      have I7 : Inv X pins σ (upd H1 D (.lst ys)) { s5 with heap := h6 } := I3.call' (ch := [it]) I6.os I6.base I6.hok I6.bare fun b hb => ⟨(f3 b hb).1.2.2.2.1, (f3 b hb).1.2.1, (f3 b hb).1.2.2.2.2.1, (f3 b hb).1.2.2.2.2.2⟩
      have nC : upd H1 D (.lst ys) s3.heap.objs.size = none := by
        have z : upd H1 D (.lst ys) ce.locals = none := I6.free
        rwa [cL] at z
      obtain ⟨m, hn, _⟩ := I6.loc
      have hn : h6.Ns ce.locals m := hn
      rw [cL] at hn
      obtain ⟨g0, g1, g2, g3', g4, g5⟩ := I3.fpOk (Nat.le_refl _) nC
      exact ⟨m, hn, fun h'' sb => ⟨.ref D, _, I7.turned (t' := s5.toks) (fun b o hb e => (sb.2 b hb).trans e) g0 g1 g3' g4 g5, rfl, hQ D hDn⟩⟩
  exact codeAny_compStart_list loop (wpAny_pyIter_listiter st4 loop)
end
end Dl
namespace Dl
open PySem PySem.Spec L2 PyProof.Rows HotX
/-! ### what an except suite's def asks of the exception -/
section
variable {X : Cx} {T : List (Addr × Str)} {E : XK} {pos : Pos}
theorem call_isH {p : Addr × Obj} {C : Addr} (x : ExcC X.K C) (hz : Zc (.ref C) none p.2) (hf : ∃ vs, p.2.data = .fields vs) (hp : p ∈ X.pn) : CallR X (.builtin "isinstance") (rIsE X.K C p.1) := by
  intro pins s σ H xs us Q I r h
  obtain ⟨c, cv, b, e0, hcv, e, q⟩ := h
  subst e0
  obtain ⟨vs, hv⟩ := hf
  match us, r with
  | _ :: _ :: [], .cons rx (.cons rt .nil) =>
    cases rx
    have ec := hcv _ rt
    subst ec
    obtain ⟨hget, _⟩ := I.pin p (List.mem_append_left _ hp)
    have J : PySem.W.InstAt s.heap p.1 p.2 C none := by
      obtain ⟨a, ⟨oc, od, oda, osl⟩⟩ := p
      obtain ⟨h1, h2⟩ := hz
      dsimp only at h1 h2 hv hget ⊢
      subst h1 h2 hv
      exact ⟨hget, rfl, rfl, trivial⟩
    exact PySem.W.kia_one (PySem.W.handS_kitx_exc x.hg x.hk x.hs x.hd x.ha x.hn x.ht x.hm) I.kIn J e (fun z => nomatch z) fun tk => ⟨.bl b, H, I.kept (t' := tk) fun _ _ z => z, rfl, q⟩
def fRaw (i : Nat) (a : Addr) (b : Bool) : Env → R D := fun ρ => match ρ[i]? with
  | some (.raw (.ref a')) => if a' = a then .ok (.bool b) else .bad
  | _ => .bad
theorem fRaw_w {mg : Str → Option Value} {i : Nat} {a : Addr} {b : Bool} {σ : L2.St} {H : Hp} {Q : VK} (h : tD rE mg T E (fRaw i a b) σ H Q) : σ[i]? = some (some (.ref a)) ∧ Q (.bl b) H := by
  obtain ⟨s, ρ, rfl, wf, sl, W⟩ := h
  unfold fRaw at W
  split at W
  · rename_i a' q
    by_cases z : a' = a
    · rw [if_pos z] at W
      subst z
      exact ⟨sl.raw _ _ q, Wg.here (rep := rE) wf W (Dt.bl b)⟩
    · rw [if_neg z] at W
      exact W.elim
  · exact W.elim
/-- isinstance(e, C), C a class of the program's own -/
theorem e_isE {i : Nat} {x y : Str} {p : Addr × Obj} {C Cy : Addr} {b : Bool} {p1 p2 p3 : Pos} (xc : ExcC X.K C) (hz : Zc (.ref C) none p.2) (hf : ∃ vs, p.2.data = .fields vs) (hp : p ∈ X.pn) (hk : PySem.W.kitOne X.K (.ref C) (.ref Cy) = some b)
    (hN : X.N[i]? = some x) (hv : Vis X.env.scope x) (hg : Gl X "isinstance") (hm : X.mg "isinstance" = none) (hg2 : Gl X y) (hm2 : X.mg y = some (.ref Cy)) (hd : (x == ("__debug__" : Str)) = false := by decide) (hcd : (x == ("__classdict__" : Str)) = false := by decide) (hd2 : (y == ("__debug__" : Str)) = false := by decide)
    (he : starEach [.Name x p2, .Name y p3] X.env = (false, eval (.Name x p2) X.env) :: starEach [.Name y p3] X.env := by rfl) (hpl : (backTo pos (starEach [.Name y p3] X.env)).any (·.1) = false := by rfl) (hs2 : starEach [.Name y p3] X.env = (false, eval (.Name y p3) X.env) :: starEach [] X.env := by rfl) :
    ED X T E (.Call (.Name "isinstance" p1) [.Name x p2, .Name y p3] [] pos) (fRaw i p.1 b) := by
  refine pe_w (pe_callB (call_isH xc hz hf hp) hg hm (by decide +kernel) (pa_cons (pe_var hN hv hd hcd) (pa_cons (pe_glob (v := .ref Cy) hg2 hm2 rfl hd2) pa_nil hs2) he) (by decide) (by decide) he hpl) ?_
  intro σ H Q h
  obtain ⟨h1, h2⟩ := fRaw_w h
  exact ⟨.ref p.1, h1, .ref Cy, .ref Cy, b, rfl, fun u r => r, hk, h2⟩
/-- isinstance(e, T), T a built-in class -/
theorem e_isT {i : Nat} {x y : Str} {p : Addr × Obj} {C : Addr} {t : String} {b : Bool} {p1 p2 p3 : Pos} (xc : ExcC X.K C) (hz : Zc (.ref C) none p.2) (hf : ∃ vs, p.2.data = .fields vs) (hp : p ∈ X.pn) (hk : PySem.W.kitOne X.K (.ref C) (.type t) = some b)
    (hN : X.N[i]? = some x) (hv : Vis X.env.scope x) (hg : Gl X "isinstance") (hm : X.mg "isinstance" = none) (hg2 : Gl X y) (hm2 : X.mg y = none) (hv2 : bootBuiltins y = some (.type t)) (hn2 : y ≠ "__name__" := by decide) (hd : (x == ("__debug__" : Str)) = false := by decide) (hcd : (x == ("__classdict__" : Str)) = false := by decide) (hd2 : (y == ("__debug__" : Str)) = false := by decide)
    (he : starEach [.Name x p2, .Name y p3] X.env = (false, eval (.Name x p2) X.env) :: starEach [.Name y p3] X.env := by rfl) (hpl : (backTo pos (starEach [.Name y p3] X.env)).any (·.1) = false := by rfl) (hs2 : starEach [.Name y p3] X.env = (false, eval (.Name y p3) X.env) :: starEach [] X.env := by rfl) :
    ED X T E (.Call (.Name "isinstance" p1) [.Name x p2, .Name y p3] [] pos) (fRaw i p.1 b) := by
  refine pe_w (pe_callB (call_isH xc hz hf hp) hg hm (by decide +kernel) (pa_cons (pe_var hN hv hd hcd) (pa_cons (pe_bltn (v := .ty t) hg2 hm2 hv2 rfl hn2 hd2) pa_nil hs2) he) (by decide) (by decide) he hpl) ?_
  intro σ H Q h
  obtain ⟨h1, h2⟩ := fRaw_w h
  exact ⟨.ref p.1, h1, .ty t, .type t, b, rfl, fun u r => r, hk, h2⟩
theorem f_sumH (hc : L2H.HotC X) : BltD X T E (.builtin "sum") (gOne dSum) := by
  refine ⟨_, cr_sumH hc, call_list1 fun s a xs ds Q wf h1 h2 W => ?_⟩
  unfold dSum at W
  cases q : asInts ds with
  | none => rw [q] at W; exact W.elim
  | some ns =>
    rw [q] at W
    rw [asInts_of q] at h2
    rw [dpAll_ints h2] at h1
    exact ⟨a, ns, rfl, .inl h1, W.here wf (.int _)⟩
/-- [int(x) for x in a_list_of_flags] -/
def gInts : D → R D
  | .list ds => (asO (asBls ds)).bnd fun bs => if bs.length < 1000 then .ok (.list (bs.map fun b => PyData.int (if b then 1 else 0))) else .bad
  | _ => .bad
theorem dt_ints (f : Hp) : ∀ bs : List Bool, DtAll f (bs.map fun b => V.int (if b then 1 else 0)) (bs.map fun b => PyData.int (if b then 1 else 0))
  | [] => .nil
  | b :: bs => .cons (.int _) (dt_ints f bs)
theorem e_intsH {i0 : Nat} {tx : Str} {iter : Expr} {scope : Scope} {own : List (Str × Nat)} {px p1 p2 p3 : Pos} {fi : Env → R D} (hc : L2H.HotC X) (hN : X.N.Nodup) (hi : ED X T E iter fi) (ok : BlkOk X.N X.env.scope scope own) (hi0 : i0 ∈ own.map (·.2))
    (hg : ∀ (s : Shared) (H : Hp) (C : Addr) (cl : List (Str × Addr)) (fp : List Addr), PG (X.blk s H scope (compEnvC scope cl C X.env) fp) (.Name tx px) (gName i0))
    (he : ∀ (s : Shared) (H : Hp) (C : Addr) (cl : List (Str × Addr)) (fp : List Addr), PE (X.blk s H scope (compEnvC scope cl C X.env) fp) (.Call (.Name "int" p1) [.Name tx p2] [] p3) (fun σ H Q => ∃ b, σ[i0]? = some (some (.bl b)) ∧ Q (.int (if b then 1 else 0)) H)) (hs : ∀ x, foldedSetIterable iter X.env x = pure x := by intro _; rfl) :
    ED X T E (.ListComp (.Call (.Name "int" p1) [.Name tx p2] [] p3) [⟨.Name tx px, iter, [], 0⟩] scope pos) (fUn gInts fi) := by
  have hlt : i0 < X.N.length := by
    obtain ⟨q, hq, e⟩ := List.mem_map.mp hi0
    have := ok.ix q hq
    rw [e] at this
    exact (List.getElem?_eq_some_iff.mp this).1
  refine ⟨fun pins s σ H Q I h => (pe_lcH hc hN hi ok hi0 hg he hs).run pins s σ H Q I ?_⟩
  obtain ⟨s, ρ, rfl, wf, sl, W⟩ := h
  refine ⟨s, ρ, rfl, wf, sl, (Wg.bind W).imp ?_⟩
  rintro x _ ⟨b, rfl, ub, d, hx, W1⟩
  cases hx <;> first | exact W1.elim | skip
  rename_i a xs ds h1 h2
  have W1 : Wg rE X.mg T E b ((asO (asBls ds)).bnd fun bs => if bs.length < 1000 then .ok (.list (bs.map fun b => PyData.int (if b then 1 else 0))) else .bad) Q := W1
  cases q : asBls ds with
  | none =>
    rw [q] at W1
    exact W1.elim
  | some bs =>
    rw [q] at W1
    obtain ⟨hl, W1⟩ := wg_if W1
    rw [asBls_of q] at h2
    have e2 := dpAll_bls h2
    subst e2
    refine ⟨a, bs.map V.bl, bs.map fun b => V.int (if b then 1 else 0), rfl, .inl (rd_l ub.wf.sub h1), by simp, by simpa using hl, fun j x y e1 e2 H' Q' _ q' => ?_, fun D hD => ?_⟩
    · rw [List.getElem?_map] at e1 e2
      cases qb : bs[j]? with
      | none => rw [qb] at e1; cases e1
      | some b0 =>
        rw [qb] at e1 e2
        cases e1
        cases e2
        refine ⟨b0, List.getElem?_set_self ?_, q'⟩
        rw [wipe_length, I.len]
        exact hlt
    · exact new_lst ub.wf (dt_ints _ bs) W1 D hD
/-- x.index(True), x a list of flags -/
def gIndexT : D → R D
  | .list ds => (asO (asBls ds)).bnd fun bs => (asO (bs.findIdx? id)).bnd fun j => .ok (.int (j : Nat))
  | _ => .bad
theorem find_T : ∀ {bs : List Bool} {j : Nat}, bs.findIdx? id = some j → bs[j]? = some true ∧ ∀ m < j, bs[m]? = some false
  | [], _, h => by simp at h
  | true :: bs, j, h => by
    simp [List.findIdx?_cons] at h
    subst h
    exact ⟨rfl, fun m hm => absurd hm (Nat.not_lt_zero _)⟩
  | false :: bs, j, h => by
    simp [List.findIdx?_cons] at h
    obtain ⟨k, h1, rfl⟩ := h
    obtain ⟨g1, g2⟩ := find_T h1
    refine ⟨g1, fun m hm => ?_⟩
    cases m with
    | zero => rfl
    | succ m => exact g2 m (by omega)
theorem e_indexT {i : Nat} {x : Str} {p1 apos cpos p2 : Pos} {kk : Nat} (hN : X.N[i]? = some x := by rfl) (hv : Vis X.env.scope x := by first | exact Or.inl rfl | exact Or.inr (Or.inl rfl) | exact Or.inr (Or.inr rfl)) (hd : (x == ("__debug__" : Str)) = false := by decide) (hcd : (x == ("__classdict__" : Str)) = false := by decide)
    (hse : starEach [.Constant (.bool true) kk p2] X.env = (false, eval (.Constant (.bool true) kk p2) X.env) :: starEach [] X.env := by rfl) (hbase : attributeBase (.Name x p1) "index" X.env (eval (.Name x p1) X.env) = eval (.Name x p1) X.env := by rfl)
    (hfew : ((backTo cpos (starEach [.Constant (.bool true) kk p2] X.env)).all (fun x => !x.1) && (backToKw cpos (keywordEach [] X.env)).all (fun x => x.1.isSome) && decide ([Expr.Constant (.bool true) kk p2].length + ([] : List Keyword).length + (if ([] : List Keyword).isEmpty then 0 else 1) < 30)) = true := by rfl)
    (hline : (apos.endLine == cpos.line) = true := by rfl) (hplain : (backTo cpos (starEach [] X.env)).any (·.1) = false := by rfl) :
    ED X T E (.Call (.Attribute (.Name x p1) "index" apos) [.Constant (.bool true) kk p2] [] cpos) (fUn gIndexT (fVar i)) := by
  refine pe_w (pe_bm PySem.F.plainAttrs_list PySem.F.slot_list_index PySem.F.type_list_index mt_index (e_var (E := E) (T := T) i hN hv hd hcd) (pa_cons pe_bl pa_nil hse) hbase hfew hline hse hplain) ?_
  rintro σ H Q ⟨s, ρ, rfl, wf, sl, W⟩
  refine ⟨s, ρ, rfl, wf, sl, (Wg.bind W).imp ?_⟩
  rintro x _ ⟨b, rfl, ub, d, hx, W1⟩
  cases hx <;> first | exact W1.elim | skip
  rename_i a xs ds h1 h2
  have W1 : Wg rE X.mg T E b ((asO (asBls ds)).bnd fun bs => (asO (bs.findIdx? id)).bnd fun j => .ok (.int (j : Nat))) Q := W1
  cases q : asBls ds with
  | none =>
    rw [q] at W1
    exact W1.elim
  | some bs =>
    rw [q] at W1
    rw [asBls_of q] at h2
    have e2 := dpAll_bls h2
    subst e2
    have W1 : Wg rE X.mg T E b ((asO (bs.findIdx? id)).bnd fun j => .ok (.int (j : Nat))) Q := W1
    cases qf : bs.findIdx? id with
    | none =>
      rw [qf] at W1
      exact W1.elim
    | some j =>
      rw [qf] at W1
      obtain ⟨g1, g2⟩ := find_T qf
      have r : SqL X.K b.h a (bs.map V.bl) := .inl (rd_l ub.wf.sub h1)
      refine ⟨.inl ⟨rfl, _, r⟩, ⟨a, bs.map V.bl, .bl true, j, .bl true, rfl, rfl, r, rfl, ?_, by rw [List.getElem?_map, g1]; rfl, rfl, fun m z hm hz => ?_, Wg.here (rep := rE) ub.wf W1 (Dt.int _)⟩⟩
      · rw [List.all_map, List.all_eq_true]; intro _ _; rfl
      · rw [List.getElem?_map, g2 m hm] at hz
        cases hz
        rfl
end
end Dl
namespace Dl
open PySem PySem.Spec L2 PyProof.Rows HotX
/-! ### the def that names a caught exception -/
section
variable {P : Program} {w : World} {K : PySem.W.Frag} {mg : Str → Option Value} {base : Heap} {T : List (Addr × Str)}
theorem sl_raw {f : Hp} {N : List Str} {a : Addr} (hN : 0 < N.length) : Sl f (L2.start N [.ref a]) (.raw (.ref a) :: List.replicate (N.length - 1) Slot.non) := by
  have e : L2.start N [V.ref a] = some (V.ref a) :: List.replicate (N.length - 1) none := by unfold L2.start; simp
  rw [e]
  refine ⟨by simp, fun i d q => ?_, fun i v q => ?_⟩
  · rcases List.mem_cons.mp (List.mem_of_getElem? q) with z | z
    · cases z
    · obtain ⟨_, z⟩ := List.mem_replicate.mp z; cases z
  · cases i with
    | zero => cases q; rfl
    | succ i =>
      have q : (List.replicate (N.length - 1) Slot.non)[i]? = some (.raw v) := q
      obtain ⟨_, z⟩ := List.mem_replicate.mp (List.mem_of_getElem? q)
      cases z
theorem own_raw {b0 : Hs} {f H : Hp} {σ : L2.St} {v : V} {k : Nat} : Own b0 f H σ (.raw v :: List.replicate k Slot.non) := by
  have no : ∀ (i : Nat) s, (Slot.raw v :: List.replicate k Slot.non)[i]? = some s → isOwn s = false := fun i s h => by
    rcases List.mem_cons.mp (List.mem_of_getElem? h) with z | z
    · rw [z]; rfl
    · obtain ⟨_, z⟩ := List.mem_replicate.mp z; rw [z]; rfl
  exact ⟨fun i ds h => (by have := no i _ h; cases this), fun i ks h => (by have := no i _ h; cases this), fun i j s t p _ h1 h2 _ _ _ => (by rw [no i s h1] at h2; cases h2)⟩
/-- called with an exception of the class C that is handled, the def f gives the text wrd -/
def WordOk (P : Program) (w : World) (K : PySem.W.Frag) (mg : Str → Option Value) (base : Heap) (T : List (Addr × Str)) (k : Nat) (f : Addr) (fd : FuncData) (ps : List Str) (C : Addr) (wrd : Str) : Prop :=
  ∀ (A : Around) (outer : List PySem.Env) (s : Shared) (H : Hp) (args : Args) (us : List Value) (Q : VK) (p : Addr × Obj) (b0 : Hs), L2H.RoomH k A → L2H.Hot1 A p → L2H.PinOk outer H s p → L2N.Zn (.ref C) none p.2 → Env0 P w K mg base A outer s H → BindsTo s fd args (ps.zip us) → Vals [.ref p.1] us →
    b0.h = H → Wf T b0 → (∀ b, Up T b0 b → Q (.str wrd) b.h) → codeAny (model P w) A (.call (.ref f) args) (CR C8.CX0 outer P w H s Q C8.E0) s
theorem word_mk {x qual : Str} {st : Stmt} {f C : Addr} {fd : FuncData} {N : List Str} {a : Str} {k : Nat} {wrd : Str} {g : Addr → Env → Fl} (F : Fun K x qual st f fd) (S : FnScope N [a] (defScope st)) (hN : 0 < N.length)
    (hbody : ∀ (cdv : Value) (A : Around) (outer : List PySem.Env) (s : Shared) (H : Hp) (p : Addr × Obj), L2H.Hot1 A p → L2N.Zn (.ref C) none p.2 → L2H.RoomH k (A.deeper (envOfC qual (defScope st) s.heap.objs.size f cdv)) →
      SsD (L2H.cxH C8.CX0 P w K mg base N qual (defScope st) f cdv A outer s H C8.E0 p) T C8.E0 (defBody st) (g p.1))
    (hg : ∀ a, g a (.raw (.ref a) :: List.replicate (N.length - 1) Slot.non) = .ret (.str wrd)) : WordOk P w K mg base T (k + 1) f fd [a] C wrd := by
  obtain ⟨oc, od, kV, doc, pm, an, cdv, ct, osl, e, lk, hcd⟩ := F.ex
  subst e
  intro A outer s H args us Q p b0 hr hot hpin hz e0 hb r hH wf hq
  have KX : K.In s.heap := e0.mod.kin.keeps fun b o e => (e0.bs b o e).1
  have lim : s.heap.NoLimit := e0.mod.nolimit.keeps fun b o e => (e0.bs b o e).1
  refine codeAny_call_function hr.depth (KX _ _ lk) rfl S.co S.gen rfl (PySem.W.codeRec_of KX hcd) (hb _ _ _ _ (wpAny_newFunctionEnv_cells S.kind (fun ⟨n, v⟩ hy => (S.par n (List.of_mem_zip hy).1).elim .inl fun q => .inr ⟨q, PySem.W.cellsFrom_some _ _ _ (.inl q)⟩) fun env he s1 x => ?_))
  subst he
  refine ⟨lim.keeps x.toInCall.keep, codeAny_func ?_⟩
  have I : Inv (L2H.cxH C8.CX0 P w K mg base N qual (defScope st) f cdv A outer s H C8.E0 p) [] (L2.start N [.ref p.1]) H s1 := L2H.inv_startH S hpin e0 rfl r x
  refine wpAny_mono ((hbody cdv A outer s H p hot hz (hr.deeper _)).run [] s1 (L2.start N [.ref p.1]) H { nx := fun _ H' => Q .non H', rt := Q } I ⟨b0, .raw (.ref p.1) :: List.replicate (N.length - 1) Slot.non, ⟨b0.f, ?_⟩, ?_⟩) (fun fl s' hs => ?_) fun e s' hs => hs
  · subst hH
    exact ⟨⟨LamX.ExtN.refl _, LamX.ExtN.refl _, fun _ h _ => h, wf⟩, sl_raw hN, own_raw⟩
  · rw [hg]
    intro v s2 u d
    cases d
    exact hq s2 u
  · cases fl with
    | ret u =>
      obtain ⟨v, σ', H', J, rv, q⟩ := hs
      exact ⟨v, H', J.os, J.bare, J.base, J.hok, rv, q⟩
    | next =>
      obtain ⟨σ', H', J, q⟩ := hs
      exact ⟨.non, H', J.os, J.bare, J.base, J.hok, rfl, q⟩
    | brk => obtain ⟨_, _, _, q⟩ := hs; exact False.elim q
    | cont => obtain ⟨_, _, _, q⟩ := hs; exact False.elim q
end
end Dl
namespace Dl
open PySem PySem.Spec L2 PyProof.Rows HotX
open LamX (ExtN Tabs CodeO LamS TabB lamEnv lamCx)
section
variable {X : Cx} {T : List (Addr × Str)}
/-- x(e) in the suite that holds the exception e -/
theorem pe_word {a f C : Addr} {oe : Obj} {pn : List (Addr × Obj)} {fd : FuncData} {ae x n wrd : Str} {k i : Nat} {q q2 pos : Pos} (wd : WordOk X.prog X.w X.K X.mg X.base T k f fd [ae] C wrd) (hb : Binds X.K fd [ae] []) (hz : L2N.Zn (.ref C) none oe) (hf : ∃ vs, oe.data = .fields vs) (hr : Room k X.A)
    (hg : Gl X x) (hm : X.mg x = some (.ref f)) (hk : PySem.W.keepIn X.K (.ref f) = true) (hN : X.N[i]? = some n) (hv : Vis X.env.scope n) (hdb : (x == ("__debug__" : Str)) = false := by decide) (hd : (n == ("__debug__" : Str)) = false := by decide) (hcd : (n == ("__classdict__" : Str)) = false := by decide)
    (he : starEach [.Name n q2] X.env = (false, eval (.Name n q2) X.env) :: starEach [] X.env := by rfl) (hpl : (backTo pos (starEach [] X.env)).any (·.1) = false := by rfl) :
    PE (X.suite a ((a, oe) :: pn)) (.Call (.Name x q) [.Name n q2] [] pos) (fun σ H Q => σ[i]? = some (some (.ref a)) ∧ ∃ b0 : Hs, b0.h = H ∧ Wf T b0 ∧ ∀ b, Up T b0 b → Q (.str wrd) b.h) := by
  refine ⟨fun pins s σ H Q I h => ?_⟩
  obtain ⟨h1, b0, h2, h3, h4⟩ := h
  have ha : PA (X.suite a ((a, oe) :: pn)) [.Name n q2] (tCons (tVar i) tNil) := pa_cons (pe_var hN hv hd hcd) pa_nil he
  refine wpAny_Call_Name_kw (ld_glob I hg hm ?_ hdb)
  refine PySem.W.callWith_K (h₀ := X.base) I.ok.mod.kin hk (thn (ha.run pos pins s σ H (fun vs H1 => vs = [V.ref a] ∧ H1 = H) I ⟨.ref a, h1, rfl, rfl⟩) fun us s1 ⟨vs, H1, I1, r, e1, e2⟩ => ⟨I1.kIn, ?_⟩) he hpl
  subst e1 e2
  obtain ⟨vs, hd'⟩ := hf
  have hl : us.length = 1 := by rw [← r.length]; rfl
  have b := hb s1 us I1.kIn (by rw [List.append_nil]; exact hl)
  rw [List.append_nil] at b
  have P1 := I1.pin (a, oe) (List.mem_append_left _ List.mem_cons_self)
  refine wpAny_call (codeAny_mono (wd (X.suite a ((a, oe) :: pn)).A X.stack s1 H1 ⟨us, []⟩ us Q (a, oe) b0 ⟨hr.dp, hr.un⟩ ⟨rfl, vs, hd', hz.2.2 vs hd'⟩ ⟨P1.1, P1.2.1, fun z => (List.mem_cons.mp (I1.stkSub a z)).elim P1.2.2.1 P1.2.2.2.1, P1.2.2.2.2⟩ hz I1.env0 b r h2 h3 h4) fun rr s' hq => ?_)
  match rr, hq with
  | .error e, hq => exact (show False from hq).elim
  | .ok (.ret u), hq => exact I1.after hq
  | .ok .next, hq => exact False.elim hq
  | .ok .brk, hq => exact False.elim hq
  | .ok .cont, hq => exact False.elim hq
/-! ### a lambda without parameters, its exceptions known to bear no context -/
def lamN (X : Cx) (A : Around) (outer : List PySem.Env) (s : Shared) (H : Hp) (E : XK) (scope : Scope) (f c' : Addr) : Cx :=
  { lamCx X A outer s H E scope f c' with xe := fun e s' => wpAny (model X.prog X.w) (A.deeper (lamEnv X scope s.heap.objs.size f c')) (leaving (lamEnv X scope s.heap.objs.size f c') e) (fun _ s'' => L2N.CX X.prog X.w outer H s E e s'') (fun e' s'' => L2N.CX X.prog X.w outer H s E e' s'') s' }
theorem inv_lamN {A : Around} {outer : List PySem.Env} {s s1 : Shared} {H H1 : Hp} {E : XK} {scope : Scope} {f c' : Addr} {pins : List (Addr × Obj)} {σ : L2.St} (I : Inv (lamCx X A outer s H E scope f c') pins σ H1 s1) : Inv (lamN X A outer s H E scope f c') pins σ H1 s1 :=
  let o := I.ok
  ⟨⟨o.mod, o.kind, o.glob, o.blt, o.above, o.inj, o.has, o.cab, o.hd, o.frames, o.stk, o.exf, o.bs, o.bsz, o.noex, o.exfs, o.funs, o.frf⟩, I.os, I.bare, I.base, I.loc, I.cell, I.free, I.freeC, I.pin, I.hok, I.len⟩
theorem pe_actN {pins : List (Addr × Obj)} {σ : L2.St} {H : Hp} {s : Shared} {CXg : CXT} {Eg : XK} {Ng : List Str} {qg : Str} {sg : Scope} {g f c' : Addr} {cdg pm ctv : Value} {params : Arguments} {body : Expr} {scope : Scope} {k i : Nat} {a : Str} {pn : List (Addr × Obj)} {xe : Value → Shared → Prop} {W : WX} {E : XK} {tb : TE} {p1 p2 : Pos}
    (I : Inv X pins σ H s) (L : LamS X.env.scope scope) (hf : s.heap.get? f = some (PySem.W.kla_obj "<lambda>" (X.env.qual ++ "<lambda>") params body scope (cloFrom X.env.cells scope.names []) pm c' ctv)) (hfn : H f = none) (hfr : f ∉ frs X.stack)
    (hbind : bindArgs (PySem.W.kla_fn "<lambda>" (X.env.qual ++ "<lambda>") params body scope (cloFrom X.env.cells scope.names []) pm (.ref c') ctv) ⟨[], []⟩ = pure []) (tk : L2N.Takes ((cxOf CXg X.prog X.w X.K X.mg X.base Ng qg sg g cdg X.A X.stack s H Eg).tr pn xe) W) (hW : ∀ cls d σ' H', E cls d H' → W cls d σ' H')
    (hr : Room (k + 1) (X.A.deeper (envOfC qg sg s.heap.objs.size g cdg))) (hbody : ∀ (A : Around) (outer : List PySem.Env) (s : Shared) (H : Hp), Room k (A.deeper (lamEnv X scope s.heap.objs.size f c')) → PE (lamN X A outer s H E scope f c') body tb)
    (hN : Ng[i]? = some a) (hv : Vis sg a) (hd : (a == ("__debug__" : Str)) = false := by decide) (hcd : (a == ("__classdict__" : Str)) = false := by decide) :
    PE ((cxOf CXg X.prog X.w X.K X.mg X.base Ng qg sg g cdg X.A X.stack s H Eg).tr pn xe) (.Call (.Name a p1) [] [] p2) (fun σZ HZ Q => σZ[i]? = some (some (.ref f)) ∧ HZ c' = some (CodeO c' (X.env.qual ++ "<lambda>")) ∧ tb σ HZ Q) := by
  refine ⟨fun pinsZ sZ σZ HZ Q IZ ⟨hs, hc, ht⟩ => ?_⟩
  refine wpAny_Call_Name_kw (thn ((pe_var (pos := p1) (i := i) hN hv hd hcd).run pinsZ sZ σZ HZ (fun v H1 => v = .ref f ∧ H1 = HZ) IZ ⟨.ref f, hs, rfl, rfl⟩) fun u s1 ⟨v, H1, I1, r1, ev, eH⟩ => ?_)
  subst ev eH; obtain rfl : u = Value.ref f := r1
  have of1 := I1.base.keep f _ hf hfn hfr (fun z => nomatch (show f ∈ ([] : List Addr) from z))
  refine PySem.W.callWith_F0 ⟨_, _, _, _, of1⟩ ?_; obtain ⟨⟨oc, vs, t, hoc, hdc, hvc⟩, _, _⟩ := I1.hok c' _ hc
  have rc : codeAny (model X.prog X.w) (X.A.deeper (envOfC qg sg s.heap.objs.size g cdg)) (.call (.ref f) ⟨[], []⟩) (CR (L2N.CX X.prog X.w) (envOfC qg sg s.heap.objs.size g cdg :: X.stack) X.prog X.w H1 s1 Q E) s1 := by
    refine PySem.W.kla_callFunE hr.depth of1 rfl L.co L.gen rfl ⟨c', oc, vs, t, rfl, hoc, hdc, hvc⟩ ?_; rw [hbind]
    refine wpAny_pure (wpAny_newFunctionEnv (fun y hy => (L.own y hy).2) (fun y hy => absurd hy (by simp)) (fun h₁ hns hsb => ⟨I1.nolimit.fresh _ hsb, ?_⟩) L.kind); show codeAny _ _ (.expr body (lamEnv X scope s1.heap.objs.size f c')) _ _
    have kp : ∀ b o, s1.heap.get? b = some o → h₁.get? b = some o := fun b o e => hsb.extBut b o (Nat.ne_of_lt (Heap.lt_size e)) (Heap.get?_push_of_some _ e)
    have J := inv_lamN (LamX.lam_start2 (E := E) (f := f) (c' := c') (tk := s1.toks + ([] : List (Str × Value)).length) I L I1.env0 hr.hd I1.base hns kp)
    refine PySem.W.kla_codeExpr (wpAny_mono ((hbody _ _ s1 H1 (hr.deeper _)).run [] _ _ H1 Q J ht) (fun v s' ⟨w', H', J', rv, q⟩ => ⟨w', H', J'.os, J'.bare, J'.base, J'.hok, rv, q⟩) fun e s' hq => hq)
  have hx : Passes (L2N.CX X.prog X.w) ((cxOf CXg X.prog X.w X.K X.mg X.base Ng qg sg g cdg X.A X.stack s H Eg).tr pn xe) E := L2N.passes_call tk hW
  refine wpAny_call (codeAny_mono rc fun rr s' hq => ?_)
  match rr, hq with
  | .error e, hq => exact hx pinsZ σZ H1 s1 e s' I1 hq
  | .ok (.ret u), hq => exact I1.after hq
  | .ok .next, hq => exact False.elim hq
  | .ok .brk, hq => exact False.elim hq
  | .ok .cont, hq => exact False.elim hq
end
end Dl
namespace Dl
open PySem PySem.Spec L2 PyProof.Rows HotX
open LamX (ExtN Tabs CodeO LamS TabB lamEnv lamCx)
/-! ### told(lambda: ..): the value, or the word of what was raised -/
def fTold (ws : List Str) (f : Env → R D) : Env → R D := fun ρ => match f ρ with
  | .ok d => .ok d
  | .err c => if c ∈ ws then .ok (.str c) else .bad
  | .bad => .bad
/-- the body of the def that tells -/
def toldBody (p1 p2 p3 p4 p5 p6 p7 p8 p9 p10 : Pos) : List Stmt :=
  [.Try [.Return (some (.Call (.Name "deed" p1) [] [] p2)) p3] [.ExceptHandler (some (.Name "BeltError" p4)) (some "e") [.Return (some (.Call (.Name "_law_word" p5) [.Name "e" p6] [] p7)) p8] p9] [] [] p10]
/-- what is known of it, of the def that names exceptions, of the classes -/
structure Told (P : Program) (w : World) (K : PySem.W.Frag) (mg : Str → Option Value) (base : Heap) (T : List (Addr × Str)) (k : Nat) (ws : List Str) : Prop where
  ex : ∃ (st : Stmt) (g fw CS : Addr) (fd fdw : FuncData) (p1 p2 p3 p4 p5 p6 p7 p8 p9 p10 : Pos), Fun K "_law_told" "_law_told" st g fd ∧ mg "_law_told" = some (.ref g) ∧ Binds K fd ["deed"] [] ∧ defBody st = toldBody p1 p2 p3 p4 p5 p6 p7 p8 p9 p10 ∧ FnScope ["deed", "e"] ["deed"] (defScope st) ∧
    (defScope st).names.lookup ("deed" : Str) = some .local ∧ (defScope st).names.lookup ("e" : Str) = some .local ∧ (defScope st).names.lookup ("BeltError" : Str) = some .globalImplicit ∧ (defScope st).names.lookup ("_law_word" : Str) = some .globalImplicit ∧
    mg "_law_word" = some (.ref fw) ∧ PySem.W.keepIn K (.ref fw) = true ∧ Binds K fdw ["e"] [] ∧ mg "BeltError" = some (.ref CS) ∧
    ∀ c ∈ ws, ∃ C, mg c = some (.ref C) ∧ PySem.W.exmOne K (.ref C) (.ref CS) = some true ∧ WordOk P w K mg base T k fw fdw ["e"] C c
section
variable {X : Cx} {T : List (Addr × Str)} {E : XK} {ws : List Str}
/-- what an exception of the lambda is to be -/
def eTold (mg : Str → Option Value) (T : List (Addr × Str)) (ws : List Str) (Q : VK) : XK := fun cls d H => ∃ (c : Str) (b0 : Hs), c ∈ ws ∧ mg c = some cls ∧ d = none ∧ b0.h = H ∧ Wf T b0 ∧ ∀ b, Up T b0 b → Q (.str c) b.h
theorem e_told {k : Nat} {c P : Addr} {params : Arguments} {body : Expr} {scope : Scope} {f : Env → R D} {p lpos pos : Pos} (tl : Told X.prog X.w X.K X.mg X.base T k ws) (hg : Gl X "_law_told") (TB : TabB X.base X.mg c P) (hcode : X.env.code = .ref c) (hmT : (P, X.env.qual ++ "<lambda>") ∈ T)
    (hu : ∀ p ∈ T, p.1 = P → p.2 = X.env.qual ++ "<lambda>") (hr : Room (k + 2) X.A) (L : LamS X.env.scope scope) (hdef : defaultsOf params X.env = ([], [])) (hbind : ∀ (q : Str) (cl : List (Str × Addr)) (pm cv ctv : Value), bindArgs (PySem.W.kla_fn "<lambda>" q params body scope cl pm cv ctv) ⟨[], []⟩ = pure [])
    (hbody : ∀ (A : Around) (outer : List PySem.Env) (s : Shared) (H : Hp) (E' : XK) (fa c' : Addr), Room k (A.deeper (lamEnv X scope s.heap.objs.size fa c')) → ED (lamN X A outer s H E' scope fa c') T E' body f) :
    ED X T E (.Call (.Name "_law_told" p) [.Lambda params body scope lpos] [] pos) (fTold ws f) := by
  obtain ⟨st, g, fw, CS, fd, fdw, p1, p2, p3, p4, p5, p6, p7, p8, p9, p10, F, hm, hb, hbo, Sg, n1, n2, n3, n4, hmw, hkw, hbw, hme, hws⟩ := tl.ex
  obtain ⟨oc, od, kV, doc, pm, an, cdv, ct, osl, efd, lk, hcg⟩ := F.ex
  subst efd
  refine ⟨fun pins s σ H Q I h => ?_⟩
  obtain ⟨hs, ρ, e0, wf, sl, W⟩ := h
  subst e0
  refine wpAny_Call_Name_kw (ld_glob I hg hm ?_ (by decide))
  refine PySem.W.callWith_K (h₀ := X.base) I.ok.mod.kin F.kp ?_ (by rfl) (by rfl)
  show wpAny _ _ (spliced ((false, eval (.Lambda params body scope lpos) X.env) :: backTo pos (starEach [] X.env))) _ _ s
  refine Calls.spliced_cons (LamX.lam_make2 I TB hcode hmT hu wf.tabs hdef (L.has I.ok) fun fa c' pm' ctv H1 s' I1 eN T1 hf hfn hfr hco => Calls.spliced_nil ⟨I1.kIn, ?_⟩)
  have wf1 : Wf T ⟨hs.f, H1⟩ := ⟨wf.sub.trans eN, wf.nt, T1⟩
  have u1 : Up T hs ⟨hs.f, H1⟩ := ⟨ExtN.refl _, eN, fun _ h _ => h, wf1⟩
  have tb : tD rE X.mg T (eTold X.mg T ws Q) f σ H1 Q := by
    refine ⟨⟨hs.f, H1⟩, ρ, rfl, wf1, sl, ?_⟩
    unfold fTold at W
    cases q : f ρ with
    | ok d => rw [q] at W; exact Wg.up u1 W
    | bad => rw [q] at W; exact W.elim
    | err cn =>
      rw [q] at W
      by_cases hc : cn ∈ ws
      · have W : Wg rE X.mg T E hs (if cn ∈ ws then .ok (.str cn) else .bad) Q := W
        rw [if_pos hc] at W
        obtain ⟨C, hC, _⟩ := hws cn hc
        exact ⟨.ref C, hC, fun b ub => ⟨cn, b, hc, hC, rfl, rfl, ub.wf, fun b2 ub2 => W (.str cn) b2 (u1.trans (ub.trans ub2)) (.str cn)⟩⟩
      · have W : Wg rE X.mg T E hs (if cn ∈ ws then .ok (.str cn) else .bad) Q := W
        rw [if_neg hc] at W
        exact W.elim
  have rc : codeAny (model X.prog X.w) X.A (.call (.ref g) ⟨[.ref fa], []⟩) (CR C8.CX0 X.stack X.prog X.w H1 s' Q C8.E0) s' := by
    refine LamX.run_ofS (N := ["deed", "e"]) (ps := ["deed"]) (us := [.ref fa]) (vs := [.ref fa]) lk hcg Sg hr I1.env0 (hb s' [.ref fa] I1.kIn rfl) (.cons rfl .nil) rfl fun hr' => ?_
    rw [hbo]
    refine ⟨_, (pss_one (L2N.ps_try_as (X := (cxOf C8.CX0 X.prog X.w X.K X.mg X.base ["deed", "e"] "_law_told" (defScope st) g cdv X.A X.stack s' H1 C8.E0).nox) (c := .ref CS) (i := 1) (Wout := fun _ _ _ _ => False)
      (tb := fun W D σ' H' => ∃ Ech : XK, (∀ cls d σ2 H2, Ech cls d H2 → W cls d σ2 H2) ∧ σ'[0]? = some (some (.ref fa)) ∧ H' c' = some (CodeO c' (X.env.qual ++ "<lambda>")) ∧ tD rE X.mg T Ech f σ H' D.rt)
      (ts := fun a cls d D σ' H' => (1 < σ'.length → σ'[1]? = some (some (.ref a))) ∧ eTold X.mg T ws D.rt cls d H')
      rfl rfl Sg.nd rfl n2 ⟨n3, by decide, .inl hme⟩ (fun _ _ x => by obtain ⟨_, _, _, _, _, _, _, _, _, _, _, _, _, _, _, _, z⟩ := x; exact z.elim) (fun W pn xe tk _ => ?_) (fun a oe cls d pn hz hfl => ?_))).nox, ?_⟩
    · refine ⟨fun pins2 s2 σ2 H2 D2 I2 ⟨Ech, hW, h1, h2, h3⟩ => ?_⟩
      exact (pss_one (ps_ret (pos := p3) (pe_actN (CXg := C8.CX0) (Eg := C8.E0) (i := 0) (p1 := p1) (p2 := p2) (tb := tD rE X.mg T Ech f) I1 L hf hfn hfr (hbind _ _ _ _ _) tk hW hr' (fun A outer s H hr2 => hbody A outer s H Ech fa c' hr2) rfl (.inl n1)))).run pins2 s2 σ2 H2 D2 I2 ⟨h1, h2, h3⟩
    · refine ⟨fun pins2 s2 σ2 H2 D2 I2 ⟨h1, cn, b0, hc, hC, hd, hH, hwf, hq⟩ => ?_⟩
      obtain ⟨C, hC', _, wd⟩ := hws cn hc
      have ec : cls = .ref C := by rw [hC'] at hC; exact (Option.some.inj hC).symm
      subst ec hd
      exact (pss_one (ps_ret (pos := p8) (pe_word (X := (cxOf C8.CX0 X.prog X.w X.K X.mg X.base ["deed", "e"] "_law_told" (defScope st) g cdv X.A X.stack s' H1 C8.E0).nox) (T := T) (x := "_law_word") (n := "e") (q := p5) (q2 := p6) (pos := p7) (i := 1) wd hbw hz hfl (hr'.mono (Nat.le_succ k)) n4 hmw hkw rfl (.inl n2)))).run pins2 s2 σ2 H2 D2 I2 ⟨h1 (by rw [I2.len]; exact (by decide : 1 < 2)), b0, hH, hwf, hq⟩
    · refine ⟨eTold X.mg T ws Q, fun cls d σ2 H2 h2 => ?_, rfl, hco, tb⟩
      obtain ⟨cn, b0, hc, hC, hd, hH, hwf, hq⟩ := id h2
      obtain ⟨C, hC', hex, _⟩ := hws cn hc
      have ec : cls = .ref C := by rw [hC'] at hC; exact (Option.some.inj hC).symm
      subst ec
      exact ⟨true, hex, fun _ a ha => ⟨fun hl => List.getElem?_set_self (by rwa [List.length_set] at hl), h2⟩, fun z => by cases z⟩
  refine wpAny_call (codeAny_mono rc fun rr s2 hq => ?_)
  match rr, hq with
  | .error e, hq => exact (show False from hq).elim
  | .ok (.ret u), hq => exact I1.after hq
  | .ok .next, hq => exact False.elim hq
  | .ok .brk, hq => exact False.elim hq
  | .ok .cont, hq => exact False.elim hq
end
end Dl
namespace Dl
open PySem PySem.Spec L2 PyProof.Rows
open LamX (ExtN Tabs CodeO LamS TabB lamEnv lamCx TabS)
/-- the name of a lambda made in the def q -/
abbrev lamQ (q : Str) : Str := q ++ ".<locals>." ++ "<lambda>"
theorem pe_intB {X : Cx} {i : Nat} {tx : Str} {p1 p2 p3 : Pos} (hg : Gl X "int") (hm : X.mg "int" = none) (hN : X.N[i]? = some tx) (hv : Vis X.env.scope tx) (hd : (tx == ("__debug__" : Str)) = false := by decide) (hcd : (tx == ("__classdict__" : Str)) = false := by decide)
    (he : starEach [.Name tx p2] X.env = (false, eval (.Name tx p2) X.env) :: starEach [] X.env := by rfl) (hpl : (backTo p3 (starEach [] X.env)).any (·.1) = false := by rfl) : PE X (.Call (.Name "int" p1) [.Name tx p2] [] p3) (fun σ H Q => ∃ b, σ[i]? = some (some (.bl b)) ∧ Q (.int (if b then 1 else 0)) H) :=
  pe_w (pe_callTy call_int1 hg hm (by decide +kernel) (pa_cons (pe_var hN hv hd hcd) pa_nil he) (by decide) (by decide) he hpl) fun σ H Q ⟨b, h1, h2⟩ => ⟨.bl b, h1, .inr ⟨b, rfl, h2⟩⟩
/-! ### defs that make lambdas -/
section
variable {P : Program} {w : World} {K : PySem.W.Frag} {mg : Str → Option Value} {base : Heap} {T : List (Addr × Str)}
theorem okL {x qual : Str} {st : Stmt} {f c : Addr} {fd : FuncData} {N ps : List Str} {k : Nat} {sp : Sp} (F : Fun K x qual st f fd) (hc : fd.code = .ref c) (S : FnScope N ps (defScope st)) (len : ∀ vs H Q E, sp vs H Q E → vs.length = ps.length) (hbody : ∀ (A : Around) (outer : List PySem.Env) (s : Shared) (H : Hp) (vs : List V) (Q : VK) (E : XK), Room k (A.deeper (envOfC qual (defScope st) s.heap.objs.size f (.ref c))) → sp vs H Q E →
    ∃ t, PSs (cxOf (L2N.CX P w) P w K mg base N qual (defScope st) f (.ref c) A outer s H E) (defBody st) t ∧ t { nx := fun _ H' => Q .non H', rt := Q } (L2.start N vs) H) : FnOk P w K mg base (L2N.CX P w) (k + 1) f fd ps sp := by
  obtain ⟨oc, od, kV, doc, pm, an, cdv, ct, osl, e, lk, hcd⟩ := F.ex
  subst e
  have hc : cdv = .ref c := hc
  subst hc
  exact fn_of lk hcd S len fun A outer s H vs Q E hr hsp => hbody A outer s H vs Q E hr hsp
theorem fn_mkL {x qual : Str} {st : Stmt} {f c : Addr} {fd : FuncData} {N ps : List Str} {k : Nat} {g : Env → Fl} (F : Fun K x qual st f fd) (hc : fd.code = .ref c) (S : FnScope N ps (defScope st)) (hm : mg x = some (.ref f)) (hb : Binds K fd ps [])
    (hbody : ∀ (A : Around) (outer : List PySem.Env) (s : Shared) (H : Hp) (E : XK), Room k (cxOf (L2N.CX P w) P w K mg base N qual (defScope st) f (.ref c) A outer s H E).A →
      SsD (cxOf (L2N.CX P w) P w K mg base N qual (defScope st) f (.ref c) A outer s H E) T E (defBody st) g) : Fn P w K mg base T x (k + 1) (runB ps.length N.length g) := by
  refine ⟨f, fd, ps, okL F hc S (fun vs H Q E h => ?_) (fun A outer s H vs Q E hr h => ?_), hm, F.kp, hb⟩
  · obtain ⟨s, ds, rfl, wf, hd, W⟩ := h
    unfold runB at W
    obtain ⟨hn, W⟩ := wg_if W
    rw [dpAll_len hd, hn]
  · exact ⟨_, hbody A outer s H E hr, body_w h⟩
theorem fn_mkXL {x qual : Str} {st : Stmt} {f c : Addr} {fd : FuncData} {N ps : List Str} {k : Nat} {m : List D → R D} {g : Env → Fl} (F : Fun K x qual st f fd) (hc : fd.code = .ref c) (S : FnScope N ps (defScope st)) (hm : m = runB ps.length N.length g)
    (hbody : ∀ (A : Around) (outer : List PySem.Env) (s : Shared) (H : Hp) (E : XK), Room k (cxOf (L2N.CX P w) P w K mg base N qual (defScope st) f (.ref c) A outer s H E).A →
      SsD (cxOf (L2N.CX P w) P w K mg base N qual (defScope st) f (.ref c) A outer s H E) T E (defBody st) g) : FnOk P w K mg base (L2N.CX P w) (k + 1) f fd ps (spD mg T m) := by
  subst hm
  refine okL F hc S (fun vs H Q E h => ?_) (fun A outer s H vs Q E hr h => ⟨_, hbody A outer s H E hr, body_w h⟩)
  obtain ⟨s, ds, rfl, wf, hd, W⟩ := h
  unfold runB at W
  obtain ⟨hn, W⟩ := wg_if W
  rw [dpAll_len hd, hn]
end
section
variable {X : Cx}
theorem takesLam {A : Around} {outer : List PySem.Env} {s : Shared} {H : Hp} {E : XK} {scope : Scope} {fa c' : Addr} : L2N.Takes (lamN X A outer s H E scope fa c') (fun cls d _ H => E cls d H) := L2N.takes_of rfl rfl rfl rfl
theorem passLam {A : Around} {outer : List PySem.Env} {s : Shared} {H : Hp} {E : XK} {scope : Scope} {fa c' : Addr} : Passes (L2N.CX (lamN X A outer s H E scope fa c').prog (lamN X A outer s H E scope fa c').w) (lamN X A outer s H E scope fa c') E := L2N.passes_call takesLam fun _ _ _ _ h => h
end
theorem cx_noN {P : Program} {w : World} {outer : List PySem.Env} {H : Hp} {s : Shared} {e : Value} {s' : Shared} (h : L2N.CX P w outer H s (fun _ _ _ => False) e s') : False := by
  obtain ⟨_, _, _, _, _, _, _, _, _, _, _, _, z⟩ := h
  exact z
/-- in a block nothing is raised -/
theorem passN {X : Cx} : Passes (L2N.CX X.prog X.w) X E0 := fun _ _ _ _ _ _ _ h => (cx_noN h).elim
/-! ### the end of a row with tables -/
theorem law_endT {K : PySem.W.Frag} {f : List D → R D} {n : Nat} {T : List (Addr × Str)} {cs : List (Addr × Addr)} (hT : ∀ p ∈ T, p.1 ∈ cs.map (·.2)) (hf : ∀ ns : List Int, ns.length ≤ n → f [.list (ns.map PyData.int)] = .ok (.bool true)) (nl : noList K = true) {H : Hp} {a : Addr} {ns : List Int} (hl : ns.length ≤ n)
    (hO : ∀ p ∈ cs, H p.2 = some (.tbl #[])) (hS : SqL K H a (ns.map V.int)) : spL T f [.ref a] H (fun v _ => v = .bl true) fun _ _ _ => False := by
  let f0 : Hp := fun b => match H b with
    | some (.tbl _) => none
    | o => o
  have e1 : ∀ b o, f0 b = some o → H b = some o := fun b o h => by
    show H b = some o
    have h : (match H b with | some (.tbl _) => none | o => o) = some o := h
    split at h
    · cases h
    · exact h
  have e2 : ∀ b o, H b = some o → (∀ ps, o ≠ .tbl ps) → f0 b = some o := fun b o h hn => by
    show (match H b with | some (.tbl _) => none | o => o) = some o
    rw [h]
    split
    · rename_i ps q
      exact absurd (Option.some.inj q) (hn ps)
    · rfl
  rcases hS with h | ⟨o, its, m, hk, hc, _⟩
  · refine ⟨⟨f0, H⟩, [.list (ns.map PyData.int)], .bool true, rfl, ⟨fun b o h _ => e1 b o h, fun p ps z => ?_, fun p hp => ?_⟩, .cons (.lst ?_ (dpAll_of_ints ns)) .nil, hf ns hl, fun v b ub hv => ?_⟩
    · have z : f0 p = some (.tbl ps) := z
      have := e1 p _ z
      have z : (match H p with | some (.tbl _) => none | o => o) = some (.tbl ps) := z
      rw [this] at z
      cases z
    · obtain ⟨q, hq, e⟩ := List.mem_map.mp (hT p hp)
      exact TabS.nil (by rw [← e]; exact hO q hq)
    · rcases h with h | ⟨o, h⟩
      · exact .inl (e2 a _ h fun ps z => by cases z)
      · exact .inr ⟨o, e2 a _ h fun ps z => by cases z⟩
    · cases hv
      rfl
  · exact absurd hc (noList_of nl hk)
/-- the tables of the defs in xs are empty -/
def TabsAt (K : PySem.W.Frag) (mg : Str → Option Value) (h : Heap) (xs : List Str) : Prop := ∀ x ∈ xs, ∀ (fa c P : Addr) (o : Obj) (fd : FuncData), mg x = some (.ref fa) → K.lookup fa = some o → o.data = .func fd → fd.code = .ref c → PySem.W.codeHdIn K c P = true → h.get? P = some { cls := .none, data := .fields #[] }
theorem walk_ofD {l : PySem.W.OpenLaw} {n k : Nat} {q : Program} {loose : List Str} {XP : (Str → Option Value) → Heap → Prop} {YP : World → Heap → Prop} {d : DefRec} {K : Params → PySem.W.Frag} {CX : World → CXT} {x : Str} (xs : List Str)
    (hn : l.most = some n) (hn2 : n ≤ sizeLine) (hdf : d.params.defaults = []) (hr : Room k callerA) (hrec : (xs.all fun x => (recsOf q).any fun e => e.name == x) = true) (hY : ∀ (w : World) (h : Heap), YP w h → (K w.params).In h)
    (F : ∀ (w : World) (mg : Str → Option Value) (fa : Addr) (h : Heap), (K w.params).In h → h.Ns mainGlobals mg → mg d.name = some (.ref fa) → TabsAt (K w.params) mg h xs → LamX.LawAtS l w (K w.params) (CX w) k n x mg fa h)
    (hCX : ∀ (w : World) (H : Hp) (s : Shared) (e : Value) (s' : Shared), CX w [] H s (fun _ _ _ => False) e s' → False) : PySem.W.WalkO q loose XP YP l.row.toRowW d [] (fun f vs => PySem.call f vs) := by
  refine Att.attach_callB hn hdf fun w s₀ s₁ mg mb fa o pm cd doc a vs ns G Y ho hd hcd hmg hobj hints hlen hbits hg => ?_
  have KX := hY w _ Y
  have tabs : TabsAt (K w.params) mg s₁.heap xs := fun y hy f1 c P o1 fd1 k1 k2 k3 k4 k5 => by
    obtain ⟨dL, hm, hn1⟩ := List.any_eq_true.mp (List.all_eq_true.mp hrec y hy)
    obtain ⟨a', o', fd', c', P', h1, h2, h3, h4, _, ⟨oc, vc, g1, _, g3, g4⟩, hP⟩ := G.T.tab dL hm
    rw [beq_iff_eq.mp hn1, k1] at h1
    cases h1
    have e1 := KX _ _ k2
    rw [e1] at h2; cases h2; rw [k3] at h3; cases h3; rw [k4] at h4; cases h4
    obtain ⟨ob, vb, _, _, _, _, _, _, _, b1, _, b3, b4, _⟩ := PySem.W.codeHd_of_K KX k5
    rw [g1] at b1; cases b1; rw [g3] at b3; cases b3; rw [g4] at b4; cases b4
    exact hP
  obtain ⟨fd, cs, sp, hT, nT, C, hb, hsp, hF⟩ := F w mg fa _ KX G.T.g hmg tabs
  exact LamX.law_callTs KX G.T.g G.T.b G.T.builtins G.T.nolimit hg hT nT C G.T.bmain hobj hints (Nat.le_trans hlen hn2) hr hF hb (fun H hH hS => hsp H a ns hlen hbits hH hS) fun H e s' => hCX w H s₁ e s'
end Dl
namespace Dl
open PySem PySem.Spec L2 PyProof.Rows
section
variable {X : Cx} {T : List (Addr × Str)} {E : XK} {pos : Pos}
/-- a, b, c = x, [], [] -/
def sPar3L (i j l : Nat) (f : Env → R D) : Env → Fl := fun ρ => thenF (f ρ) fun d => if i < ρ.length ∧ j < ρ.length ∧ l < ρ.length then .next (((ρ.set i (.dat d)).set j (.own [])).set l (.own [])) else .bad
theorem s_par3L {i j l : Nat} {x y z : Str} {a : Expr} {f : Env → R D} {px py pz pt pb pc : Pos} {kt k2 pt2} (hc : X.calm = true) (hN : X.N.Nodup) (ha : ED X T E a f) (hij : i ≠ j := by decide) (hil : i ≠ l := by decide) (hjl : j ≠ l := by decide) (hi : X.N[i]? = some x := by rfl) (hj : X.N[j]? = some y := by rfl) (hl : X.N[l]? = some z := by rfl)
    (hx : X.env.scope.names.lookup x = some .local := by rfl) (hy : X.env.scope.names.lookup y = some .local := by rfl) (hz : X.env.scope.names.lookup z = some .local := by rfl)
    (h1 : starEach [a, .List [] pb, .List [] pc] X.env = (false, eval a X.env) :: starEach [.List [] pb, .List [] pc] X.env := by rfl) (h2 : starEach [.List [] pb, .List [] pc] X.env = (false, eval (.List [] pb) X.env) :: starEach [.List [] pc] X.env := by rfl) (h3 : starEach [.List [] pc] X.env = (false, eval (.List [] pc) X.env) :: starEach [] X.env := by rfl)
    (hw : swappedStores [.Tuple [.Name x px, .Name y py, .Name z pz] kt pt] (.Tuple [a, .List [] pb, .List [] pc] k2 pt2) X.env = pure (some [x, y, z]) := by rfl)
    (hs : swapsWithSole [.Tuple [.Name x px, .Name y py, .Name z pz] kt pt] (.Tuple [a, .List [] pb, .List [] pc] k2 pt2) pos.line X.env = pure false := by rfl) :
    SD X T E (.Assign [.Tuple [.Name x px, .Name y py, .Name z pz] kt pt] (.Tuple [a, .List [] pb, .List [] pc] k2 pt2) pos) (sPar3L i j l f) := by
  refine ps_w (ps_par3 hc hN hi hj hl hij hil hjl hx hy hz (pa_cons ha (pa_cons (pe_lst pa_nil) (pa_cons (pe_lst pa_nil) pa_nil h3) h2) h1) hw hs) ?_
  rintro Dn σ H ⟨b0, ρ, r, W⟩
  refine st_w (rep := rE) r W fun v d fz H' r' hv _ W' => ?_
  by_cases hcc : i < ρ.length ∧ j < ρ.length ∧ l < ρ.length
  · rw [if_pos hcc] at W'
    refine ⟨Nat.zero_le _, fun A1 hA1 => ⟨Nat.zero_le _, fun A2 hA2 => ⟨v, .ref A1, .ref A2, rfl, W' _ _ ⟨fz, ?_⟩⟩⟩⟩
    have r1 := r'.set1 hcc.1 hv
    have r2 := r1.take (i := j) (by rw [List.length_set]; exact hcc.2.1) hA1 .nil
    exact r2.take (i := l) (by rw [List.length_set, List.length_set]; exact hcc.2.2) hA2 .nil
  · rw [if_neg hcc] at W'
    exact W'.elim
end
end Dl
namespace Bl
open PySem L2 Dl
/-! ### evaluation of mirrors -/
@[simp] theorem bnd_ok {α β : Type} (a : α) (f : α → R β) : (R.ok a).bnd f = f a := id rfl
@[simp] theorem bnd_err {α β : Type} (c : Str) (f : α → R β) : (R.err c : R α).bnd f = .err c := id rfl
@[simp] theorem then_ok {α : Type} (a : α) (f : α → Fl) : thenF (R.ok a) f = f a := id rfl
@[simp] theorem then_err {α : Type} (c : Str) (f : α → Fl) : thenF (R.err c : R α) f = .err c := id rfl
@[simp] theorem fVar0 (d : D) (ρ : Dl.Env) : fVar 0 (.dat d :: ρ) = .ok d := id rfl
@[simp] theorem fVarS (i : Nat) (s : Slot) (ρ : Dl.Env) : fVar (i + 1) (s :: ρ) = fVar i ρ := id rfl
@[simp] theorem fC_e (d : D) (ρ : Dl.Env) : fC d ρ = .ok d := id rfl
@[simp] theorem fOp_e (g : D → D → R D) (fa fb : Dl.Env → R D) (ρ : Dl.Env) : fOp g fa fb ρ = (fa ρ).bnd fun x => (fb ρ).bnd fun y => g x y := id rfl
@[simp] theorem fUn_e (g : D → R D) (fa : Dl.Env → R D) (ρ : Dl.Env) : fUn g fa ρ = (fa ρ).bnd g := id rfl
@[simp] theorem asB_e (b : Bool) : asB (.bool b) = .ok b := id rfl
@[simp] theorem asI_e (b : Int) : asI (.int b) = .ok b := id rfl
@[simp] theorem fT_e (f : Dl.Env → R D) (ρ : Dl.Env) : fT f ρ = (f ρ).bnd asB := id rfl
@[simp] theorem fAnd_e (f g : Dl.Env → R Bool) (ρ : Dl.Env) : fAnd f g ρ = (f ρ).bnd fun b => if b = true then g ρ else .ok false := id rfl
@[simp] theorem fOr_e (f g : Dl.Env → R Bool) (ρ : Dl.Env) : fOr f g ρ = (f ρ).bnd fun b => if b = true then .ok true else g ρ := id rfl
@[simp] theorem fNot_e (f : Dl.Env → R Bool) (ρ : Dl.Env) : fNot f ρ = (f ρ).bnd fun b => .ok (!b) := id rfl
@[simp] theorem fAndV_e (f g : Dl.Env → R D) (ρ : Dl.Env) : fAndV f g ρ = (f ρ).bnd fun d => (asB d).bnd fun b => if b = true then g ρ else .ok (.bool false) := id rfl
@[simp] theorem fOrV_e (f g : Dl.Env → R D) (ρ : Dl.Env) : fOrV f g ρ = (f ρ).bnd fun d => (asB d).bnd fun b => if b = true then .ok (.bool true) else g ρ := id rfl
@[simp] theorem fNotV_e (f : Dl.Env → R D) (ρ : Dl.Env) : fNotV f ρ = (f ρ).bnd fun d => (asB d).bnd fun b => .ok (.bool !b) := id rfl
@[simp] theorem fIf_e (t : Dl.Env → R Bool) (f g : Dl.Env → R D) (ρ : Dl.Env) : fIf t f g ρ = (t ρ).bnd fun b => if b = true then f ρ else g ρ := id rfl
@[simp] theorem fChain_e (g g' : D → D → R D) (fa fb fc : Dl.Env → R D) (ρ : Dl.Env) : fChain g g' fa fb fc ρ = (fa ρ).bnd fun x => (fb ρ).bnd fun y => (g x y).bnd fun z => (asB z).bnd fun k => if k = true then (fc ρ).bnd fun w => g' y w else .ok (.bool false) := id rfl
@[simp] theorem aNil_e (ρ : Dl.Env) : aNil ρ = .ok [] := id rfl
@[simp] theorem aCons_e (f : Dl.Env → R D) (g : Dl.Env → R (List D)) (ρ : Dl.Env) : aCons f g ρ = (f ρ).bnd fun x => (g ρ).bnd fun xs => .ok (x :: xs) := id rfl
@[simp] theorem fTup_e (fs : Dl.Env → R (List D)) (ρ : Dl.Env) : fTup fs ρ = (fs ρ).bnd dTup := id rfl
@[simp] theorem fLst_e (fs : Dl.Env → R (List D)) (ρ : Dl.Env) : fLst fs ρ = (fs ρ).bnd dLst := id rfl
@[simp] theorem fCall_e (g : List D → R D) (fs : Dl.Env → R (List D)) (ρ : Dl.Env) : fCall g fs ρ = (fs ρ).bnd g := id rfl
@[simp] theorem dTup_e (ds : List D) (h : ds.length ≤ 16777216) : dTup ds = .ok (.tuple ds) := if_pos h
@[simp] theorem dLst_e (ds : List D) (h : ds.length ≤ 16777216) : dLst ds = .ok (.list ds) := if_pos h
@[simp] theorem gAdd_i (i j : Int) : gAdd (.int i) (.int j) = .ok (.int (i + j)) := id rfl
@[simp] theorem gSub_i (i j : Int) : gSub (.int i) (.int j) = .ok (.int (i - j)) := id rfl
@[simp] theorem gNeg_i (i : Int) : gNeg (.int i) = .ok (.int (-i)) := id rfl
theorem gMul_i (i j : Int) (h : MulOk i j) : gMul (.int i) (.int j) = .ok (.int (i * j)) := if_pos h
theorem gFdiv_i (i j : Int) (h : 0 < j) (h' : j.natAbs < 2 ^ 1000) : gFdiv (.int i) (.int j) = .ok (.int (i / j)) := if_pos ⟨h, h'⟩
theorem gMod_i (i j : Int) (h : 0 < j) : gMod (.int i) (.int j) = .ok (.int (i % j)) := if_pos h
@[simp] theorem gEq_i (i j : Int) : gEq (.int i) (.int j) = .ok (.bool (i == j)) := id rfl
@[simp] theorem gNe_i (i j : Int) : gNe (.int i) (.int j) = .ok (.bool (!(i == j))) := id rfl
@[simp] theorem gLt_i (i j : Int) : gLt (.int i) (.int j) = .ok (.bool (decide (i < j))) := id rfl
@[simp] theorem gLe_i (i j : Int) : gLe (.int i) (.int j) = .ok (.bool (decide (i ≤ j))) := id rfl
@[simp] theorem gGt_i (i j : Int) : gGt (.int i) (.int j) = .ok (.bool (decide (j < i))) := id rfl
@[simp] theorem gGe_i (i j : Int) : gGe (.int i) (.int j) = .ok (.bool (decide (j ≤ i))) := id rfl
@[simp] theorem gIsN_e (d : D) : gIsN d .none = .ok (.bool (isN d)) := id rfl
@[simp] theorem gNotN_e (d : D) : gNotN d .none = .ok (.bool (!isN d)) := id rfl
@[simp] theorem isN_n : isN .none = true := id rfl
@[simp] theorem isN_i (i : Int) : isN (.int i) = false := id rfl
@[simp] theorem isN_t (i : List D) : isN (.tuple i) = false := id rfl
@[simp] theorem isN_l (i : List D) : isN (.list i) = false := id rfl
@[simp] theorem isN_b (i : Bool) : isN (.bool i) = false := id rfl
@[simp] theorem gIsi_e (t : String) (d : D) : gIsi t d = .ok (.bool (isaT (tyD d) t)) := id rfl
@[simp] theorem tyD_n : tyD .none = "NoneType" := id rfl
@[simp] theorem tyD_i (i : Int) : tyD (.int i) = "int" := id rfl
@[simp] theorem tyD_t (i : List D) : tyD (.tuple i) = "tuple" := id rfl
@[simp] theorem tyD_l (i : List D) : tyD (.list i) = "list" := id rfl
@[simp] theorem tyD_b (i : Bool) : tyD (.bool i) = "bool" := id rfl
@[simp] theorem tyD_s (i : Str) : tyD (.str i) = "str" := id rfl
@[simp] theorem isaT_ii : isaT "int" "int" = true := by decide
@[simp] theorem isaT_bi : isaT "bool" "int" = true := by decide
@[simp] theorem isaT_ib : isaT "int" "bool" = false := by decide
@[simp] theorem isaT_bb : isaT "bool" "bool" = true := by decide
@[simp] theorem isaT_tt : isaT "tuple" "tuple" = true := by decide
@[simp] theorem isaT_ll : isaT "list" "list" = true := by decide
@[simp] theorem isaT_tb : isaT "tuple" "bool" = false := by decide
@[simp] theorem isaT_ti : isaT "tuple" "int" = false := by decide
@[simp] theorem isaT_it : isaT "int" "tuple" = false := by decide
@[simp] theorem isaT_bt : isaT "bool" "tuple" = false := by decide
@[simp] theorem isaT_lt : isaT "list" "tuple" = false := by decide
@[simp] theorem isaT_nt : isaT "NoneType" "tuple" = false := by decide
@[simp] theorem isaT_st : isaT "str" "tuple" = false := by decide
@[simp] theorem gLen_l (xs : List D) : gLen [.list xs] = .ok (.int xs.length) := id rfl
@[simp] theorem gLen_t (xs : List D) : gLen [.tuple xs] = .ok (.int xs.length) := id rfl
@[simp] theorem gOne_l (g : List D → R D) (xs : List D) : gOne g [.list xs] = g xs := id rfl
@[simp] theorem gTuple_l (xs : List D) : gTuple [.list xs] = .ok (.tuple xs) := id rfl
@[simp] theorem gTuple_t (xs : List D) : gTuple [.tuple xs] = .ok (.tuple xs) := id rfl
@[simp] theorem gInt_b (b : Bool) : gInt [.bool b] = .ok (.int (if b then 1 else 0)) := id rfl
@[simp] theorem gMin2_e (i j : Int) : gMin2 [.int i, .int j] = .ok (.int (min i j)) := id rfl
@[simp] theorem gMax2_e (i j : Int) : gMax2 [.int i, .int j] = .ok (.int (max i j)) := id rfl
@[simp] theorem fIt_e (f : Dl.Env → R D) (ρ : Dl.Env) : fIt f ρ = (f ρ).bnd items := id rfl
@[simp] theorem items_l (xs : List D) : items (.list xs) = .ok xs := id rfl
@[simp] theorem items_t (xs : List D) : items (.tuple xs) = .ok xs := id rfl
@[simp] theorem fItA_e (g : List D → R (List D)) (fs : Dl.Env → R (List D)) (ρ : Dl.Env) : fItA g fs ρ = (fs ρ).bnd g := id rfl
@[simp] theorem gEnum_e (xs : List D) : gEnum [.list xs] = .ok (enumD xs) := id rfl
@[simp] theorem gZip_t (xs ys : List D) : gZip [.tuple xs, .tuple ys] = .ok (zipD xs ys) := id rfl
@[simp] theorem gNm0 (d : D) (s : Slot) (ρ : Dl.Env) : gNm 0 d (s :: ρ) = some (.dat d :: ρ) := id rfl
@[simp] theorem gNmS (i : Nat) (d : D) (s : Slot) (ρ : Dl.Env) : gNm (i + 1) d (s :: ρ) = (gNm i d ρ).map (s :: ·) := by
  unfold gNm
  simp only [List.length_cons, List.set_cons_succ, Nat.add_lt_add_iff_right]
  split <;> rfl
@[simp] theorem gNil_e (ρ : Dl.Env) : gNil [] ρ = some ρ := id rfl
@[simp] theorem gCons_e (g : D → Dl.Env → Option Dl.Env) (gs : List D → Dl.Env → Option Dl.Env) (d : D) (ds : List D) (ρ : Dl.Env) : gCons g gs (d :: ds) ρ = (g d ρ).bind (gs ds) := id rfl
@[simp] theorem gTp_e (g : List D → Dl.Env → Option Dl.Env) (ds : List D) (ρ : Dl.Env) : gTp g (.tuple ds) ρ = g ds ρ := id rfl
@[simp] theorem wipe0 (ρ : Dl.Env) : wipeE ρ [] = ρ := id rfl
@[simp] theorem wipeS (ρ : Dl.Env) (v : Nat) (vs : List Nat) : wipeE ρ (v :: vs) = (wipeE ρ vs).set v .non := id rfl
@[simp] theorem tYesD_e (ρ : Dl.Env) : tYesD ρ = .ok true := id rfl
@[simp] theorem sNil_e (ρ : Dl.Env) : sNil ρ = .next ρ := id rfl
@[simp] theorem sSeq_n (g g' : Dl.Env → Fl) (ρ ρ' : Dl.Env) (h : g ρ = .next ρ') : sSeq g g' ρ = g' ρ' := by unfold sSeq; rw [h]
theorem sSeq_r (g g' : Dl.Env → Fl) (ρ : Dl.Env) (d : D) (h : g ρ = .ret d) : sSeq g g' ρ = .ret d := by unfold sSeq; rw [h]
theorem sSeq_x (g g' : Dl.Env → Fl) (ρ : Dl.Env) (d : Str) (h : g ρ = .err d) : sSeq g g' ρ = .err d := by unfold sSeq; rw [h]
@[simp] theorem sExpr_e (f : Dl.Env → R D) (ρ : Dl.Env) : sExpr f ρ = thenF (f ρ) fun _ => .next ρ := id rfl
@[simp] theorem sRet_e (f : Dl.Env → R D) (ρ : Dl.Env) : sRet f ρ = thenF (f ρ) fun d => .ret d := id rfl
@[simp] theorem sRaise_e (c : Str) (ρ : Dl.Env) : sRaise c ρ = .err c := id rfl
@[simp] theorem sIf_e (t : Dl.Env → R Bool) (g g' : Dl.Env → Fl) (ρ : Dl.Env) : sIf t g g' ρ = thenF (t ρ) fun b => if b = true then g ρ else g' ρ := id rfl
@[simp] theorem sAsg_e (f : Dl.Env → R D) (gt : D → Dl.Env → Option Dl.Env) (ρ : Dl.Env) : sAsg f gt ρ = thenF (f ρ) fun d => asF (gt d ρ) := id rfl
@[simp] theorem asF_e (ρ : Dl.Env) : asF (some ρ) = .next ρ := id rfl
@[simp] theorem sFor_e (fi : Dl.Env → R (List D)) (gt : D → Dl.Env → Option Dl.Env) (body : Dl.Env → Fl) (ρ : Dl.Env) : sFor fi gt body ρ = thenF (fi ρ) fun ds => forLoop gt body ds ρ := id rfl
@[simp] theorem sOwn0 (s : Slot) (ρ : Dl.Env) : sOwn 0 aNil (s :: ρ) = .next (.own [] :: ρ) := id rfl
@[simp] theorem endF_r (d : D) : endF (.ret d) = .ok d := id rfl
@[simp] theorem endF_n (ρ : Dl.Env) : endF (.next ρ) = .ok .none := id rfl
@[simp] theorem endF_x (c : Str) : endF (.err c) = .err c := id rfl
@[simp] theorem asO_s {α : Type} (a : α) : asO (some a) = .ok a := id rfl
@[simp] theorem fRg1_e (g : Int → Int → R D) (f : Dl.Env → R D) (ρ : Dl.Env) : fRg1 g f ρ = (f ρ).bnd fun d => (asI d).bnd fun n => g 0 n := id rfl
/-! lists built by append: own slots -/
theorem sOwn_e (i : Nat) (ρ : Dl.Env) (h : i < ρ.length) : sOwn i aNil ρ = .next (ρ.set i (.own [])) := by
  show (if i < ρ.length ∧ ([] : List D).length ≤ 16777216 then _ else _) = _
  rw [if_pos ⟨h, Nat.zero_le _⟩]
theorem sApp_e (i : Nat) (f : Dl.Env → R D) (ρ : Dl.Env) (ds : List D) (d : D) (h : ρ[i]? = some (.own ds)) (hf : f ρ = .ok d) (hl : ds.length < 16777216) : sApp i f ρ = .next (ρ.set i (.own (ds ++ [d]))) := by
  unfold sApp
  rw [h]
  show thenF (f ρ) _ = _
  rw [hf]
  exact if_pos hl
theorem frz_e (i : Nat) (ρ : Dl.Env) (ds : List D) (h : ρ[i]? = some (.own ds)) : frz i ρ = ρ.set i (.dat (.list ds)) := by
  unfold frz
  rw [h]
@[simp] theorem sFrz_e (i : Nat) (g : Dl.Env → Fl) (ρ : Dl.Env) : sFrz i g ρ = g (frz i ρ) := id rfl
/-! ### comprehensions and loops -/
def lcOne (g : D → Dl.Env → Option Dl.Env) (tt : Dl.Env → R Bool) (te : Dl.Env → R D) (ρ : Dl.Env) (d : D) : R (Option D) :=
  (asO (g d ρ)).bnd fun ρ' => (tt ρ').bnd fun b => if b = true then (te ρ').bnd fun y => .ok (some y) else .ok none
theorem lc_eq {α : Type} (enc : α → D) {g : D → Dl.Env → Option Dl.Env} {tt : Dl.Env → R Bool} {te : Dl.Env → R D} {ρ : Dl.Env} (f : α → Option D) : ∀ (xs : List α), (∀ x ∈ xs, lcOne g tt te ρ (enc x) = .ok (f x)) → lcLoop g tt te ρ (xs.map enc) = .ok (xs.filterMap f)
  | [], _ => rfl
  | x :: xs, h => by
    have h1 := h x List.mem_cons_self
    have ih := lc_eq enc (g := g) (tt := tt) (te := te) (ρ := ρ) f xs fun y hy => h y (List.mem_cons_of_mem _ hy)
    unfold lcOne at h1
    rw [List.map_cons]
    unfold lcLoop
    cases hg : g (enc x) ρ with
    | none => rw [hg] at h1; cases h1
    | some ρ' =>
      rw [hg] at h1
      show (ne (tt ρ')).bnd _ = _
      have h1 : ((tt ρ').bnd fun b => if b = true then (te ρ').bnd fun y => R.ok (some y) else .ok none) = .ok (f x) := h1
      cases ht : tt ρ' with
      | bad => rw [ht] at h1; cases h1
      | err c => rw [ht] at h1; cases h1
      | ok b =>
        rw [ht] at h1
        have h1 : (if b = true then (te ρ').bnd fun y => R.ok (some y) else .ok none) = .ok (f x) := h1
        show (if b = true then _ else _) = _
        cases b with
        | false =>
          have h1 : R.ok none = .ok (f x) := h1
          rw [if_neg (by decide), ih]
          have h1 : f x = none := (R.ok.inj h1).symm
          rw [List.filterMap_cons, h1]
        | true =>
          have h1 : ((te ρ').bnd fun y => R.ok (some y)) = .ok (f x) := h1
          rw [if_pos rfl]
          cases hy : te ρ' with
          | bad => rw [hy] at h1; cases h1
          | err c => rw [hy] at h1; cases h1
          | ok y =>
            rw [hy] at h1
            have h1 : f x = some y := (R.ok.inj h1).symm
            show (lcLoop g tt te ρ (xs.map enc)).bnd _ = _
            rw [ih, List.filterMap_cons, h1]
            rfl
theorem fLc_eq {α : Type} (enc : α → D) (f : α → Option D) (xs : List α) {fi : Dl.Env → R (List D)} {g : D → Dl.Env → Option Dl.Env} {tt : Dl.Env → R Bool} {te : Dl.Env → R D} {vs : List Nat} {ρ : Dl.Env} (hi : fi ρ = .ok (xs.map enc)) (hl : xs.length ≤ 16777216) (h : ∀ x ∈ xs, lcOne g tt te (wipeE ρ vs) (enc x) = .ok (f x)) :
    fLc fi g tt te vs ρ = .ok (.list (xs.filterMap f)) := by
  unfold fLc
  rw [hi]
  show (if _ then _ else _) = _
  rw [if_pos (by rw [List.length_map]; exact hl), lc_eq enc f xs h]
  rfl
theorem fLc_map {α : Type} (enc : α → D) (f : α → D) (xs : List α) {fi : Dl.Env → R (List D)} {g : D → Dl.Env → Option Dl.Env} {tt : Dl.Env → R Bool} {te : Dl.Env → R D} {vs : List Nat} {ρ : Dl.Env} (hi : fi ρ = .ok (xs.map enc)) (hl : xs.length ≤ 16777216) (h : ∀ x ∈ xs, lcOne g tt te (wipeE ρ vs) (enc x) = .ok (some (f x))) :
    fLc fi g tt te vs ρ = .ok (.list (xs.map f)) := by
  rw [fLc_eq enc (fun x => some (f x)) xs hi hl h]
  simp
def forOne (gt : D → Dl.Env → Option Dl.Env) (body : Dl.Env → Fl) (d : D) (ρ : Dl.Env) : Fl := match gt d ρ with
  | none => .bad
  | some ρ1 => match body ρ1 with
    | .cont ρ2 => .next ρ2
    | r => r
theorem forLoop_cons {gt : D → Dl.Env → Option Dl.Env} {body : Dl.Env → Fl} {d : D} {ds : List D} {ρ ρ' : Dl.Env} (h : forOne gt body d ρ = .next ρ') : forLoop gt body (d :: ds) ρ = forLoop gt body ds ρ' := by
  unfold forOne at h
  conv => lhs; unfold forLoop
  cases hg : gt d ρ with
  | none => rw [hg] at h; cases h
  | some ρ1 =>
    rw [hg] at h
    have h : (match body ρ1 with | .cont ρ2 => Fl.next ρ2 | r => r) = .next ρ' := h
    show (match body ρ1 with | .next ρ2 => forLoop gt body ds ρ2 | .cont ρ2 => forLoop gt body ds ρ2 | .brk ρ2 => .next ρ2 | .ret d => .ret d | .err c => .err c | .bad => .bad) = _
    cases hb : body ρ1 with
    | next ρ2 => rw [hb] at h; cases h; rfl
    | cont ρ2 => rw [hb] at h; cases h; rfl
    | brk ρ2 => rw [hb] at h; cases h
    | ret d => rw [hb] at h; cases h
    | err c => rw [hb] at h; cases h
    | bad => rw [hb] at h; cases h
theorem forLoop_ret {gt : D → Dl.Env → Option Dl.Env} {body : Dl.Env → Fl} {d v : D} {ds : List D} {ρ : Dl.Env} (h : forOne gt body d ρ = .ret v) : forLoop gt body (d :: ds) ρ = .ret v := by
  unfold forOne at h
  unfold forLoop
  cases hg : gt d ρ with
  | none => rw [hg] at h; cases h
  | some ρ1 =>
    rw [hg] at h
    have h : (match body ρ1 with | .cont ρ2 => Fl.next ρ2 | r => r) = .ret v := h
    show (match body ρ1 with | .next ρ2 => forLoop gt body ds ρ2 | .cont ρ2 => forLoop gt body ds ρ2 | .brk ρ2 => .next ρ2 | .ret d => .ret d | .err c => .err c | .bad => .bad) = _
    cases hb : body ρ1 with
    | next ρ2 => rw [hb] at h; cases h
    | cont ρ2 => rw [hb] at h; cases h
    | brk ρ2 => rw [hb] at h; cases h
    | ret d => rw [hb] at h; cases h; rfl
    | err c => rw [hb] at h; cases h
    | bad => rw [hb] at h; cases h
/-- a loop that runs to its end, with what holds after each turn -/
theorem for_inv {α : Type} (enc : α → D) {gt : D → Dl.Env → Option Dl.Env} {body : Dl.Env → Fl} (I : List α → Dl.Env → Prop) (xs : List α)
    (h : ∀ pre x post ρ, xs = pre ++ x :: post → I pre ρ → ∃ ρ', forOne gt body (enc x) ρ = .next ρ' ∧ I (pre ++ [x]) ρ') {ρ : Dl.Env} (h0 : I [] ρ) : ∃ ρ', forLoop gt body (xs.map enc) ρ = .next ρ' ∧ I xs ρ' := by
  suffices ∀ ys pre ρ, xs = pre ++ ys → I pre ρ → ∃ ρ', forLoop gt body (ys.map enc) ρ = .next ρ' ∧ I xs ρ' from this xs [] ρ rfl h0
  intro ys
  induction ys with
  | nil =>
    intro pre ρ e hi
    rw [List.append_nil] at e
    exact ⟨ρ, rfl, e ▸ hi⟩
  | cons y ys ih =>
    intro pre ρ e hi
    obtain ⟨ρ', h1, h2⟩ := h pre y ys ρ e hi
    obtain ⟨ρ'', h3, h4⟩ := ih (pre ++ [y]) ρ' (by rw [e, List.append_assoc]; rfl) h2
    exact ⟨ρ'', by rw [List.map_cons, forLoop_cons h1]; exact h3, h4⟩
/-- a loop that may end by a return -/
theorem for_find {α : Type} (enc : α → D) {gt : D → Dl.Env → Option Dl.Env} {body : Dl.Env → Fl} (I : Dl.Env → Prop) (f : α → Option D) (xs : List α)
    (h : ∀ x ∈ xs, ∀ ρ, I ρ → match f x with | some d => forOne gt body (enc x) ρ = .ret d | none => ∃ ρ', forOne gt body (enc x) ρ = .next ρ' ∧ I ρ') {ρ : Dl.Env} (h0 : I ρ) :
    match xs.findSome? f with | some d => forLoop gt body (xs.map enc) ρ = .ret d | none => ∃ ρ', forLoop gt body (xs.map enc) ρ = .next ρ' ∧ I ρ' := by
  induction xs generalizing ρ with
  | nil => exact ⟨ρ, rfl, h0⟩
  | cons x xs ih =>
    have h1 := h x List.mem_cons_self ρ h0
    rw [List.findSome?_cons]
    cases hf : f x with
    | some d =>
      rw [hf] at h1
      show forLoop _ _ _ _ = _
      rw [List.map_cons]
      exact forLoop_ret h1
    | none =>
      rw [hf] at h1
      obtain ⟨ρ', h2, h3⟩ := h1
      have := ih (fun y hy => h y (List.mem_cons_of_mem _ hy)) h3
      rw [List.map_cons, forLoop_cons h2]
      exact this
/-- the turns of a loop that only adds to a list -/
theorem forOne_n {gt : D → Dl.Env → Option Dl.Env} {body : Dl.Env → Fl} {d : D} {ρ ρ1 ρ2 : Dl.Env} (h1 : gt d ρ = some ρ1) (h2 : body ρ1 = .next ρ2) : forOne gt body d ρ = .next ρ2 := by
  unfold forOne
  rw [h1]
  show (match body ρ1 with | .cont ρ2 => Fl.next ρ2 | r => r) = _
  rw [h2]
theorem forOne_c {gt : D → Dl.Env → Option Dl.Env} {body : Dl.Env → Fl} {d : D} {ρ ρ1 ρ2 : Dl.Env} (h1 : gt d ρ = some ρ1) (h2 : body ρ1 = .cont ρ2) : forOne gt body d ρ = .next ρ2 := by
  unfold forOne
  rw [h1]
  show (match body ρ1 with | .cont ρ2 => Fl.next ρ2 | r => r) = _
  rw [h2]
theorem forOne_r {gt : D → Dl.Env → Option Dl.Env} {body : Dl.Env → Fl} {d v : D} {ρ ρ1 : Dl.Env} (h1 : gt d ρ = some ρ1) (h2 : body ρ1 = .ret v) : forOne gt body d ρ = .ret v := by
  unfold forOne
  rw [h1]
  show (match body ρ1 with | .cont ρ2 => Fl.next ρ2 | r => r) = _
  rw [h2]
/-! ### numbers -/
abbrev nD (n : Nat) : D := .int (n : Int)
abbrev tN (xs : List Nat) : D := .tuple (xs.map nD)
abbrev lN (xs : List Nat) : D := .list (xs.map nD)
theorem rng_e (n : Nat) (h : n ≤ 1000) : gRng1 [.int n] = .ok ((List.range n).map nD) := by
  have e : gRng1 [.int n] = if -(2 ^ 62) ≤ (n : Int) ∧ (n : Int) < 2 ^ 62 then .ok (rangeD 0 (n : Int).toNat) else .bad := rfl
  rw [e, if_pos ⟨Int.le_trans (b := 0) (by decide) (by omega), Int.lt_of_le_of_lt (b := 1000) (by omega) (by decide)⟩]
  unfold rangeD
  simp
theorem atI_nat {α : Type} (xs : List α) (n : Nat) : atI xs (n : Int) = xs[n]? := by
  unfold atI ixN
  rw [if_pos (by omega)]
  by_cases h : n < xs.length
  · rw [if_pos (by omega)]; rfl
  · rw [if_neg (by omega), List.getElem?_eq_none (by omega)]; rfl
theorem gIx_t (xs : List D) (n : Nat) (x : D) (h : xs[n]? = some x) : gIx (.tuple xs) (nD n) = .ok x := by
  show asO (atI xs (n : Int)) = _
  rw [atI_nat, h]; rfl
theorem gIx_l (xs : List D) (n : Nat) (x : D) (h : xs[n]? = some x) : gIx (.list xs) (nD n) = .ok x := by
  show asO (atI xs (n : Int)) = _
  rw [atI_nat, h]; rfl
@[simp] theorem gIx_t0 (x : D) (xs : List D) : gIx (.tuple (x :: xs)) (.int 0) = .ok x := gIx_t _ 0 _ rfl
@[simp] theorem gIx_t1 (x y : D) (xs : List D) : gIx (.tuple (x :: y :: xs)) (.int 1) = .ok y := gIx_t _ 1 _ rfl
@[simp] theorem gIx_t2 (x y z : D) (xs : List D) : gIx (.tuple (x :: y :: z :: xs)) (.int 2) = .ok z := gIx_t _ 2 _ rfl
@[simp] theorem gIx_l0 (x : D) (xs : List D) : gIx (.list (x :: xs)) (.int 0) = .ok x := gIx_l _ 0 _ rfl
@[simp] theorem gIx_l1 (x y : D) (xs : List D) : gIx (.list (x :: y :: xs)) (.int 1) = .ok y := gIx_l _ 1 _ rfl
@[simp] theorem gIx_l2 (x y z : D) (xs : List D) : gIx (.list (x :: y :: z :: xs)) (.int 2) = .ok z := gIx_l _ 2 _ rfl
theorem asBls_map {α : Type} (f : α → Bool) (xs : List α) : asBls (xs.map fun x => PyData.bool (f x)) = some (xs.map f) := by
  induction xs with
  | nil => rfl
  | cons x xs ih => rw [List.map_cons, List.map_cons]; show (asBls _).map _ = _; rw [ih]; rfl
theorem dAll_map {α : Type} (f : α → Bool) (xs : List α) : dAll (xs.map fun x => PyData.bool (f x)) = .ok (.bool (xs.all f)) := by
  unfold dAll
  rw [asBls_map]
  simp [List.all_map, Function.comp_def]
theorem dAny_map {α : Type} (f : α → Bool) (xs : List α) : dAny (xs.map fun x => PyData.bool (f x)) = .ok (.bool (xs.any f)) := by
  unfold dAny
  rw [asBls_map]
  simp [List.any_map, Function.comp_def]
theorem asInts_nat {α : Type} (f : α → Nat) (xs : List α) : asInts (xs.map fun x => nD (f x)) = some (xs.map fun x => (f x : Int)) := by
  induction xs with
  | nil => rfl
  | cons x xs ih => rw [List.map_cons, List.map_cons]; show (asInts _).map _ = _; rw [ih]; rfl
theorem sum_cast : ∀ xs : List Nat, (xs.map fun x : Nat => (x : Int)).sum = (xs.sum : Int)
  | [] => rfl
  | x :: xs => by rw [List.map_cons, List.sum_cons, List.sum_cons, sum_cast xs]; omega
theorem dSum_nat {α : Type} (f : α → Nat) (xs : List α) : dSum (xs.map fun x => nD (f x)) = .ok (nD (xs.map f).sum) := by
  unfold dSum
  rw [asInts_nat]
  show R.ok (PyData.int _) = R.ok (PyData.int ((xs.map f).sum : Int))
  rw [← sum_cast, List.map_map]; rfl
theorem all_flat (xs : List Nat) : (xs.map nD).all flatD = true := by
  rw [List.all_map, List.all_eq_true]; intro _ _; rfl
theorem eqv_int (i j : Int) : PyData.eqv (.int i) (.int j) = (i == j) := by simp [PyData.eqv]
theorem inD_nat (n : Nat) (xs : List Nat) : inD (nD n) (xs.map nD) = xs.contains n := by
  unfold inD
  rw [List.any_map, List.contains_eq_any_beq]
  congr 1
  funext e
  show PyData.eqv (.int e) (.int n) = (n == e)
  rw [eqv_int]
  by_cases h : e = n
  · subst h; simp
  · have h1 : ((e : Int) == (n : Int)) = false := by simp; omega
    have h2 : (n == e) = false := by simp; omega
    rw [h1, h2]
theorem gIn_t (n : Nat) (xs : List Nat) : gIn (nD n) (tN xs) = .ok (.bool (xs.contains n)) := by
  show ((if _ then _ else _ : R Bool)).bnd _ = _
  rw [if_pos ⟨rfl, all_flat xs⟩, inD_nat]; rfl
theorem gIn_l (n : Nat) (xs : List Nat) : gIn (nD n) (lN xs) = .ok (.bool (xs.contains n)) := by
  show ((if _ then _ else _ : R Bool)).bnd _ = _
  rw [if_pos ⟨rfl, all_flat xs⟩, inD_nat]; rfl
theorem gNotIn_t (n : Nat) (xs : List Nat) : gNotIn (nD n) (tN xs) = .ok (.bool (!xs.contains n)) := by
  show ((if _ then _ else _ : R Bool)).bnd _ = _
  rw [if_pos ⟨rfl, all_flat xs⟩, inD_nat]; rfl
theorem gNotIn_l (n : Nat) (xs : List Nat) : gNotIn (nD n) (lN xs) = .ok (.bool (!xs.contains n)) := by
  show ((if _ then _ else _ : R Bool)).bnd _ = _
  rw [if_pos ⟨rfl, all_flat xs⟩, inD_nat]; rfl
end Bl
namespace Bl
open PySem L2 Dl
open LamX (ExtN Tabs)
def b_is_count : Dl.Env → Fl :=
    (sRet (fAndV (fUn (gIsi "int") (fVar 0)) (fAndV (fNotV (fUn (gIsi "bool") (fVar 0))) (fChain gLe gLe (fVar 1) (fVar 0) (fVar 2)))))
def m_is_count : List D → R D := runB 3 3 b_is_count
theorem q_is_count (a0 a1 a2 : D) : m_is_count [a0, a1, a2] = endF (b_is_count [.dat a0, .dat a1, .dat a2]) := rfl

def b_is_rising : Dl.Env → Fl :=
    (sSeq (sIf (fOr (fNot (fT (fUn (gIsi "tuple") (fVar 0)))) (fNot (fT (fCall (gOne dAll) (aCons (fLc (fIt (fVar 0)) (gNm 2) tYesD (fCall m_is_count (aCons (fVar 2) (aCons (fC (.int 0)) (aCons (fOp gSub (fVar 1) (fC (.int 1))) aNil)))) [2]) aNil))))) (sRet (fC (.bool false))) sNil)
    (sRet (fCall (gOne dAll) (aCons (fLc (fItA gZip (aCons (fSl (fVar 0) oNone (oSome (fUn gNeg (fC (.int 1))))) (aCons (fSl (fVar 0) (oSome (fC (.int 1))) oNone) aNil))) (gTp (gCons (gNm 2) (gCons (gNm 3) gNil))) tYesD (fOp gLt (fVar 2) (fVar 3)) [2, 3]) aNil))))
def m_is_rising : List D → R D := runB 2 4 b_is_rising
theorem q_is_rising (a0 a1 : D) : m_is_rising [a0, a1] = endF (b_is_rising [.dat a0, .dat a1, .non, .non]) := rfl

def b_is_spot : Dl.Env → Fl :=
    (sSeq (sIf (fOr (fNot (fT (fUn (gIsi "tuple") (fVar 0)))) (fOr (fT (fOp gNe (fCall gLen (aCons (fVar 0) aNil)) (fC (.int 3)))) (fNot (fT (fCall m_is_count (aCons (fOp gIx (fVar 0) (fC (.int 0))) (aCons (fC (.int 0)) (aCons (fC (.int 99)) aNil)))))))) (sRet (fC (.bool false))) sNil)
    (sRet (fAndV (fCall m_is_count (aCons (fOp gIx (fVar 0) (fC (.int 1))) (aCons (fC (.int 1)) (aCons (fC (.int 20)) aNil)))) (fCall m_is_rising (aCons (fOp gIx (fVar 0) (fC (.int 2))) (aCons (fVar 1) aNil))))))
def m_is_spot : List D → R D := runB 2 2 b_is_spot
theorem q_is_spot (a0 a1 : D) : m_is_spot [a0, a1] = endF (b_is_spot [.dat a0, .dat a1]) := rfl

def b_is_kicker : Dl.Env → Fl :=
    (sSeq (sIf (fOr (fNot (fT (fUn (gIsi "tuple") (fVar 0)))) (fT (fOp gNe (fCall gLen (aCons (fVar 0) aNil)) (fC (.int 2))))) (sRet (fC (.bool false))) sNil)
    (sRet (fAndV (fCall m_is_count (aCons (fOp gIx (fVar 0) (fC (.int 0))) (aCons (fC (.int 0)) (aCons (fC (.int 99)) aNil)))) (fCall m_is_count (aCons (fOp gIx (fVar 0) (fC (.int 1))) (aCons (fC (.int 0)) (aCons (fC (.int 20)) aNil)))))))
def m_is_kicker : List D → R D := runB 1 1 b_is_kicker
theorem q_is_kicker (a0 : D) : m_is_kicker [a0] = endF (b_is_kicker [.dat a0]) := rfl

def b_is_belt : Dl.Env → Fl :=
    (sSeq (sIf (fOr (fNot (fT (fUn (gIsi "tuple") (fVar 0)))) (fOr (fT (fOp gNe (fCall gLen (aCons (fVar 0) aNil)) (fC (.int 3)))) (fNot (fT (fCall (gOne dAll) (aCons (fLc (fIt (fVar 0)) (gNm 4) tYesD (fUn (gIsi "tuple") (fVar 4)) [4]) aNil)))))) (sRet (fC (.bool false))) sNil)
    (sSeq (sAsg (fVar 0) (gTp (gCons (gNm 1) (gCons (gNm 2) (gCons (gNm 3) gNil)))))
    (sSeq (sIf (fOr (fNot (fT (fChain gLe gLe (fC (.int 1)) (fCall gLen (aCons (fVar 1) aNil)) (fC (.int 6))))) (fOr (fT (fOp gGt (fCall gLen (aCons (fVar 2) aNil)) (fC (.int 8)))) (fT (fOp gGt (fCall gLen (aCons (fVar 3) aNil)) (fC (.int 3)))))) (sRet (fC (.bool false))) sNil)
    (sSeq (sIf (fNot (fT (fCall (gOne dAll) (aCons (fLc (fIt (fVar 1)) (gNm 5) tYesD (fCall m_is_count (aCons (fVar 5) (aCons (fC (.int 0)) (aCons (fC (.int 99)) aNil)))) [5]) aNil)))) (sRet (fC (.bool false))) sNil)
    (sRet (fAndV (fCall (gOne dAll) (aCons (fLc (fIt (fVar 2)) (gNm 6) tYesD (fCall m_is_spot (aCons (fVar 6) (aCons (fCall gLen (aCons (fVar 1) aNil)) aNil))) [6]) aNil)) (fCall (gOne dAll) (aCons (fLc (fIt (fVar 3)) (gNm 7) tYesD (fCall m_is_kicker (aCons (fVar 7) aNil)) [7]) aNil))))))))
def m_is_belt : List D → R D := runB 1 8 b_is_belt
theorem q_is_belt (a0 : D) : m_is_belt [a0] = endF (b_is_belt [.dat a0, .non, .non, .non, .non, .non, .non, .non]) := rfl

def b_need_belt : Dl.Env → Fl :=
    (sIf (fNot (fT (fCall m_is_belt (aCons (fVar 0) aNil)))) (sRaise "BadBelt") sNil)
def m_need_belt : List D → R D := runB 1 1 b_need_belt
theorem q_need_belt (a0 : D) : m_need_belt [a0] = endF (b_need_belt [.dat a0]) := rfl

def b_sees : Dl.Env → Fl :=
    (sSeq (sAsg (fOp gIx (fOp gIx (fVar 0) (fC (.int 1))) (fVar 1)) (gTp (gCons (gNm 3) (gCons (gNm 4) (gCons (gNm 5) gNil)))))
    (sRet (fAndV (fOp gIn (fVar 2) (fVar 5)) (fOp gLe (fOp gIx (fOp gIx (fVar 0) (fC (.int 0))) (fVar 2)) (fVar 3)))))
def m_sees : List D → R D := runB 3 6 b_sees
theorem q_sees (a0 a1 a2 : D) : m_sees [a0, a1, a2] = endF (b_sees [.dat a0, .dat a1, .dat a2, .non, .non, .non]) := rfl

def b_first_kicker : Dl.Env → Fl :=
    (sSeq (sAsg (fLc (fIt (fVar 1)) (gNm 4) (fT (fOp gGe (fOp gIx (fOp gIx (fOp gIx (fVar 0) (fC (.int 2))) (fVar 4)) (fC (.int 0))) (fVar 2))) (fTup (aCons (fOp gIx (fOp gIx (fOp gIx (fVar 0) (fC (.int 2))) (fVar 4)) (fC (.int 0))) (aCons (fVar 4) aNil))) [4]) (gNm 3))
    (sRet (fIf (fT (fOp gNe (fVar 3) (fLst aNil))) (fOp gIx (fCall (gOne dMin) (aCons (fVar 3) aNil)) (fC (.int 1))) (fC .none))))
def m_first_kicker : List D → R D := runB 3 5 b_first_kicker
theorem q_first_kicker (a0 a1 a2 : D) : m_first_kicker [a0, a1, a2] = endF (b_first_kicker [.dat a0, .dat a1, .dat a2, .non, .non]) := rfl

def b_need_plan : Dl.Env → Fl :=
    (sSeq (sIf (fOr (fNot (fT (fUn (gIsi "tuple") (fVar 1)))) (fT (fOp gNe (fCall gLen (aCons (fVar 1) aNil)) (fC (.int 2))))) (sRaise "BadPlan") sNil)
    (sIf (fOr (fNot (fT (fCall m_is_rising (aCons (fOp gIx (fVar 1) (fC (.int 0))) (aCons (fCall gLen (aCons (fOp gIx (fVar 0) (fC (.int 1))) aNil)) aNil))))) (fNot (fT (fCall m_is_rising (aCons (fOp gIx (fVar 1) (fC (.int 1))) (aCons (fCall gLen (aCons (fOp gIx (fVar 0) (fC (.int 2))) aNil)) aNil)))))) (sRaise "BadPlan") sNil))
def m_need_plan : List D → R D := runB 2 2 b_need_plan
theorem q_need_plan (a0 a1 : D) : m_need_plan [a0, a1] = endF (b_need_plan [.dat a0, .dat a1]) := rfl

def b_need_bottle : Dl.Env → Fl :=
    (sSeq (sIf (fNot (fT (fCall m_is_rising (aCons (fVar 2) (aCons (fCall gLen (aCons (fOp gIx (fVar 0) (fC (.int 0))) aNil)) aNil))))) (sRaise "BadBottle") sNil)
    (sIf (fOr (fNot (fT (fCall m_is_rising (aCons (fVar 3) (aCons (fCall gLen (aCons (fOp gIx (fVar 0) (fC (.int 1))) aNil)) aNil))))) (fNot (fT (fCall (gOne dAll) (aCons (fLc (fIt (fVar 3)) (gNm 4) tYesD (fOp gIn (fVar 4) (fOp gIx (fVar 1) (fC (.int 0)))) [4]) aNil))))) (sRaise "BadBottle") sNil))
def m_need_bottle : List D → R D := runB 4 5 b_need_bottle
theorem q_need_bottle (a0 a1 a2 a3 : D) : m_need_bottle [a0, a1, a2, a3] = endF (b_need_bottle [.dat a0, .dat a1, .dat a2, .dat a3, .non]) := rfl

def b_out_of : Dl.Env → Fl :=
    (sSeq (sOwn 4 aNil)
    (sSeq (sFor (fIt (fOp gIx (fVar 1) (fC (.int 0)))) (gNm 5) (sIf (fAnd (fT (fOp gNotIn (fVar 5) (fVar 3))) (fT (fCall (gOne dAny) (aCons (fLc (fIt (fVar 2)) (gNm 8) tYesD (fCall m_sees (aCons (fVar 0) (aCons (fVar 5) (aCons (fVar 8) aNil)))) [8]) aNil)))) (sApp 4 (fTup (aCons (fOp gIx (fOp gIx (fOp gIx (fVar 0) (fC (.int 1))) (fVar 5)) (fC (.int 0))) (aCons (fVar 5) aNil)))) sNil))
    (sSeq (sFrz 4 (sIf (fT (fOp gEq (fVar 4) (fLst aNil))) (sRet (fC .none)) sNil))
    (sSeq (sFrz 4 (sAsg (fCall (gOne dMin) (aCons (fVar 4) aNil)) (gTp (gCons (gNm 6) (gCons (gNm 5) gNil)))))
    (sSeq (sAsg (fCall m_first_kicker (aCons (fVar 0) (aCons (fOp gIx (fVar 1) (fC (.int 1))) (aCons (fVar 6) aNil)))) (gNm 7))
    (sRet (fIf (fT (fOp gIsN (fVar 7) (fC .none))) (fC .none) (fTup (aCons (fVar 5) (aCons (fVar 7) aNil))))))))))
def m_out_of : List D → R D := runB 4 9 b_out_of
theorem q_out_of (a0 a1 a2 a3 : D) : m_out_of [a0, a1, a2, a3] = endF (b_out_of [.dat a0, .dat a1, .dat a2, .dat a3, .non, .non, .non, .non, .non]) := rfl

def b_out : Dl.Env → Fl :=
    (sSeq (sExpr (fCall m_need_belt (aCons (fVar 0) aNil)))
    (sSeq (sExpr (fCall m_need_plan (aCons (fVar 0) (aCons (fVar 1) aNil))))
    (sSeq (sExpr (fCall m_need_bottle (aCons (fVar 0) (aCons (fVar 1) (aCons (fVar 2) (aCons (fVar 3) aNil))))))
    (sRet (fCall m_out_of (aCons (fVar 0) (aCons (fVar 1) (aCons (fVar 2) (aCons (fVar 3) aNil)))))))))
def m_out : List D → R D := runB 4 4 b_out
theorem q_out (a0 a1 a2 a3 : D) : m_out [a0, a1, a2, a3] = endF (b_out [.dat a0, .dat a1, .dat a2, .dat a3]) := rfl

def b_run : Dl.Env → Fl :=
    (sSeq (sExpr (fCall m_need_belt (aCons (fVar 0) aNil)))
    (sSeq (sExpr (fCall m_need_plan (aCons (fVar 0) (aCons (fVar 1) aNil))))
    (sSeq (sIf (fOr (fNot (fT (fUn (gIsi "list") (fVar 2)))) (fNot (fT (fCall (gOne dAll) (aCons (fLc (fIt (fVar 2)) (gNm 7) tYesD (fAndV (fUn (gIsi "tuple") (fVar 7)) (fOp gEq (fCall gLen (aCons (fVar 7) aNil)) (fC (.int 2)))) [7]) aNil))))) (sRaise "BadBottle") sNil)
    (sSeq (sFor (fIt (fVar 2)) (gTp (gCons (gNm 3) (gCons (gNm 4) gNil))) (sExpr (fCall m_need_bottle (aCons (fVar 0) (aCons (fVar 1) (aCons (fVar 3) (aCons (fVar 4) aNil)))))))
    (sSeq (sOwn 5 aNil)
    (sSeq (sFor (fItA gEnum (aCons (fVar 2) aNil)) (gTp (gCons (gNm 6) (gCons (gTp (gCons (gNm 3) (gCons (gNm 4) gNil))) gNil))) (sIf (fAnd (fT (fOp gNe (fVar 3) (fTup aNil))) (fT (fOp gIsN (fCall m_out_of (aCons (fVar 0) (aCons (fVar 1) (aCons (fVar 3) (aCons (fVar 4) aNil))))) (fC .none)))) (sApp 5 (fVar 6)) sNil))
    (sFrz 5 (sRet (fVar 5)))))))))
def m_run : List D → R D := runB 3 8 b_run
theorem q_run (a0 a1 a2 : D) : m_run [a0, a1, a2] = endF (b_run [.dat a0, .dat a1, .dat a2, .non, .non, .non, .non, .non]) := rfl

def b_cost_of : Dl.Env → Fl :=
    (sRet (fOp gAdd (fCall (gOne dSum) (aCons (fLc (fIt (fOp gIx (fVar 1) (fC (.int 0)))) (gNm 2) tYesD (fOp gIx (fOp gIx (fOp gIx (fVar 0) (fC (.int 1))) (fVar 2)) (fC (.int 1))) [2]) aNil)) (fCall (gOne dSum) (aCons (fLc (fIt (fOp gIx (fVar 1) (fC (.int 1)))) (gNm 3) tYesD (fOp gIx (fOp gIx (fOp gIx (fVar 0) (fC (.int 2))) (fVar 3)) (fC (.int 1))) [3]) aNil))))
def m_cost_of : List D → R D := runB 2 4 b_cost_of
theorem q_cost_of (a0 a1 : D) : m_cost_of [a0, a1] = endF (b_cost_of [.dat a0, .dat a1, .non, .non]) := rfl

def b_cost : Dl.Env → Fl :=
    (sSeq (sExpr (fCall m_need_belt (aCons (fVar 0) aNil)))
    (sSeq (sExpr (fCall m_need_plan (aCons (fVar 0) (aCons (fVar 1) aNil))))
    (sRet (fCall m_cost_of (aCons (fVar 0) (aCons (fVar 1) aNil))))))
def m_cost : List D → R D := runB 2 2 b_cost
theorem q_cost (a0 a1 : D) : m_cost [a0, a1] = endF (b_cost [.dat a0, .dat a1]) := rfl

def b_law_cell : Dl.Env → Fl :=
    (sSeq (sIf (fT (fOp gEq (fVar 0) (fLst aNil))) (sRet (fOp gMul (fVar 1) (fC (.int 7919)))) sNil)
    (sRet (fOp gAdd (fOp gIx (fVar 0) (fOp gMod (fVar 1) (fCall gLen (aCons (fVar 0) aNil)))) (fOp gMul (fOp gFdiv (fVar 1) (fCall gLen (aCons (fVar 0) aNil))) (fC (.int 104729))))))
def m_law_cell : List D → R D := runB 2 2 b_law_cell
theorem q_law_cell (a0 a1 : D) : m_law_cell [a0, a1] = endF (b_law_cell [.dat a0, .dat a1]) := rfl

def b_law_drawn : Dl.Env → Fl :=
    (sSeq (sAsg (fOp gMod (fOp gAdd (fOp gMul (fVar 0) (fC (.int 6364136223846793005))) (fOp gMul (fOp gAdd (fVar 1) (fC (.int 1))) (fC (.int 1442695040888963407)))) (fC (.int 340282366920938463463374607431768211507))) (gNm 2))
    (sSeq (sAsg (fOp gMod (fOp gMul (fVar 2) (fVar 2)) (fC (.int 340282366920938463463374607431768211297))) (gNm 2))
    (sSeq (sAsg (fOp gMul (fOp gMul (fOp gAdd (fOp gMod (fVar 2) (fC (.int 18446744073709551557))) (fC (.int 1))) (fOp gAdd (fOp gFdiv (fVar 2) (fC (.int 18446744073709551557))) (fC (.int 1)))) (fVar 2)) (gNm 2))
    (sRet (fOp gMod (fVar 2) (fC (.int 340282366920938463463374607431768211507)))))))
def m_law_drawn : List D → R D := runB 2 3 b_law_drawn
theorem q_law_drawn (a0 a1 : D) : m_law_drawn [a0, a1] = endF (b_law_drawn [.dat a0, .dat a1, .non]) := rfl

def b_law_some : Dl.Env → Fl :=
    (sRet (fCall gTuple (aCons (fLc (fItA gRng1 (aCons (fVar 1) aNil)) (gNm 3) (fT (fOp gGt (fOp gMod (fOp gFdiv (fCall m_law_drawn (aCons (fVar 0) (aCons (fOp gAdd (fC (.int 500)) (fVar 3)) aNil))) (fC (.int 16))) (fVar 2)) (fC (.int 0)))) (fVar 3) [3]) aNil)))
def m_law_some : List D → R D := runB 3 4 b_law_some
theorem q_law_some (a0 a1 a2 : D) : m_law_some [a0, a1, a2] = endF (b_law_some [.dat a0, .dat a1, .dat a2, .non]) := rfl

def b_law_belt : Dl.Env → Fl :=
    (sSeq (sAsg (fOp gIx (fLst (aCons (fC (.int 100)) (aCons (fC (.int 10)) (aCons (fC (.int 4)) aNil)))) (fOp gMod (fOp gFdiv (fVar 0) (fC (.int 16))) (fC (.int 3)))) (gNm 2))
    (sSeq (sAsg (fCall gTuple (aCons (fLc (fItA gRng1 (aCons (fOp gAdd (fC (.int 1)) (fOp gMod (fOp gFdiv (fVar 0) (fC (.int 64))) (fOp gIx (fLst (aCons (fC (.int 6)) (aCons (fC (.int 3)) aNil))) (fOp gMod (fOp gFdiv (fVar 0) (fC (.int 8))) (fC (.int 2)))))) aNil)) (gNm 5) tYesD (fOp gMod (fOp gFdiv (fCall m_law_drawn (aCons (fVar 0) (aCons (fVar 5) aNil))) (fC (.int 16))) (fVar 2)) [5]) aNil)) (gNm 3))
    (sSeq (sOwn 4 aNil)
    (sSeq (sFor (fItA gRng1 (aCons (fOp gMod (fOp gFdiv (fVar 0) (fC (.int 512))) (fOp gAdd (fVar 1) (fC (.int 1)))) aNil)) (gNm 5) (sSeq (sAsg (fCall m_law_drawn (aCons (fVar 0) (aCons (fOp gAdd (fC (.int 10)) (fVar 5)) aNil))) (gNm 6))
    (sSeq (sAsg (fCall m_law_some (aCons (fVar 6) (aCons (fCall gLen (aCons (fVar 3) aNil)) (aCons (fOp gIx (fLst (aCons (fC (.int 2)) (aCons (fC (.int 4)) (aCons (fC (.int 3)) aNil)))) (fOp gMod (fOp gFdiv (fVar 0) (fC (.int 4096))) (fC (.int 3)))) aNil)))) (gNm 7))
    (sSeq (sAsg (fOp gAdd (fOp gMod (fOp gFdiv (fVar 6) (fC (.int 16))) (fVar 2)) (fOp gMul (fOp gIx (fLst (aCons (fC (.int 0)) (aCons (fOp gFdiv (fVar 2) (fC (.int 2))) aNil))) (fOp gMod (fOp gFdiv (fVar 6) (fOp gPow (fC (.int 2)) (fC (.int 20)))) (fC (.int 2)))) (fCall gInt (aCons (fOp gLt (fVar 2) (fC (.int 50))) aNil)))) (gNm 8))
    (sApp 4 (fTup (aCons (fVar 8) (aCons (fOp gAdd (fC (.int 1)) (fOp gMod (fOp gFdiv (fVar 6) (fC (.int 1024))) (fOp gIx (fLst (aCons (fC (.int 20)) (aCons (fC (.int 3)) aNil))) (fOp gMod (fOp gFdiv (fVar 6) (fC (.int 8))) (fC (.int 2)))))) (aCons (fVar 7) aNil)))))))))
    (sSeq (sOwn 9 aNil)
    (sSeq (sFor (fItA gRng1 (aCons (fOp gMod (fOp gFdiv (fVar 0) (fOp gPow (fC (.int 2)) (fC (.int 30)))) (fC (.int 4))) aNil)) (gNm 5) (sSeq (sAsg (fCall m_law_drawn (aCons (fVar 0) (aCons (fOp gAdd (fC (.int 30)) (fVar 5)) aNil))) (gNm 6))
    (sApp 9 (fTup (aCons (fCall gMin2 (aCons (fC (.int 99)) (aCons (fOp gMod (fOp gFdiv (fVar 6) (fC (.int 16))) (fOp gMul (fC (.int 2)) (fVar 2))) aNil))) (aCons (fOp gMod (fOp gFdiv (fVar 6) (fC (.int 1024))) (fOp gIx (fLst (aCons (fC (.int 21)) (aCons (fC (.int 2)) aNil))) (fOp gMod (fOp gFdiv (fVar 6) (fC (.int 8))) (fC (.int 2))))) aNil))))))
    (sFrz 9 (sFrz 4 (sRet (fTup (aCons (fVar 3) (aCons (fCall gTuple (aCons (fVar 4) aNil)) (aCons (fCall gTuple (aCons (fVar 9) aNil)) aNil)))))))))))))
def m_law_belt : List D → R D := runB 2 10 b_law_belt
theorem q_law_belt (a0 a1 : D) : m_law_belt [a0, a1] = endF (b_law_belt [.dat a0, .dat a1, .non, .non, .non, .non, .non, .non, .non, .non]) := rfl

def b_law_plan : Dl.Env → Fl :=
    (sSeq (sAsg (fOp gIx (fLst (aCons (fC (.int 2)) (aCons (fC (.int 9)) (aCons (fC (.int 3)) aNil)))) (fOp gMod (fOp gFdiv (fVar 0) (fC (.int 8))) (fC (.int 3)))) (gNm 2))
    (sRet (fTup (aCons (fCall m_law_some (aCons (fCall m_law_drawn (aCons (fVar 0) (aCons (fC (.int 1)) aNil))) (aCons (fCall gLen (aCons (fOp gIx (fVar 1) (fC (.int 1))) aNil)) (aCons (fVar 2) aNil)))) (aCons (fCall m_law_some (aCons (fCall m_law_drawn (aCons (fVar 0) (aCons (fC (.int 2)) aNil))) (aCons (fCall gLen (aCons (fOp gIx (fVar 1) (fC (.int 2))) aNil)) (aCons (fVar 2) aNil)))) aNil)))))
def m_law_plan : List D → R D := runB 2 3 b_law_plan
theorem q_law_plan (a0 a1 : D) : m_law_plan [a0, a1] = endF (b_law_plan [.dat a0, .dat a1, .non]) := rfl

abbrev l_law_out_0 : Dl.Env → Fl :=
    (sSeq (sAsg (fOp gIx (fOp gIx (fVar 0) (fC (.int 1))) (fVar 6)) (gTp (gCons (gNm 7) (gCons (gNm 8) (gCons (gNm 9) gNil)))))
    (sIf (fAnd (fT (fOp gIsN (fVar 4) (fC .none))) (fAnd (fT (fOp gEq (fVar 7) (fVar 5))) (fT (fOp gNotIn (fVar 6) (fVar 3))))) (sIf (fT (fOp gNe (fLc (fIt (fVar 2)) (gNm 10) (fAnd (fT (fOp gIn (fVar 10) (fVar 9))) (fT (fOp gLe (fOp gIx (fOp gIx (fVar 0) (fC (.int 0))) (fVar 10)) (fVar 7)))) (fVar 10) [10]) (fLst aNil))) (sAsg (fVar 6) (gNm 4)) sNil) sNil))
abbrev l_law_out_1 : Dl.Env → Fl :=
    (sIf (fAnd (fT (fOp gNotN (fVar 4) (fC .none))) (fT (fOp gEq (fOp gIx (fOp gIx (fOp gIx (fVar 0) (fC (.int 2))) (fVar 6)) (fC (.int 0))) (fVar 5)))) (sRet (fTup (aCons (fVar 4) (aCons (fVar 6) aNil)))) sNil)
abbrev l_law_out_2 : Dl.Env → Fl :=
    (sSeq (sFor (fIt (fOp gIx (fVar 1) (fC (.int 0)))) (gNm 6) l_law_out_0)
    (sFor (fIt (fOp gIx (fVar 1) (fC (.int 1)))) (gNm 6) l_law_out_1))
def b_law_out : Dl.Env → Fl :=
    (sSeq (sAsg (fC .none) (gNm 4))
    (sSeq (sFor (fItA gRng1 (aCons (fC (.int 100)) aNil)) (gNm 5) l_law_out_2)
    (sRet (fC .none))))
def m_law_out : List D → R D := runB 4 11 b_law_out
theorem q_law_out (a0 a1 a2 a3 : D) : m_law_out [a0, a1, a2, a3] = endF (b_law_out [.dat a0, .dat a1, .dat a2, .dat a3, .non, .non, .non, .non, .non, .non, .non]) := rfl

def b_useful : Dl.Env → Fl :=
    (sSeq (sOwn 4 aNil)
    (sSeq (sFor (fIt (fVar 1)) (gNm 5) (sIf (fAnd (fT (fCall m_sees (aCons (fVar 0) (aCons (fVar 5) (aCons (fVar 3) aNil))))) (fT (fOp gNotN (fCall m_first_kicker (aCons (fVar 0) (aCons (fVar 2) (aCons (fOp gIx (fOp gIx (fOp gIx (fVar 0) (fC (.int 1))) (fVar 5)) (fC (.int 0))) aNil)))) (fC .none)))) (sApp 4 (fVar 5)) sNil))
    (sFrz 4 (sRet (fVar 4)))))
def m_useful : List D → R D := runB 4 6 b_useful
theorem q_useful (a0 a1 a2 a3 : D) : m_useful [a0, a1, a2, a3] = endF (b_useful [.dat a0, .dat a1, .dat a2, .dat a3, .non, .non]) := rfl

def b_need_count : Dl.Env → Fl :=
    (sIf (fNot (fT (fCall m_is_count (aCons (fVar 0) (aCons (fC (.int 0)) (aCons (fC (.int 8)) aNil)))))) (sRaise "BadNumber") sNil)
def m_need_count : List D → R D := runB 1 1 b_need_count
theorem q_need_count (a0 : D) : m_need_count [a0] = endF (b_need_count [.dat a0]) := rfl

def b_least_seen : Dl.Env → Fl :=
    (sRet (fCall (gOne dMin) (aCons (fLc (fItA gRng1 (aCons (fCall gLen (aCons (fOp gIx (fVar 0) (fC (.int 0))) aNil)) aNil)) (gNm 2) tYesD (fCall gLen (aCons (fCall m_useful (aCons (fVar 0) (aCons (fOp gIx (fVar 1) (fC (.int 0))) (aCons (fOp gIx (fVar 1) (fC (.int 1))) (aCons (fVar 2) aNil))))) aNil)) [2]) aNil)))
def m_least_seen : List D → R D := runB 2 3 b_least_seen
theorem q_least_seen (a0 a1 : D) : m_least_seen [a0, a1] = endF (b_least_seen [.dat a0, .dat a1, .non]) := rfl

def b_borne : Dl.Env → Fl :=
    (sSeq (sExpr (fCall m_need_belt (aCons (fVar 0) aNil)))
    (sSeq (sExpr (fCall m_need_plan (aCons (fVar 0) (aCons (fVar 1) aNil))))
    (sSeq (sAsg (fCall m_least_seen (aCons (fVar 0) (aCons (fVar 1) aNil))) (gNm 2))
    (sRet (fIf (fT (fOp gGt (fVar 2) (fC (.int 0)))) (fOp gSub (fVar 2) (fC (.int 1))) (fC .none))))))
def m_borne : List D → R D := runB 2 3 b_borne
theorem q_borne (a0 a1 : D) : m_borne [a0, a1] = endF (b_borne [.dat a0, .dat a1, .non]) := rfl

def b_lets : Dl.Env → Fl :=
    (sSeq (sExpr (fCall m_need_belt (aCons (fVar 0) aNil)))
    (sSeq (sExpr (fCall m_need_plan (aCons (fVar 0) (aCons (fVar 1) aNil))))
    (sSeq (sExpr (fCall m_need_count (aCons (fVar 2) aNil)))
    (sSeq (sFor (fItA gRng1 (aCons (fCall gLen (aCons (fOp gIx (fVar 0) (fC (.int 0))) aNil)) aNil)) (gNm 3) (sSeq (sAsg (fCall m_useful (aCons (fVar 0) (aCons (fOp gIx (fVar 1) (fC (.int 0))) (aCons (fOp gIx (fVar 1) (fC (.int 1))) (aCons (fVar 3) aNil))))) (gNm 4))
    (sIf (fT (fOp gLe (fCall gLen (aCons (fVar 4) aNil)) (fVar 2))) (sRet (fTup (aCons (fTup (aCons (fVar 3) aNil)) (aCons (fCall gTuple (aCons (fVar 4) aNil)) aNil)))) sNil)))
    (sRet (fC .none))))))
def m_lets : List D → R D := runB 3 5 b_lets
theorem q_lets (a0 a1 a2 : D) : m_lets [a0, a1, a2] = endF (b_lets [.dat a0, .dat a1, .dat a2, .non, .non]) := rfl

abbrev l_law_rows_0 : Dl.Env → Fl :=
    (sFrz 1 (sAsg (fOp gAdd (fVar 1) (fLc (fIt (fVar 1)) (gNm 3) tYesD (fOp gAdd (fVar 3) (fTup (aCons (fVar 2) aNil))) [3])) (gNm 1)))
def b_law_rows : Dl.Env → Fl :=
    (sSeq (sOwn 1 (aCons (fTup aNil) aNil))
    (sSeq (sFor (fItA gRng1 (aCons (fVar 0) aNil)) (gNm 2) l_law_rows_0)
    (sFrz 1 (sRet (fVar 1)))))
def m_law_rows : List D → R D := runB 1 4 b_law_rows
theorem q_law_rows (a0 : D) : m_law_rows [a0] = endF (b_law_rows [.dat a0, .non, .non, .non]) := rfl

abbrev l_law_bears_0 : Dl.Env → Fl :=
    (sSeq (sAsg (fCall gTuple (aCons (fLc (fIt (fVar 4)) (gNm 6) tYesD (fOp gIx (fOp gIx (fVar 1) (fC (.int 0))) (fVar 6)) [6]) aNil)) (gNm 5))
    (sIf (fAnd (fT (fOp gLe (fCall gLen (aCons (fVar 4) aNil)) (fVar 2))) (fT (fOp gIsN (fCall m_law_out (aCons (fVar 0) (aCons (fVar 1) (aCons (fTup (aCons (fVar 3) aNil)) (aCons (fVar 5) aNil))))) (fC .none)))) (sRet (fC (.bool false))) sNil))
abbrev l_law_bears_1 : Dl.Env → Fl :=
    (sFor (fIt (fCall m_law_rows (aCons (fCall gLen (aCons (fOp gIx (fVar 1) (fC (.int 0))) aNil)) aNil))) (gNm 4) l_law_bears_0)
def b_law_bears : Dl.Env → Fl :=
    (sSeq (sFor (fItA gRng1 (aCons (fCall gLen (aCons (fOp gIx (fVar 0) (fC (.int 0))) aNil)) aNil)) (gNm 3) l_law_bears_1)
    (sRet (fC (.bool true))))
def m_law_bears : List D → R D := runB 3 7 b_law_bears
theorem q_law_bears (a0 a1 a2 : D) : m_law_bears [a0, a1, a2] = endF (b_law_bears [.dat a0, .dat a1, .dat a2, .non, .non, .non, .non]) := rfl

def b_law_holds : Dl.Env → Fl :=
    (sRet (fLc (fIt (fOp gIx (fVar 1) (fC (.int 0)))) (gNm 3) (fT (fOp gNotN (fCall m_law_out (aCons (fVar 0) (aCons (fTup (aCons (fTup (aCons (fVar 3) aNil)) (aCons (fOp gIx (fVar 1) (fC (.int 1))) aNil))) (aCons (fTup (aCons (fVar 2) aNil)) (aCons (fTup aNil) aNil))))) (fC .none))) (fVar 3) [3]))
def m_law_holds : List D → R D := runB 3 4 b_law_holds
theorem q_law_holds (a0 a1 a2 : D) : m_law_holds [a0, a1, a2] = endF (b_law_holds [.dat a0, .dat a1, .dat a2, .non]) := rfl

abbrev l_law_no_sooner_0 : Dl.Env → Fl :=
    (sSeq (sAsg (fCall gTuple (aCons (fLc (fIt (fVar 3)) (gNm 6) tYesD (fOp gIx (fOp gIx (fVar 1) (fC (.int 0))) (fVar 6)) [6]) aNil)) (gNm 4))
    (sSeq (sAsg (fLc (fIt (fVar 2)) (gNm 7) (fT (fOp gNotN (fCall m_out (aCons (fVar 0) (aCons (fVar 1) (aCons (fTup (aCons (fVar 7) aNil)) (aCons (fVar 4) aNil))))) (fC .none))) (fVar 7) [7]) (gNm 5))
    (sIf (fAnd (fT (fOp gIsN (fCall m_out (aCons (fVar 0) (aCons (fVar 1) (aCons (fVar 2) (aCons (fVar 4) aNil))))) (fC .none))) (fT (fOp gNe (fVar 5) (fLst aNil)))) (sRet (fC (.bool false))) sNil)))
def b_law_no_sooner : Dl.Env → Fl :=
    (sSeq (sAsg (fRg1 gTupRg (fCall gLen (aCons (fOp gIx (fVar 0) (fC (.int 0))) aNil))) (gNm 2))
    (sSeq (sFor (fIt (fCall m_law_rows (aCons (fCall gLen (aCons (fOp gIx (fVar 1) (fC (.int 0))) aNil)) aNil))) (gNm 3) l_law_no_sooner_0)
    (sRet (fC (.bool true)))))
def m_law_no_sooner : List D → R D := runB 2 8 b_law_no_sooner
theorem q_law_no_sooner (a0 a1 : D) : m_law_no_sooner [a0, a1] = endF (b_law_no_sooner [.dat a0, .dat a1, .non, .non, .non, .non, .non, .non]) := rfl

def b_law_with : Dl.Env → Fl :=
    (sRet (fCall gTuple (aCons (fUn gSortedSet (fOp gAdd (fVar 0) (fTup (aCons (fVar 1) aNil)))) aNil)))
def m_law_with : List D → R D := runB 2 2 b_law_with
theorem q_law_with (a0 a1 : D) : m_law_with [a0, a1] = endF (b_law_with [.dat a0, .dat a1]) := rfl

def b_law_no_fewer : Dl.Env → Fl :=
    (sRet (fOrV (fOp gIsN (fVar 1) (fC .none)) (fAndV (fOp gNotN (fVar 0) (fC .none)) (fOp gGe (fVar 0) (fVar 1)))))
def m_law_no_fewer : List D → R D := runB 2 2 b_law_no_fewer
theorem q_law_no_fewer (a0 a1 : D) : m_law_no_fewer [a0, a1] = endF (b_law_no_fewer [.dat a0, .dat a1]) := rfl

abbrev l_law_kickers_right_0 : Dl.Env → Fl :=
    (sSeq (sAsg (fTup (aCons (fOp gIx (fVar 1) (fC (.int 0))) (aCons (fCall m_law_with (aCons (fOp gIx (fVar 1) (fC (.int 1))) (aCons (fVar 4) aNil))) aNil))) (gNm 5))
    (sSeq (sIf (fNot (fT (fCall m_law_no_fewer (aCons (fCall m_borne (aCons (fVar 0) (aCons (fVar 5) aNil))) (aCons (fCall m_borne (aCons (fVar 0) (aCons (fVar 1) aNil))) aNil))))) (sRet (fC (.bool false))) sNil)
    (sIf (fT (fOp gNe (fLc (fIt (fCall m_run (aCons (fVar 0) (aCons (fVar 5) (aCons (fVar 2) aNil))))) (gNm 6) (fT (fOp gNotIn (fVar 6) (fVar 3))) (fVar 6) [6]) (fLst aNil))) (sRet (fC (.bool false))) sNil)))
def b_law_kickers_right : Dl.Env → Fl :=
    (sSeq (sFor (fItA gRng1 (aCons (fCall gLen (aCons (fOp gIx (fVar 0) (fC (.int 2))) aNil)) aNil)) (gNm 4) l_law_kickers_right_0)
    (sRet (fC (.bool true))))
def m_law_kickers_right : List D → R D := runB 4 7 b_law_kickers_right
theorem q_law_kickers_right (a0 a1 a2 a3 : D) : m_law_kickers_right [a0, a1, a2, a3] = endF (b_law_kickers_right [.dat a0, .dat a1, .dat a2, .dat a3, .non, .non, .non]) := rfl

abbrev l_all_rows_0 : Dl.Env → Fl :=
    (sFrz 1 (sAsg (fOp gAdd (fVar 1) (fLc (fIt (fVar 1)) (gNm 3) tYesD (fOp gAdd (fVar 3) (fTup (aCons (fVar 2) aNil))) [3])) (gNm 1)))
def b_all_rows : Dl.Env → Fl :=
    (sSeq (sOwn 1 (aCons (fTup aNil) aNil))
    (sSeq (sFor (fItA gRng1 (aCons (fVar 0) aNil)) (gNm 2) l_all_rows_0)
    (sFrz 1 (sRet (fVar 1)))))
def m_all_rows : List D → R D := runB 1 4 b_all_rows
theorem q_all_rows (a0 : D) : m_all_rows [a0] = endF (b_all_rows [.dat a0, .non, .non, .non]) := rfl

abbrev l_best_0 : Dl.Env → Fl :=
    (sSeq (sAsg (fTup (aCons (fVar 5) (aCons (fVar 6) aNil))) (gNm 7))
    (sSeq (sIf (fNot (fT (fCall (gOne dAll) (aCons (fLc (fIt (fVar 2)) (gNm 10) tYesD (fOp gIn (fVar 10) (fVar 6)) [10]) aNil)))) sCont sNil)
    (sSeq (sAsg (fTup (aCons (fCall m_cost_of (aCons (fVar 0) (aCons (fVar 7) aNil))) (aCons (fOp gAdd (fCall gLen (aCons (fVar 5) aNil)) (fCall gLen (aCons (fVar 6) aNil))) (aCons (fVar 7) aNil)))) (gNm 8))
    (sIf (fAnd (fOr (fT (fOp gIsN (fVar 4) (fC .none))) (fT (fOp gLt (fVar 8) (fVar 4)))) (fT (fOp gGt (fCall m_least_seen (aCons (fVar 0) (aCons (fVar 7) aNil))) (fVar 3)))) (sAsg (fVar 8) (gNm 4)) sNil))))
abbrev l_best_1 : Dl.Env → Fl :=
    (sSeq (sIf (fNot (fT (fCall (gOne dAll) (aCons (fLc (fIt (fVar 1)) (gNm 9) tYesD (fOp gIn (fVar 9) (fVar 5)) [9]) aNil)))) sCont sNil)
    (sFor (fIt (fCall m_all_rows (aCons (fCall gLen (aCons (fOp gIx (fVar 0) (fC (.int 2))) aNil)) aNil))) (gNm 6) l_best_0))
def b_best : Dl.Env → Fl :=
    (sSeq (sAsg (fC .none) (gNm 4))
    (sSeq (sFor (fIt (fCall m_all_rows (aCons (fCall gLen (aCons (fOp gIx (fVar 0) (fC (.int 1))) aNil)) aNil))) (gNm 5) l_best_1)
    (sSeq (sIf (fT (fOp gIsN (fVar 4) (fC .none))) (sRaise "NoPlan") sNil)
    (sRet (fOp gIx (fVar 4) (fC (.int 2)))))))
def m_best : List D → R D := runB 4 11 b_best
theorem q_best (a0 a1 a2 a3 : D) : m_best [a0, a1, a2, a3] = endF (b_best [.dat a0, .dat a1, .dat a2, .dat a3, .non, .non, .non, .non, .non, .non, .non]) := rfl

def b_least : Dl.Env → Fl :=
    (sSeq (sExpr (fCall m_need_belt (aCons (fVar 0) aNil)))
    (sSeq (sExpr (fCall m_need_count (aCons (fVar 1) aNil)))
    (sRet (fCall m_best (aCons (fVar 0) (aCons (fTup aNil) (aCons (fTup aNil) (aCons (fVar 1) aNil))))))))
def m_least : List D → R D := runB 2 2 b_least
theorem q_least (a0 a1 : D) : m_least [a0, a1] = endF (b_least [.dat a0, .dat a1]) := rfl

def b_widened : Dl.Env → Fl :=
    (sSeq (sExpr (fCall m_need_belt (aCons (fVar 0) aNil)))
    (sSeq (sExpr (fCall m_need_plan (aCons (fVar 0) (aCons (fVar 1) aNil))))
    (sSeq (sExpr (fCall m_need_count (aCons (fVar 2) aNil)))
    (sRet (fCall m_best (aCons (fVar 0) (aCons (fOp gIx (fVar 1) (fC (.int 0))) (aCons (fOp gIx (fVar 1) (fC (.int 1))) (aCons (fVar 2) aNil)))))))))
def m_widened : List D → R D := runB 3 3 b_widened
theorem q_widened (a0 a1 a2 : D) : m_widened [a0, a1, a2] = endF (b_widened [.dat a0, .dat a1, .dat a2]) := rfl

def b_most_borne : Dl.Env → Fl :=
    (sSeq (sExpr (fCall m_need_belt (aCons (fVar 0) aNil)))
    (sSeq (sAsg (fTup (aCons (fRg1 gTupRg (fCall gLen (aCons (fOp gIx (fVar 0) (fC (.int 1))) aNil))) (aCons (fRg1 gTupRg (fCall gLen (aCons (fOp gIx (fVar 0) (fC (.int 2))) aNil))) aNil))) (gNm 1))
    (sSeq (sAsg (fCall m_least_seen (aCons (fVar 0) (aCons (fVar 1) aNil))) (gNm 2))
    (sRet (fIf (fT (fOp gGt (fVar 2) (fC (.int 0)))) (fOp gSub (fVar 2) (fC (.int 1))) (fC .none))))))
def m_most_borne : List D → R D := runB 1 3 b_most_borne
theorem q_most_borne (a0 : D) : m_most_borne [a0] = endF (b_most_borne [.dat a0, .non, .non]) := rfl

abbrev l_law_all_plans_0 : Dl.Env → Fl :=
    (sSeq (sAsg (fTup (aCons (fVar 2) (aCons (fVar 3) aNil))) (gNm 4))
    (sSeq (sAsg (fOp gAdd (fCall (gOne dSum) (aCons (fLc (fIt (fVar 2)) (gNm 7) tYesD (fOp gIx (fOp gIx (fOp gIx (fVar 0) (fC (.int 1))) (fVar 7)) (fC (.int 1))) [7]) aNil)) (fCall (gOne dSum) (aCons (fLc (fIt (fVar 3)) (gNm 7) tYesD (fOp gIx (fOp gIx (fOp gIx (fVar 0) (fC (.int 2))) (fVar 7)) (fC (.int 1))) [7]) aNil))) (gNm 5))
    (sSeq (sAsg (fOp gSub (fCall (gOne dMin) (aCons (fLc (fItA gRng1 (aCons (fCall gLen (aCons (fOp gIx (fVar 0) (fC (.int 0))) aNil)) aNil)) (gNm 8) tYesD (fCall gLen (aCons (fCall m_law_holds (aCons (fVar 0) (aCons (fVar 4) (aCons (fVar 8) aNil)))) aNil)) [8]) aNil)) (fC (.int 1))) (gNm 6))
    (sApp 1 (fTup (aCons (fVar 5) (aCons (fOp gAdd (fCall gLen (aCons (fVar 2) aNil)) (fCall gLen (aCons (fVar 3) aNil))) (aCons (fVar 4) (aCons (fVar 6) aNil)))))))))
abbrev l_law_all_plans_1 : Dl.Env → Fl :=
    (sFor (fIt (fCall m_law_rows (aCons (fCall gLen (aCons (fOp gIx (fVar 0) (fC (.int 2))) aNil)) aNil))) (gNm 3) l_law_all_plans_0)
def b_law_all_plans : Dl.Env → Fl :=
    (sSeq (sOwn 1 aNil)
    (sSeq (sFor (fIt (fCall m_law_rows (aCons (fCall gLen (aCons (fOp gIx (fVar 0) (fC (.int 1))) aNil)) aNil))) (gNm 2) l_law_all_plans_1)
    (sFrz 1 (sRet (fCall (gOne dSorted) (aCons (fVar 1) aNil))))))
def m_law_all_plans : List D → R D := runB 1 9 b_law_all_plans
theorem q_law_all_plans (a0 : D) : m_law_all_plans [a0] = endF (b_law_all_plans [.dat a0, .non, .non, .non, .non, .non, .non, .non, .non]) := rfl

abbrev l_law_first_0 : Dl.Env → Fl :=
    (sSeq (sAsg (fOp gAdd (fLc (fIt (fOp gIx (fVar 2) (fC (.int 0)))) (gNm 8) (fT (fOp gNotIn (fVar 8) (fOp gIx (fVar 5) (fC (.int 0))))) (fVar 8) [8]) (fLc (fIt (fOp gIx (fVar 2) (fC (.int 1)))) (gNm 8) (fT (fOp gNotIn (fVar 8) (fOp gIx (fVar 5) (fC (.int 1))))) (fVar 8) [8])) (gNm 7))
    (sIf (fAnd (fT (fOp gGe (fVar 6) (fVar 1))) (fT (fOp gEq (fVar 7) (fLst aNil)))) (sRet (fVar 5)) sNil))
def b_law_first : Dl.Env → Fl :=
    (sSeq (sFor (fIt (fVar 0)) (gTp (gCons (gNm 3) (gCons (gNm 4) (gCons (gNm 5) (gCons (gNm 6) gNil))))) l_law_first_0)
    (sRet (fC (.str "NoPlan"))))
def m_law_first : List D → R D := runB 3 9 b_law_first
theorem q_law_first (a0 a1 a2 : D) : m_law_first [a0, a1, a2] = endF (b_law_first [.dat a0, .dat a1, .dat a2, .non, .non, .non, .non, .non, .non]) := rfl

def b_divisor : Dl.Env → Fl :=
    (sSeq (whLoop (fT (fOp gNe (fVar 1) (fC (.int 0)))) (sPar2 0 1 (aCons (fVar 1) (aCons (fOp gSub (fVar 0) (fOp gMul (fOp gFdiv (fVar 0) (fVar 1)) (fVar 1))) aNil))) 5000)
    (sRet (fVar 0)))
def m_divisor : List D → R D := runB 2 2 b_divisor
theorem q_divisor (a0 a1 : D) : m_divisor [a0, a1] = endF (b_divisor [.dat a0, .dat a1]) := rfl

def b_is_fraction : Dl.Env → Fl :=
    (sSeq (sIf (fOr (fNot (fT (fUn (gIsi "tuple") (fVar 0)))) (fT (fOp gNe (fCall gLen (aCons (fVar 0) aNil)) (fC (.int 2))))) (sRet (fC (.bool false))) sNil)
    (sSeq (sIf (fNot (fT (fCall (gOne dAll) (aCons (fLc (fIt (fVar 0)) (gNm 1) tYesD (fAndV (fUn (gIsi "int") (fVar 1)) (fAndV (fNotV (fUn (gIsi "bool") (fVar 1))) (fChain gLe gLe (fC (.int 0)) (fVar 1) (fC (.int 1000))))) [1]) aNil)))) (sRet (fC (.bool false))) sNil)
    (sRet (fAndV (fOp gGt (fOp gIx (fVar 0) (fC (.int 1))) (fC (.int 0))) (fOp gEq (fCall m_divisor (aCons (fOp gIx (fVar 0) (fC (.int 0))) (aCons (fOp gIx (fVar 0) (fC (.int 1))) aNil))) (fC (.int 1)))))))
def m_is_fraction : List D → R D := runB 1 2 b_is_fraction
theorem q_is_fraction (a0 : D) : m_is_fraction [a0] = endF (b_is_fraction [.dat a0, .non]) := rfl

def b_plus : Dl.Env → Fl :=
    (sSeq (sPar2 2 3 (aCons (fOp gAdd (fOp gMul (fOp gIx (fVar 0) (fC (.int 0))) (fOp gIx (fVar 1) (fC (.int 1)))) (fOp gMul (fOp gIx (fVar 1) (fC (.int 0))) (fOp gIx (fVar 0) (fC (.int 1))))) (aCons (fOp gMul (fOp gIx (fVar 0) (fC (.int 1))) (fOp gIx (fVar 1) (fC (.int 1)))) aNil)))
    (sSeq (sAsg (fCall m_divisor (aCons (fCall gAbs (aCons (fVar 2) aNil)) (aCons (fVar 3) aNil))) (gNm 4))
    (sRet (fTup (aCons (fOp gFdiv (fVar 2) (fVar 4)) (aCons (fOp gFdiv (fVar 3) (fVar 4)) aNil))))))
def m_plus : List D → R D := runB 2 5 b_plus
theorem q_plus (a0 a1 : D) : m_plus [a0, a1] = endF (b_plus [.dat a0, .dat a1, .non, .non, .non]) := rfl

abbrev l_whole_sum_0 : Dl.Env → Fl :=
    (sAsg (fCall m_plus (aCons (fVar 1) (aCons (fVar 2) aNil))) (gNm 1))
def b_whole_sum : Dl.Env → Fl :=
    (sSeq (sAsg (fTup (aCons (fC (.int 0)) (aCons (fC (.int 1)) aNil))) (gNm 1))
    (sSeq (sFor (fIt (fVar 0)) (gNm 2) l_whole_sum_0)
    (sRet (fVar 1))))
def m_whole_sum : List D → R D := runB 1 3 b_whole_sum
theorem q_whole_sum (a0 : D) : m_whole_sum [a0] = endF (b_whole_sum [.dat a0, .non, .non]) := rfl

abbrev l_need_paper_0 : Dl.Env → Fl :=
    (sSeq (sAsg (fCall m_whole_sum (aCons (fLc (fItA gRng1 (aCons (fCall gLen (aCons (fVar 2) aNil)) aNil)) (gNm 9) (fT (fOp gNe (fCall m_useful (aCons (fVar 0) (aCons (fTup (aCons (fVar 5) aNil)) (aCons (fVar 4) (aCons (fVar 9) aNil))))) (fLst aNil))) (fOp gIx (fVar 2) (fVar 9)) [9]) aNil)) (gNm 6))
    (sSeq (sAsg (fCall m_plus (aCons (fTup (aCons (fOp gIx (fOp gIx (fOp gIx (fVar 0) (fC (.int 1))) (fVar 5)) (fC (.int 1))) (aCons (fC (.int 1)) aNil))) (aCons (fOp gIx (fVar 3) (fVar 5)) aNil))) (gNm 7))
    (sIf (fT (fOp gGt (fOp gMul (fOp gIx (fVar 6) (fC (.int 0))) (fOp gIx (fVar 7) (fC (.int 1)))) (fOp gMul (fOp gIx (fVar 7) (fC (.int 0))) (fOp gIx (fVar 6) (fC (.int 1)))))) (sRaise "BadPaper") sNil)))
def b_need_paper : Dl.Env → Fl :=
    (sSeq (sIf (fOr (fNot (fT (fUn (gIsi "tuple") (fVar 1)))) (fOr (fT (fOp gNe (fCall gLen (aCons (fVar 1) aNil)) (fC (.int 2)))) (fNot (fT (fCall (gOne dAll) (aCons (fLc (fIt (fVar 1)) (gNm 8) tYesD (fUn (gIsi "tuple") (fVar 8)) [8]) aNil)))))) (sRaise "BadPaper") sNil)
    (sSeq (sAsg (fVar 1) (gTp (gCons (gNm 2) (gCons (gNm 3) gNil))))
    (sSeq (sIf (fOr (fT (fOp gNe (fCall gLen (aCons (fVar 2) aNil)) (fCall gLen (aCons (fOp gIx (fVar 0) (fC (.int 0))) aNil)))) (fT (fOp gNe (fCall gLen (aCons (fVar 3) aNil)) (fCall gLen (aCons (fOp gIx (fVar 0) (fC (.int 1))) aNil))))) (sRaise "BadPaper") sNil)
    (sSeq (sIf (fOr (fNot (fT (fCall (gOne dAll) (aCons (fLc (fIt (fVar 2)) (gNm 9) tYesD (fCall m_is_fraction (aCons (fVar 9) aNil)) [9]) aNil)))) (fNot (fT (fCall (gOne dAll) (aCons (fLc (fIt (fVar 3)) (gNm 9) tYesD (fCall m_is_fraction (aCons (fVar 9) aNil)) [9]) aNil))))) (sRaise "BadPaper") sNil)
    (sSeq (sAsg (fRg1 gTupRg (fCall gLen (aCons (fOp gIx (fVar 0) (fC (.int 2))) aNil))) (gNm 4))
    (sFor (fItA gRng1 (aCons (fCall gLen (aCons (fVar 3) aNil)) aNil)) (gNm 5) l_need_paper_0))))))
def m_need_paper : List D → R D := runB 2 10 b_need_paper
theorem q_need_paper (a0 a1 : D) : m_need_paper [a0, a1] = endF (b_need_paper [.dat a0, .dat a1, .non, .non, .non, .non, .non, .non, .non, .non]) := rfl

def b_worth : Dl.Env → Fl :=
    (sSeq (sExpr (fCall m_need_belt (aCons (fVar 0) aNil)))
    (sSeq (sExpr (fCall m_need_count (aCons (fVar 1) aNil)))
    (sSeq (sExpr (fCall m_need_paper (aCons (fVar 0) (aCons (fVar 2) aNil))))
    (sSeq (sPar2 3 4 (aCons (fCall m_whole_sum (aCons (fOp gIx (fVar 2) (fC (.int 0))) aNil)) (aCons (fCall m_whole_sum (aCons (fOp gIx (fVar 2) (fC (.int 1))) aNil)) aNil)))
    (sRet (fCall m_plus (aCons (fTup (aCons (fOp gMul (fOp gIx (fVar 3) (fC (.int 0))) (fOp gAdd (fVar 1) (fC (.int 1)))) (aCons (fOp gIx (fVar 3) (fC (.int 1))) aNil))) (aCons (fTup (aCons (fOp gSub (fC (.int 0)) (fOp gIx (fVar 4) (fC (.int 0)))) (aCons (fOp gIx (fVar 4) (fC (.int 1))) aNil))) aNil))))))))
def m_worth : List D → R D := runB 3 5 b_worth
theorem q_worth (a0 a1 a2 : D) : m_worth [a0, a1, a2] = endF (b_worth [.dat a0, .dat a1, .dat a2, .non, .non]) := rfl

abbrev l_floor_of_0 : Dl.Env → Fl :=
    (sSeq (sAsg (fCall (gOne dSorted) (aCons (fLc (fIt (fCall m_useful (aCons (fVar 0) (aCons (fRg1 gLstRg (fCall gLen (aCons (fOp gIx (fVar 0) (fC (.int 1))) aNil))) (aCons (fVar 2) (aCons (fVar 4) aNil)))))) (gNm 6) tYesD (fOp gIx (fOp gIx (fOp gIx (fVar 0) (fC (.int 1))) (fVar 6)) (fC (.int 1))) [6]) aNil)) (gNm 5))
    (sSeq (sIf (fT (fOp gLe (fCall gLen (aCons (fVar 5) aNil)) (fVar 1))) (sRet (fC .none)) sNil)
    (sAsg (fCall gMax2 (aCons (fVar 3) (aCons (fCall (gOne dSum) (aCons (fSl (fVar 5) oNone (oSome (fOp gAdd (fVar 1) (fC (.int 1))))) aNil)) aNil))) (gNm 3))))
def b_floor_of : Dl.Env → Fl :=
    (sSeq (sExpr (fCall m_need_belt (aCons (fVar 0) aNil)))
    (sSeq (sExpr (fCall m_need_count (aCons (fVar 1) aNil)))
    (sSeq (sPar2 2 3 (aCons (fRg1 gTupRg (fCall gLen (aCons (fOp gIx (fVar 0) (fC (.int 2))) aNil))) (aCons (fC (.int 0)) aNil)))
    (sSeq (sFor (fItA gRng1 (aCons (fCall gLen (aCons (fOp gIx (fVar 0) (fC (.int 0))) aNil)) aNil)) (gNm 4) l_floor_of_0)
    (sRet (fOp gAdd (fVar 3) (fCall (gOne dMin) (aCons (fLc (fIt (fOp gIx (fVar 0) (fC (.int 2)))) (gNm 7) tYesD (fOp gIx (fVar 7) (fC (.int 1))) [7]) aNil))))))))
def m_floor_of : List D → R D := runB 2 8 b_floor_of
theorem q_floor_of (a0 a1 : D) : m_floor_of [a0, a1] = endF (b_floor_of [.dat a0, .dat a1, .non, .non, .non, .non, .non, .non]) := rfl

def b_law_least_told : Dl.Env → Fl :=
    (sSeq (sPar2 2 3 (aCons (fCall gAbs (aCons (fVar 0) aNil)) (aCons (fVar 1) aNil)))
    (sSeq (whLoop (fT (fOp gNe (fVar 3) (fC (.int 0)))) (sPar2 2 3 (aCons (fVar 3) (aCons (fOp gMod (fVar 2) (fVar 3)) aNil))) 5000)
    (sRet (fTup (aCons (fOp gFdiv (fVar 0) (fVar 2)) (aCons (fOp gFdiv (fVar 1) (fVar 2)) aNil))))))
def m_law_least_told : List D → R D := runB 2 4 b_law_least_told
theorem q_law_least_told (a0 a1 : D) : m_law_least_told [a0, a1] = endF (b_law_least_told [.dat a0, .dat a1, .non, .non]) := rfl

def b_law_fraction : Dl.Env → Fl :=
    (sSeq (sAsg (fOp gAdd (fC (.int 1)) (fOp gMod (fOp gFdiv (fVar 0) (fC (.int 16))) (fC (.int 4)))) (gNm 2))
    (sRet (fCall m_law_least_told (aCons (fOp gMod (fOp gFdiv (fVar 0) (fC (.int 256))) (fOp gAdd (fOp gMul (fVar 1) (fVar 2)) (fC (.int 1)))) (aCons (fVar 2) aNil)))))
def m_law_fraction : List D → R D := runB 2 3 b_law_fraction
theorem q_law_fraction (a0 a1 : D) : m_law_fraction [a0, a1] = endF (b_law_fraction [.dat a0, .dat a1, .non]) := rfl

abbrev l_law_is_paper_0 : Dl.Env → Fl :=
    (sSeq (sAsg (fCall (gOne dSum) (aCons (fLc (fIt (fVar 6)) (gNm 8) (fT (fChain gLe gLe (fOp gIx (fOp gIx (fVar 0) (fC (.int 0))) (fVar 8)) (fVar 4) (fVar 2))) (fOp gFdiv (fOp gMul (fOp gIx (fOp gIx (fOp gIx (fVar 1) (fC (.int 0))) (fVar 8)) (fC (.int 0))) (fC (.int 12))) (fOp gIx (fOp gIx (fOp gIx (fVar 1) (fC (.int 0))) (fVar 8)) (fC (.int 1)))) [8]) aNil)) (gNm 7))
    (sIf (fT (fOp gGt (fVar 7) (fOp gAdd (fOp gMul (fC (.int 12)) (fVar 5)) (fOp gFdiv (fOp gMul (fOp gIx (fOp gIx (fOp gIx (fVar 1) (fC (.int 1))) (fVar 3)) (fC (.int 0))) (fC (.int 12))) (fOp gIx (fOp gIx (fOp gIx (fVar 1) (fC (.int 1))) (fVar 3)) (fC (.int 1))))))) (sRet (fC (.bool false))) sNil))
def b_law_is_paper : Dl.Env → Fl :=
    (sSeq (sAsg (fCall (gOne dMax) (aCons (fOp gAdd (fLst (aCons (fUn gNeg (fC (.int 1))) aNil)) (fLc (fIt (fOp gIx (fVar 0) (fC (.int 2)))) (gTp (gCons (gNm 4) (gCons (gNm 5) gNil))) tYesD (fVar 4) [4, 5])) aNil)) (gNm 2))
    (sSeq (sFor (fItA gEnum (aCons (fOp gIx (fVar 0) (fC (.int 1))) aNil)) (gTp (gCons (gNm 3) (gCons (gTp (gCons (gNm 4) (gCons (gNm 5) (gCons (gNm 6) gNil)))) gNil))) l_law_is_paper_0)
    (sRet (fC (.bool true)))))
def m_law_is_paper : List D → R D := runB 2 9 b_law_is_paper
theorem q_law_is_paper (a0 a1 : D) : m_law_is_paper [a0, a1] = endF (b_law_is_paper [.dat a0, .dat a1, .non, .non, .non, .non, .non, .non, .non]) := rfl

abbrev l_law_least_cost_0 : Dl.Env → Fl :=
    (sIf (fT (fOp gNe (fVar 3) (fTup aNil))) (sSeq (sAsg (fCall (gOne dMax) (aCons (fLc (fIt (fVar 3)) (gNm 6) tYesD (fOp gIx (fOp gIx (fOp gIx (fVar 0) (fC (.int 2))) (fVar 6)) (fC (.int 0))) [6]) aNil)) (gNm 4))
    (sSeq (sAsg (fCall (gOne dSorted) (aCons (fLc (fIt (fOp gIx (fVar 0) (fC (.int 1)))) (gTp (gCons (gNm 7) (gCons (gNm 8) (gCons (gNm 6) gNil)))) (fAnd (fT (fOp gEq (fVar 6) (fTup (aCons (fC (.int 0)) aNil)))) (fT (fChain gLe gLe (fOp gIx (fOp gIx (fVar 0) (fC (.int 0))) (fC (.int 0))) (fVar 7) (fVar 4)))) (fVar 8) [7, 8, 6]) aNil)) (gNm 5))
    (sIf (fT (fOp gGt (fCall gLen (aCons (fVar 5) aNil)) (fVar 1))) (sApp 2 (fOp gAdd (fCall (gOne dSum) (aCons (fSl (fVar 5) oNone (oSome (fOp gAdd (fVar 1) (fC (.int 1))))) aNil)) (fCall (gOne dSum) (aCons (fLc (fIt (fVar 3)) (gNm 6) tYesD (fOp gIx (fOp gIx (fOp gIx (fVar 0) (fC (.int 2))) (fVar 6)) (fC (.int 1))) [6]) aNil)))) sNil))) sNil)
def b_law_least_cost : Dl.Env → Fl :=
    (sSeq (sOwn 2 aNil)
    (sSeq (sFor (fIt (fCall m_law_rows (aCons (fCall gLen (aCons (fOp gIx (fVar 0) (fC (.int 2))) aNil)) aNil))) (gNm 3) l_law_least_cost_0)
    (sFrz 2 (sRet (fIf (fT (fOp gNe (fVar 2) (fLst aNil))) (fCall (gOne dMin) (aCons (fVar 2) aNil)) (fC .none))))))
def m_law_least_cost : List D → R D := runB 2 9 b_law_least_cost
theorem q_law_least_cost (a0 a1 : D) : m_law_least_cost [a0, a1] = endF (b_law_least_cost [.dat a0, .dat a1, .non, .non, .non, .non, .non, .non, .non]) := rfl

def b_seen : Dl.Env → Fl :=
    (sSeq (sExpr (fCall m_need_belt (aCons (fVar 0) aNil)))
    (sSeq (sIf (fNot (fT (fCall m_is_count (aCons (fVar 1) (aCons (fC (.int 0)) (aCons (fOp gSub (fCall gLen (aCons (fOp gIx (fVar 0) (fC (.int 1))) aNil)) (fC (.int 1))) aNil)))))) (sRaise "BadBelt") sNil)
    (sRet (fLc (fItA gRng1 (aCons (fCall gLen (aCons (fOp gIx (fVar 0) (fC (.int 0))) aNil)) aNil)) (gNm 2) (fT (fCall m_sees (aCons (fVar 0) (aCons (fVar 1) (aCons (fVar 2) aNil))))) (fVar 2) [2]))))
def m_seen : List D → R D := runB 2 3 b_seen
theorem q_seen (a0 a1 : D) : m_seen [a0, a1] = endF (b_seen [.dat a0, .dat a1, .non]) := rfl

abbrev l_law_turned_0 : Dl.Env → Fl :=
    (sApp 4 (fTup (aCons (fOp gAdd (fVar 5) (fVar 1)) (aCons (fVar 6) (aCons (fCall gTuple (aCons (fLc (fIt (fUn gRevA (fVar 7))) (gNm 8) tYesD (fOp gSub (fOp gSub (fVar 2) (fC (.int 1))) (fVar 8)) [8]) aNil)) aNil)))))
def b_law_turned : Dl.Env → Fl :=
    (sSeq (sAsg (fCall gLen (aCons (fOp gIx (fVar 0) (fC (.int 0))) aNil)) (gNm 2))
    (sSeq (sAsg (fCall gTuple (aCons (fLc (fIt (fUn gRevA (fOp gIx (fVar 0) (fC (.int 0))))) (gNm 5) tYesD (fOp gAdd (fVar 5) (fVar 1)) [5]) aNil)) (gNm 3))
    (sSeq (sOwn 4 aNil)
    (sSeq (sFor (fIt (fUn gRevA (fOp gIx (fVar 0) (fC (.int 1))))) (gTp (gCons (gNm 5) (gCons (gNm 6) (gCons (gNm 7) gNil)))) l_law_turned_0)
    (sFrz 4 (sRet (fTup (aCons (fVar 3) (aCons (fCall gTuple (aCons (fVar 4) aNil)) (aCons (fCall gTuple (aCons (fLc (fIt (fUn gRevA (fOp gIx (fVar 0) (fC (.int 2))))) (gTp (gCons (gNm 5) (gCons (gNm 6) gNil))) tYesD (fTup (aCons (fOp gAdd (fVar 5) (fVar 1)) (aCons (fVar 6) aNil))) [5, 6]) aNil)) aNil))))))))))
def m_law_turned : List D → R D := runB 2 9 b_law_turned
theorem q_law_turned (a0 a1 : D) : m_law_turned [a0, a1] = endF (b_law_turned [.dat a0, .dat a1, .non, .non, .non, .non, .non, .non, .non]) := rfl

def b_law_mirror : Dl.Env → Fl :=
    (sRet (fCall gTuple (aCons (fLc (fIt (fUn gRevA (fVar 0))) (gNm 2) tYesD (fOp gSub (fOp gSub (fVar 1) (fC (.int 1))) (fVar 2)) [2]) aNil)))
def m_law_mirror : List D → R D := runB 2 3 b_law_mirror
theorem q_law_mirror (a0 a1 : D) : m_law_mirror [a0, a1] = endF (b_law_mirror [.dat a0, .dat a1, .non]) := rfl

abbrev l_law_bottles_alike_0 : Dl.Env → Fl :=
    (sSeq (sAsg (fCall m_law_drawn (aCons (fVar 4) (aCons (fOp gAdd (fC (.int 40)) (fVar 5)) aNil))) (gNm 6))
    (sSeq (sAsg (fCall m_law_some (aCons (fVar 6) (aCons (fCall gLen (aCons (fOp gIx (fVar 0) (fC (.int 0))) aNil)) (aCons (fC (.int 2)) aNil)))) (gNm 7))
    (sSeq (sAsg (fCall gTuple (aCons (fLc (fIt (fOp gIx (fVar 1) (fC (.int 0)))) (gNm 12) (fT (fOp gEq (fOp gMod (fOp gFdiv (fCall m_law_drawn (aCons (fVar 6) (aCons (fVar 12) aNil))) (fC (.int 16))) (fC (.int 3))) (fC (.int 0)))) (fVar 12) [12]) aNil)) (gNm 8))
    (sSeq (sAsg (fCall m_out (aCons (fVar 0) (aCons (fVar 1) (aCons (fVar 7) (aCons (fVar 8) aNil))))) (gNm 9))
    (sSeq (sAsg (fCall m_out (aCons (fVar 2) (aCons (fVar 3) (aCons (fCall m_law_mirror (aCons (fVar 7) (aCons (fCall gLen (aCons (fOp gIx (fVar 0) (fC (.int 0))) aNil)) aNil))) (aCons (fCall m_law_mirror (aCons (fVar 8) (aCons (fCall gLen (aCons (fOp gIx (fVar 0) (fC (.int 1))) aNil)) aNil))) aNil))))) (gNm 10))
    (sSeq (sIf (fT (fOp gNe (fOp gIsN (fVar 9) (fC .none)) (fOp gIsN (fVar 10) (fC .none)))) (sRet (fC (.bool false))) sNil)
    (sSeq (sAsg (fOp gSub (fOp gIx (fOp gIx (fVar 2) (fC (.int 0))) (fC (.int 0))) (fOp gIx (fOp gIx (fVar 0) (fC (.int 0))) (fUn gNeg (fC (.int 1))))) (gNm 11))
    (sIf (fAnd (fT (fOp gNotN (fVar 9) (fC .none))) (fT (fOp gNe (fOp gAdd (fOp gIx (fOp gIx (fOp gIx (fVar 0) (fC (.int 1))) (fOp gIx (fVar 9) (fC (.int 0)))) (fC (.int 0))) (fVar 11)) (fOp gIx (fOp gIx (fOp gIx (fVar 2) (fC (.int 1))) (fOp gIx (fVar 10) (fC (.int 0)))) (fC (.int 0)))))) (sRet (fC (.bool false))) sNil))))))))
def b_law_bottles_alike : Dl.Env → Fl :=
    (sSeq (sFor (fItA gRng1 (aCons (fC (.int 6)) aNil)) (gNm 5) l_law_bottles_alike_0)
    (sRet (fC (.bool true))))
def m_law_bottles_alike : List D → R D := runB 5 13 b_law_bottles_alike
theorem q_law_bottles_alike (a0 a1 a2 a3 a4 : D) : m_law_bottles_alike [a0, a1, a2, a3, a4] = endF (b_law_bottles_alike [.dat a0, .dat a1, .dat a2, .dat a3, .dat a4, .non, .non, .non, .non, .non, .non, .non, .non]) := rfl

end Bl
namespace Bl
open PySem L2 Dl
structure Spot where
  at_ : Nat
  cost : Nat
  own : List Nat
structure Belt where
  F : List Nat
  S : List Spot
  K : List (Nat × Nat)
abbrev eS (s : Spot) : D := .tuple [nD s.at_, nD s.cost, tN s.own]
abbrev eK (k : Nat × Nat) : D := .tuple [nD k.1, nD k.2]
abbrev eB (b : Belt) : D := .tuple [tN b.F, .tuple (b.S.map eS), .tuple (b.K.map eK)]
abbrev eP (ss ks : List Nat) : D := .tuple [tN ss, tN ks]
def adj : List Nat → Bool
  | a :: b :: r => decide (a < b) && adj (b :: r)
  | _ => true
def rise (m : Nat) (xs : List Nat) : Bool := xs.all (fun x => decide (x < m)) && adj xs
def Rise (m : Nat) (xs : List Nat) : Prop := (∀ x ∈ xs, x < m) ∧ xs.Pairwise (· < ·)
theorem adj_iff : ∀ xs : List Nat, adj xs = true ↔ xs.Pairwise (· < ·)
  | [] => by simp [adj]
  | [a] => by simp [adj]
  | a :: b :: r => by
    have ih := adj_iff (b :: r)
    show (decide (a < b) && adj (b :: r)) = true ↔ _
    rw [Bool.and_eq_true, ih, decide_eq_true_iff, List.pairwise_cons (l := b :: r)]
    constructor
    · rintro ⟨h, hp⟩
      refine ⟨fun y hy => ?_, hp⟩
      rcases List.mem_cons.mp hy with rfl | hy
      · exact h
      · exact Nat.lt_trans h ((List.pairwise_cons.mp hp).1 y hy)
    · rintro ⟨h, hp⟩
      exact ⟨h b List.mem_cons_self, hp⟩
theorem rise_iff (m : Nat) (xs : List Nat) : rise m xs = true ↔ Rise m xs := by
  unfold rise Rise
  rw [Bool.and_eq_true, adj_iff, List.all_eq_true]
  simp
theorem is_count_i (n lo hi : Int) : m_is_count [.int n, .int lo, .int hi] = .ok (.bool (decide (lo ≤ n) && decide (n ≤ hi))) := by
  rw [q_is_count]
  unfold b_is_count
  simp
  by_cases h : lo ≤ n <;> simp [h]
theorem cut_init {α : Type} (xs : List α) : cutD xs none (some (-1)) = xs.take (xs.length - 1) := by
  unfold cutD HT.sIx
  simp
  congr 1
  omega
theorem cut_tail {α : Type} (xs : List α) : cutD xs (some 1) none = xs.tail := by
  have : HT.sIx xs.length 0 (some 1) = min 1 xs.length := HT.sIx_nat xs.length 0 1
  unfold cutD
  rw [this, HT.sIx_none]
  rcases xs with _ | ⟨x, xs⟩
  · rfl
  · have : min 1 (x :: xs).length = 1 := by simp
    rw [this, List.take_of_length_le (by simp)]
    rfl
theorem zipD_map (xs ys : List Nat) : zipD (xs.map nD) (ys.map nD) = (xs.zip ys).map fun p => PyData.tuple [nD p.1, nD p.2] := by
  unfold zipD
  rw [List.zipWith_map, List.zip, List.map_zipWith]
theorem adj_zip : ∀ xs : List Nat, ((xs.take (xs.length - 1)).zip xs.tail).all (fun p => decide (p.1 < p.2)) = adj xs
  | [] => rfl
  | [a] => rfl
  | a :: b :: r => by
    have ih := adj_zip (b :: r)
    show _ = (decide (a < b) && adj (b :: r))
    rw [← ih]
    rfl
theorem is_rising_e (xs : List Nat) (m : Nat) (hl : xs.length ≤ 16777216) : m_is_rising [tN xs, nD m] = .ok (.bool (rise m xs)) := by
  · have h1 : fLc (fIt (fVar 0)) (gNm 2) tYesD (fCall m_is_count (aCons (fVar 2) (aCons (fC (.int 0)) (aCons (fOp gSub (fVar 1) (fC (.int 1))) aNil)))) [2] [.dat (tN xs), .dat (nD m), .non, .non] = .ok (.list (xs.map fun x => .bool (decide (x < m)))) := by
      refine fLc_map nD _ xs (by simp) hl fun x _ => ?_
      simp [lcOne, is_count_i]
      omega
    have h2 : fLc (fItA gZip (aCons (fSl (fVar 0) oNone (oSome (fUn gNeg (fC (.int 1))))) (aCons (fSl (fVar 0) (oSome (fC (.int 1))) oNone) aNil))) (gTp (gCons (gNm 2) (gCons (gNm 3) gNil))) tYesD (fOp gLt (fVar 2) (fVar 3)) [2, 3] [.dat (tN xs), .dat (nD m), .non, .non] = .ok (.list (((xs.take (xs.length - 1)).zip xs.tail).map fun p => .bool (decide (p.1 < p.2)))) := by
      refine fLc_map (fun p => PyData.tuple [nD p.1, nD p.2]) _ _ ?_ (by simp; omega) fun x _ => ?_
      · simp [fSl, oNone, oSome, gSl, cut_init, cut_tail]
        rw [← List.map_tail, ← List.map_take, zipD_map]
      · simp [lcOne]
    rw [q_is_rising]
    unfold b_is_rising
    unfold rise
    cases ha : xs.all (fun x => decide (x < m)) with
    | false =>
      rw [sSeq_r (d := .bool false) (h := by simp only [bnd_ok, bnd_err, then_ok, then_err, fVar0, fVarS, fC_e, fOp_e, fUn_e, asB_e, asI_e, fT_e, fAnd_e, fOr_e, fNot_e, fAndV_e, fOrV_e, fNotV_e, fIf_e, fChain_e, aNil_e, aCons_e, fTup_e, fLst_e, fCall_e, dTup_e, dLst_e, gAdd_i, gSub_i, gNeg_i, gEq_i, gNe_i, gLt_i, gLe_i, gGt_i, gGe_i, gIsN_e, gNotN_e, isN_n, isN_i, isN_t, isN_l, isN_b, gIsi_e, tyD_n, tyD_i, tyD_t, tyD_l, tyD_b, tyD_s, isaT_ii, isaT_bi, isaT_ib, isaT_bb, isaT_tt, isaT_ll, isaT_tb, isaT_ti, isaT_it, isaT_bt, isaT_lt, isaT_nt, isaT_st, gLen_l, gLen_t, gOne_l, gTuple_l, gTuple_t, gInt_b, gMin2_e, gMax2_e, fIt_e, items_l, items_t, fItA_e, gEnum_e, gZip_t, gNm0, gNmS, gNil_e, gCons_e, gTp_e, wipe0, wipeS, tYesD_e, sNil_e, sExpr_e, sRet_e, sRaise_e, sIf_e, sAsg_e, asF_e, sFor_e, endF_r, endF_n, endF_x, asO_s, fRg1_e, sFrz_e, gIx_t0, gIx_t1, gIx_t2, gIx_l0, gIx_l1, gIx_l2, Option.map_some, Option.bind_some, List.set_cons_succ, List.set_cons_zero, List.getElem?_cons_succ, List.getElem?_cons_zero, Bool.not_true, Bool.not_false, Bool.false_eq_true, ↓reduceIte, List.length_cons, List.length_nil, List.map_cons, List.map_nil, Nat.reduceAdd, Nat.reduceLeDiff, Nat.reduceLT, Bool.true_and, Bool.and_true, Bool.false_and, Bool.and_false, List.length_map, Nat.zero_le, h1, dAll_map, ha])]
      simp only [bnd_ok, bnd_err, then_ok, then_err, fVar0, fVarS, fC_e, fOp_e, fUn_e, asB_e, asI_e, fT_e, fAnd_e, fOr_e, fNot_e, fAndV_e, fOrV_e, fNotV_e, fIf_e, fChain_e, aNil_e, aCons_e, fTup_e, fLst_e, fCall_e, dTup_e, dLst_e, gAdd_i, gSub_i, gNeg_i, gEq_i, gNe_i, gLt_i, gLe_i, gGt_i, gGe_i, gIsN_e, gNotN_e, isN_n, isN_i, isN_t, isN_l, isN_b, gIsi_e, tyD_n, tyD_i, tyD_t, tyD_l, tyD_b, tyD_s, isaT_ii, isaT_bi, isaT_ib, isaT_bb, isaT_tt, isaT_ll, isaT_tb, isaT_ti, isaT_it, isaT_bt, isaT_lt, isaT_nt, isaT_st, gLen_l, gLen_t, gOne_l, gTuple_l, gTuple_t, gInt_b, gMin2_e, gMax2_e, fIt_e, items_l, items_t, fItA_e, gEnum_e, gZip_t, gNm0, gNmS, gNil_e, gCons_e, gTp_e, wipe0, wipeS, tYesD_e, sNil_e, sExpr_e, sRet_e, sRaise_e, sIf_e, sAsg_e, asF_e, sFor_e, endF_r, endF_n, endF_x, asO_s, fRg1_e, sFrz_e, gIx_t0, gIx_t1, gIx_t2, gIx_l0, gIx_l1, gIx_l2, Option.map_some, Option.bind_some, List.set_cons_succ, List.set_cons_zero, List.getElem?_cons_succ, List.getElem?_cons_zero, Bool.not_true, Bool.not_false, Bool.false_eq_true, ↓reduceIte, List.length_cons, List.length_nil, List.map_cons, List.map_nil, Nat.reduceAdd, Nat.reduceLeDiff, Nat.reduceLT, Bool.true_and, Bool.and_true, Bool.false_and, Bool.and_false, List.length_map, Nat.zero_le]
    | true =>
      rw [sSeq_n (h := by simp only [bnd_ok, bnd_err, then_ok, then_err, fVar0, fVarS, fC_e, fOp_e, fUn_e, asB_e, asI_e, fT_e, fAnd_e, fOr_e, fNot_e, fAndV_e, fOrV_e, fNotV_e, fIf_e, fChain_e, aNil_e, aCons_e, fTup_e, fLst_e, fCall_e, dTup_e, dLst_e, gAdd_i, gSub_i, gNeg_i, gEq_i, gNe_i, gLt_i, gLe_i, gGt_i, gGe_i, gIsN_e, gNotN_e, isN_n, isN_i, isN_t, isN_l, isN_b, gIsi_e, tyD_n, tyD_i, tyD_t, tyD_l, tyD_b, tyD_s, isaT_ii, isaT_bi, isaT_ib, isaT_bb, isaT_tt, isaT_ll, isaT_tb, isaT_ti, isaT_it, isaT_bt, isaT_lt, isaT_nt, isaT_st, gLen_l, gLen_t, gOne_l, gTuple_l, gTuple_t, gInt_b, gMin2_e, gMax2_e, fIt_e, items_l, items_t, fItA_e, gEnum_e, gZip_t, gNm0, gNmS, gNil_e, gCons_e, gTp_e, wipe0, wipeS, tYesD_e, sNil_e, sExpr_e, sRet_e, sRaise_e, sIf_e, sAsg_e, asF_e, sFor_e, endF_r, endF_n, endF_x, asO_s, fRg1_e, sFrz_e, gIx_t0, gIx_t1, gIx_t2, gIx_l0, gIx_l1, gIx_l2, Option.map_some, Option.bind_some, List.set_cons_succ, List.set_cons_zero, List.getElem?_cons_succ, List.getElem?_cons_zero, Bool.not_true, Bool.not_false, Bool.false_eq_true, ↓reduceIte, List.length_cons, List.length_nil, List.map_cons, List.map_nil, Nat.reduceAdd, Nat.reduceLeDiff, Nat.reduceLT, Bool.true_and, Bool.and_true, Bool.false_and, Bool.and_false, List.length_map, Nat.zero_le, h1, dAll_map, ha]; rfl)]
      simp only [bnd_ok, bnd_err, then_ok, then_err, fVar0, fVarS, fC_e, fOp_e, fUn_e, asB_e, asI_e, fT_e, fAnd_e, fOr_e, fNot_e, fAndV_e, fOrV_e, fNotV_e, fIf_e, fChain_e, aNil_e, aCons_e, fTup_e, fLst_e, fCall_e, dTup_e, dLst_e, gAdd_i, gSub_i, gNeg_i, gEq_i, gNe_i, gLt_i, gLe_i, gGt_i, gGe_i, gIsN_e, gNotN_e, isN_n, isN_i, isN_t, isN_l, isN_b, gIsi_e, tyD_n, tyD_i, tyD_t, tyD_l, tyD_b, tyD_s, isaT_ii, isaT_bi, isaT_ib, isaT_bb, isaT_tt, isaT_ll, isaT_tb, isaT_ti, isaT_it, isaT_bt, isaT_lt, isaT_nt, isaT_st, gLen_l, gLen_t, gOne_l, gTuple_l, gTuple_t, gInt_b, gMin2_e, gMax2_e, fIt_e, items_l, items_t, fItA_e, gEnum_e, gZip_t, gNm0, gNmS, gNil_e, gCons_e, gTp_e, wipe0, wipeS, tYesD_e, sNil_e, sExpr_e, sRet_e, sRaise_e, sIf_e, sAsg_e, asF_e, sFor_e, endF_r, endF_n, endF_x, asO_s, fRg1_e, sFrz_e, gIx_t0, gIx_t1, gIx_t2, gIx_l0, gIx_l1, gIx_l2, Option.map_some, Option.bind_some, List.set_cons_succ, List.set_cons_zero, List.getElem?_cons_succ, List.getElem?_cons_zero, Bool.not_true, Bool.not_false, Bool.false_eq_true, ↓reduceIte, List.length_cons, List.length_nil, List.map_cons, List.map_nil, Nat.reduceAdd, Nat.reduceLeDiff, Nat.reduceLT, Bool.true_and, Bool.and_true, Bool.false_and, Bool.and_false, List.length_map, Nat.zero_le, h2, dAll_map, adj_zip]
structure Belt.Ok (b : Belt) : Prop where
  f1 : 1 ≤ b.F.length
  f6 : b.F.length ≤ 6
  s8 : b.S.length ≤ 8
  k3 : b.K.length ≤ 3
  f : ∀ p ∈ b.F, p ≤ 99
  s : ∀ s ∈ b.S, s.at_ ≤ 99 ∧ 1 ≤ s.cost ∧ s.cost ≤ 20 ∧ Rise b.F.length s.own
  k : ∀ k ∈ b.K, k.1 ≤ 99 ∧ k.2 ≤ 20
theorem rise_len {m : Nat} {xs : List Nat} (h : Rise m xs) : xs.length ≤ m := by
  obtain ⟨h1, h2⟩ := h
  induction m generalizing xs with
  | zero =>
    cases xs with
    | nil => exact Nat.le_refl _
    | cons x xs => exact absurd (h1 x List.mem_cons_self) (Nat.not_lt_zero _)
  | succ m ih =>
    rcases List.eq_nil_or_concat xs with rfl | ⟨ys, y, rfl⟩
    · exact Nat.zero_le _
    · rw [List.concat_eq_append] at *
      rw [List.pairwise_append] at h2
      have := ih (xs := ys) (fun x hx => by
        have := h2.2.2 x hx y (by simp)
        have := h1 y (by simp)
        omega) h2.1
      simp
      omega
theorem is_rising_t {xs : List Nat} {m : Nat} (h : Rise m xs) (hm : m ≤ 1000) : m_is_rising [tN xs, nD m] = .ok (.bool true) := by
  have := rise_len h
  rw [is_rising_e xs m (by omega), (rise_iff m xs).mpr h]
theorem is_spot_t {s : Spot} {m : Nat} (h : s.at_ ≤ 99 ∧ 1 ≤ s.cost ∧ s.cost ≤ 20 ∧ Rise m s.own) (hm : m ≤ 1000) : m_is_spot [eS s, nD m] = .ok (.bool true) := by
  have h1 : m_is_count [nD s.at_, .int 0, .int 99] = .ok (.bool true) := by rw [is_count_i]; simp; omega
  have h2 : m_is_count [nD s.cost, .int 1, .int 20] = .ok (.bool true) := by rw [is_count_i]; simp; omega
  rw [q_is_spot]
  unfold b_is_spot
  rw [sSeq_n (h := by simp only [bnd_ok, bnd_err, then_ok, then_err, fVar0, fVarS, fC_e, fOp_e, fUn_e, asB_e, asI_e, fT_e, fAnd_e, fOr_e, fNot_e, fAndV_e, fOrV_e, fNotV_e, fIf_e, fChain_e, aNil_e, aCons_e, fTup_e, fLst_e, fCall_e, dTup_e, dLst_e, gAdd_i, gSub_i, gNeg_i, gEq_i, gNe_i, gLt_i, gLe_i, gGt_i, gGe_i, gIsN_e, gNotN_e, isN_n, isN_i, isN_t, isN_l, isN_b, gIsi_e, tyD_n, tyD_i, tyD_t, tyD_l, tyD_b, tyD_s, isaT_ii, isaT_bi, isaT_ib, isaT_bb, isaT_tt, isaT_ll, isaT_tb, isaT_ti, isaT_it, isaT_bt, isaT_lt, isaT_nt, isaT_st, gLen_l, gLen_t, gOne_l, gTuple_l, gTuple_t, gInt_b, gMin2_e, gMax2_e, fIt_e, items_l, items_t, fItA_e, gEnum_e, gZip_t, gNm0, gNmS, gNil_e, gCons_e, gTp_e, wipe0, wipeS, tYesD_e, sNil_e, sExpr_e, sRet_e, sRaise_e, sIf_e, sAsg_e, asF_e, sFor_e, endF_r, endF_n, endF_x, asO_s, fRg1_e, sFrz_e, gIx_t0, gIx_t1, gIx_t2, gIx_l0, gIx_l1, gIx_l2, Option.map_some, Option.bind_some, List.set_cons_succ, List.set_cons_zero, List.getElem?_cons_succ, List.getElem?_cons_zero, Bool.not_true, Bool.not_false, Bool.false_eq_true, ↓reduceIte, List.length_cons, List.length_nil, List.map_cons, List.map_nil, Nat.reduceAdd, Nat.reduceLeDiff, Nat.reduceLT, Bool.true_and, Bool.and_true, Bool.false_and, Bool.and_false, List.length_map, Nat.zero_le, h1]; rfl)]
  simp only [bnd_ok, bnd_err, then_ok, then_err, fVar0, fVarS, fC_e, fOp_e, fUn_e, asB_e, asI_e, fT_e, fAnd_e, fOr_e, fNot_e, fAndV_e, fOrV_e, fNotV_e, fIf_e, fChain_e, aNil_e, aCons_e, fTup_e, fLst_e, fCall_e, dTup_e, dLst_e, gAdd_i, gSub_i, gNeg_i, gEq_i, gNe_i, gLt_i, gLe_i, gGt_i, gGe_i, gIsN_e, gNotN_e, isN_n, isN_i, isN_t, isN_l, isN_b, gIsi_e, tyD_n, tyD_i, tyD_t, tyD_l, tyD_b, tyD_s, isaT_ii, isaT_bi, isaT_ib, isaT_bb, isaT_tt, isaT_ll, isaT_tb, isaT_ti, isaT_it, isaT_bt, isaT_lt, isaT_nt, isaT_st, gLen_l, gLen_t, gOne_l, gTuple_l, gTuple_t, gInt_b, gMin2_e, gMax2_e, fIt_e, items_l, items_t, fItA_e, gEnum_e, gZip_t, gNm0, gNmS, gNil_e, gCons_e, gTp_e, wipe0, wipeS, tYesD_e, sNil_e, sExpr_e, sRet_e, sRaise_e, sIf_e, sAsg_e, asF_e, sFor_e, endF_r, endF_n, endF_x, asO_s, fRg1_e, sFrz_e, gIx_t0, gIx_t1, gIx_t2, gIx_l0, gIx_l1, gIx_l2, Option.map_some, Option.bind_some, List.set_cons_succ, List.set_cons_zero, List.getElem?_cons_succ, List.getElem?_cons_zero, Bool.not_true, Bool.not_false, Bool.false_eq_true, ↓reduceIte, List.length_cons, List.length_nil, List.map_cons, List.map_nil, Nat.reduceAdd, Nat.reduceLeDiff, Nat.reduceLT, Bool.true_and, Bool.and_true, Bool.false_and, Bool.and_false, List.length_map, Nat.zero_le, h2, is_rising_t h.2.2.2 hm]
theorem is_kicker_t {k : Nat × Nat} (h : k.1 ≤ 99 ∧ k.2 ≤ 20) : m_is_kicker [eK k] = .ok (.bool true) := by
  have h1 : m_is_count [nD k.1, .int 0, .int 99] = .ok (.bool true) := by rw [is_count_i]; simp; omega
  have h2 : m_is_count [nD k.2, .int 0, .int 20] = .ok (.bool true) := by rw [is_count_i]; simp; omega
  rw [q_is_kicker]
  unfold b_is_kicker
  rw [sSeq_n (h := by simp only [bnd_ok, bnd_err, then_ok, then_err, fVar0, fVarS, fC_e, fOp_e, fUn_e, asB_e, asI_e, fT_e, fAnd_e, fOr_e, fNot_e, fAndV_e, fOrV_e, fNotV_e, fIf_e, fChain_e, aNil_e, aCons_e, fTup_e, fLst_e, fCall_e, dTup_e, dLst_e, gAdd_i, gSub_i, gNeg_i, gEq_i, gNe_i, gLt_i, gLe_i, gGt_i, gGe_i, gIsN_e, gNotN_e, isN_n, isN_i, isN_t, isN_l, isN_b, gIsi_e, tyD_n, tyD_i, tyD_t, tyD_l, tyD_b, tyD_s, isaT_ii, isaT_bi, isaT_ib, isaT_bb, isaT_tt, isaT_ll, isaT_tb, isaT_ti, isaT_it, isaT_bt, isaT_lt, isaT_nt, isaT_st, gLen_l, gLen_t, gOne_l, gTuple_l, gTuple_t, gInt_b, gMin2_e, gMax2_e, fIt_e, items_l, items_t, fItA_e, gEnum_e, gZip_t, gNm0, gNmS, gNil_e, gCons_e, gTp_e, wipe0, wipeS, tYesD_e, sNil_e, sExpr_e, sRet_e, sRaise_e, sIf_e, sAsg_e, asF_e, sFor_e, endF_r, endF_n, endF_x, asO_s, fRg1_e, sFrz_e, gIx_t0, gIx_t1, gIx_t2, gIx_l0, gIx_l1, gIx_l2, Option.map_some, Option.bind_some, List.set_cons_succ, List.set_cons_zero, List.getElem?_cons_succ, List.getElem?_cons_zero, Bool.not_true, Bool.not_false, Bool.false_eq_true, ↓reduceIte, List.length_cons, List.length_nil, List.map_cons, List.map_nil, Nat.reduceAdd, Nat.reduceLeDiff, Nat.reduceLT, Bool.true_and, Bool.and_true, Bool.false_and, Bool.and_false, List.length_map, Nat.zero_le]; rfl)]
  simp only [bnd_ok, bnd_err, then_ok, then_err, fVar0, fVarS, fC_e, fOp_e, fUn_e, asB_e, asI_e, fT_e, fAnd_e, fOr_e, fNot_e, fAndV_e, fOrV_e, fNotV_e, fIf_e, fChain_e, aNil_e, aCons_e, fTup_e, fLst_e, fCall_e, dTup_e, dLst_e, gAdd_i, gSub_i, gNeg_i, gEq_i, gNe_i, gLt_i, gLe_i, gGt_i, gGe_i, gIsN_e, gNotN_e, isN_n, isN_i, isN_t, isN_l, isN_b, gIsi_e, tyD_n, tyD_i, tyD_t, tyD_l, tyD_b, tyD_s, isaT_ii, isaT_bi, isaT_ib, isaT_bb, isaT_tt, isaT_ll, isaT_tb, isaT_ti, isaT_it, isaT_bt, isaT_lt, isaT_nt, isaT_st, gLen_l, gLen_t, gOne_l, gTuple_l, gTuple_t, gInt_b, gMin2_e, gMax2_e, fIt_e, items_l, items_t, fItA_e, gEnum_e, gZip_t, gNm0, gNmS, gNil_e, gCons_e, gTp_e, wipe0, wipeS, tYesD_e, sNil_e, sExpr_e, sRet_e, sRaise_e, sIf_e, sAsg_e, asF_e, sFor_e, endF_r, endF_n, endF_x, asO_s, fRg1_e, sFrz_e, gIx_t0, gIx_t1, gIx_t2, gIx_l0, gIx_l1, gIx_l2, Option.map_some, Option.bind_some, List.set_cons_succ, List.set_cons_zero, List.getElem?_cons_succ, List.getElem?_cons_zero, Bool.not_true, Bool.not_false, Bool.false_eq_true, ↓reduceIte, List.length_cons, List.length_nil, List.map_cons, List.map_nil, Nat.reduceAdd, Nat.reduceLeDiff, Nat.reduceLT, Bool.true_and, Bool.and_true, Bool.false_and, Bool.and_false, List.length_map, Nat.zero_le, h1, h2]
theorem all_true {α : Type} (xs : List α) : dAll (xs.map fun _ => PyData.bool true) = .ok (.bool true) := by
  rw [dAll_map (fun _ => true)]
  simp
theorem is_belt_t {b : Belt} (h : b.Ok) : m_is_belt [eB b] = .ok (.bool true) := by
  have f1 := h.f1; have f6 := h.f6; have s8 := h.s8; have k3 := h.k3
  rw [q_is_belt]
  unfold b_is_belt
  have h0 : fLc (fIt (fVar 0)) (gNm 4) tYesD (fUn (gIsi "tuple") (fVar 4)) [4] [.dat (eB b), .non, .non, .non, .non, .non, .non, .non] = .ok (.list ([tN b.F, PyData.tuple (b.S.map eS), PyData.tuple (b.K.map eK)].map fun _ => .bool true)) := by
    refine fLc_map id _ _ (by simp only [bnd_ok, bnd_err, then_ok, then_err, fVar0, fVarS, fC_e, fOp_e, fUn_e, asB_e, asI_e, fT_e, fAnd_e, fOr_e, fNot_e, fAndV_e, fOrV_e, fNotV_e, fIf_e, fChain_e, aNil_e, aCons_e, fTup_e, fLst_e, fCall_e, dTup_e, dLst_e, gAdd_i, gSub_i, gNeg_i, gEq_i, gNe_i, gLt_i, gLe_i, gGt_i, gGe_i, gIsN_e, gNotN_e, isN_n, isN_i, isN_t, isN_l, isN_b, gIsi_e, tyD_n, tyD_i, tyD_t, tyD_l, tyD_b, tyD_s, isaT_ii, isaT_bi, isaT_ib, isaT_bb, isaT_tt, isaT_ll, isaT_tb, isaT_ti, isaT_it, isaT_bt, isaT_lt, isaT_nt, isaT_st, gLen_l, gLen_t, gOne_l, gTuple_l, gTuple_t, gInt_b, gMin2_e, gMax2_e, fIt_e, items_l, items_t, fItA_e, gEnum_e, gZip_t, gNm0, gNmS, gNil_e, gCons_e, gTp_e, wipe0, wipeS, tYesD_e, sNil_e, sExpr_e, sRet_e, sRaise_e, sIf_e, sAsg_e, asF_e, sFor_e, endF_r, endF_n, endF_x, asO_s, fRg1_e, sFrz_e, gIx_t0, gIx_t1, gIx_t2, gIx_l0, gIx_l1, gIx_l2, Option.map_some, Option.bind_some, List.set_cons_succ, List.set_cons_zero, List.getElem?_cons_succ, List.getElem?_cons_zero, Bool.not_true, Bool.not_false, Bool.false_eq_true, ↓reduceIte, List.length_cons, List.length_nil, List.map_cons, List.map_nil, Nat.reduceAdd, Nat.reduceLeDiff, Nat.reduceLT, Bool.true_and, Bool.and_true, Bool.false_and, Bool.and_false, List.length_map, Nat.zero_le]; rfl) (by simp) fun x hx => ?_
    simp only [List.mem_cons, List.mem_nil_iff, or_false] at hx
    rcases hx with rfl | rfl | rfl <;> simp only [bnd_ok, bnd_err, then_ok, then_err, fVar0, fVarS, fC_e, fOp_e, fUn_e, asB_e, asI_e, fT_e, fAnd_e, fOr_e, fNot_e, fAndV_e, fOrV_e, fNotV_e, fIf_e, fChain_e, aNil_e, aCons_e, fTup_e, fLst_e, fCall_e, dTup_e, dLst_e, gAdd_i, gSub_i, gNeg_i, gEq_i, gNe_i, gLt_i, gLe_i, gGt_i, gGe_i, gIsN_e, gNotN_e, isN_n, isN_i, isN_t, isN_l, isN_b, gIsi_e, tyD_n, tyD_i, tyD_t, tyD_l, tyD_b, tyD_s, isaT_ii, isaT_bi, isaT_ib, isaT_bb, isaT_tt, isaT_ll, isaT_tb, isaT_ti, isaT_it, isaT_bt, isaT_lt, isaT_nt, isaT_st, gLen_l, gLen_t, gOne_l, gTuple_l, gTuple_t, gInt_b, gMin2_e, gMax2_e, fIt_e, items_l, items_t, fItA_e, gEnum_e, gZip_t, gNm0, gNmS, gNil_e, gCons_e, gTp_e, wipe0, wipeS, tYesD_e, sNil_e, sExpr_e, sRet_e, sRaise_e, sIf_e, sAsg_e, asF_e, sFor_e, endF_r, endF_n, endF_x, asO_s, fRg1_e, sFrz_e, gIx_t0, gIx_t1, gIx_t2, gIx_l0, gIx_l1, gIx_l2, Option.map_some, Option.bind_some, List.set_cons_succ, List.set_cons_zero, List.getElem?_cons_succ, List.getElem?_cons_zero, Bool.not_true, Bool.not_false, Bool.false_eq_true, ↓reduceIte, List.length_cons, List.length_nil, List.map_cons, List.map_nil, Nat.reduceAdd, Nat.reduceLeDiff, Nat.reduceLT, Bool.true_and, Bool.and_true, Bool.false_and, Bool.and_false, List.length_map, Nat.zero_le, lcOne, id_eq]
  rw [sSeq_n (h := by simp only [bnd_ok, bnd_err, then_ok, then_err, fVar0, fVarS, fC_e, fOp_e, fUn_e, asB_e, asI_e, fT_e, fAnd_e, fOr_e, fNot_e, fAndV_e, fOrV_e, fNotV_e, fIf_e, fChain_e, aNil_e, aCons_e, fTup_e, fLst_e, fCall_e, dTup_e, dLst_e, gAdd_i, gSub_i, gNeg_i, gEq_i, gNe_i, gLt_i, gLe_i, gGt_i, gGe_i, gIsN_e, gNotN_e, isN_n, isN_i, isN_t, isN_l, isN_b, gIsi_e, tyD_n, tyD_i, tyD_t, tyD_l, tyD_b, tyD_s, isaT_ii, isaT_bi, isaT_ib, isaT_bb, isaT_tt, isaT_ll, isaT_tb, isaT_ti, isaT_it, isaT_bt, isaT_lt, isaT_nt, isaT_st, gLen_l, gLen_t, gOne_l, gTuple_l, gTuple_t, gInt_b, gMin2_e, gMax2_e, fIt_e, items_l, items_t, fItA_e, gEnum_e, gZip_t, gNm0, gNmS, gNil_e, gCons_e, gTp_e, wipe0, wipeS, tYesD_e, sNil_e, sExpr_e, sRet_e, sRaise_e, sIf_e, sAsg_e, asF_e, sFor_e, endF_r, endF_n, endF_x, asO_s, fRg1_e, sFrz_e, gIx_t0, gIx_t1, gIx_t2, gIx_l0, gIx_l1, gIx_l2, Option.map_some, Option.bind_some, List.set_cons_succ, List.set_cons_zero, List.getElem?_cons_succ, List.getElem?_cons_zero, Bool.not_true, Bool.not_false, Bool.false_eq_true, ↓reduceIte, List.length_cons, List.length_nil, List.map_cons, List.map_nil, Nat.reduceAdd, Nat.reduceLeDiff, Nat.reduceLT, Bool.true_and, Bool.and_true, Bool.false_and, Bool.and_false, List.length_map, Nat.zero_le, h0, dAll, asBls]; rfl)]
  rw [sSeq_n (h := by simp only [bnd_ok, bnd_err, then_ok, then_err, fVar0, fVarS, fC_e, fOp_e, fUn_e, asB_e, asI_e, fT_e, fAnd_e, fOr_e, fNot_e, fAndV_e, fOrV_e, fNotV_e, fIf_e, fChain_e, aNil_e, aCons_e, fTup_e, fLst_e, fCall_e, dTup_e, dLst_e, gAdd_i, gSub_i, gNeg_i, gEq_i, gNe_i, gLt_i, gLe_i, gGt_i, gGe_i, gIsN_e, gNotN_e, isN_n, isN_i, isN_t, isN_l, isN_b, gIsi_e, tyD_n, tyD_i, tyD_t, tyD_l, tyD_b, tyD_s, isaT_ii, isaT_bi, isaT_ib, isaT_bb, isaT_tt, isaT_ll, isaT_tb, isaT_ti, isaT_it, isaT_bt, isaT_lt, isaT_nt, isaT_st, gLen_l, gLen_t, gOne_l, gTuple_l, gTuple_t, gInt_b, gMin2_e, gMax2_e, fIt_e, items_l, items_t, fItA_e, gEnum_e, gZip_t, gNm0, gNmS, gNil_e, gCons_e, gTp_e, wipe0, wipeS, tYesD_e, sNil_e, sExpr_e, sRet_e, sRaise_e, sIf_e, sAsg_e, asF_e, sFor_e, endF_r, endF_n, endF_x, asO_s, fRg1_e, sFrz_e, gIx_t0, gIx_t1, gIx_t2, gIx_l0, gIx_l1, gIx_l2, Option.map_some, Option.bind_some, List.set_cons_succ, List.set_cons_zero, List.getElem?_cons_succ, List.getElem?_cons_zero, Bool.not_true, Bool.not_false, Bool.false_eq_true, ↓reduceIte, List.length_cons, List.length_nil, List.map_cons, List.map_nil, Nat.reduceAdd, Nat.reduceLeDiff, Nat.reduceLT, Bool.true_and, Bool.and_true, Bool.false_and, Bool.and_false, List.length_map, Nat.zero_le]; rfl)]
  have a1 : decide ((1 : Int) ≤ (b.F.length : Int)) = true := by simp; omega
  have a2 : decide ((b.F.length : Int) ≤ 6) = true := by simp; omega
  have a3 : decide ((8 : Int) < (b.S.length : Int)) = false := by simp; omega
  have a4 : decide ((3 : Int) < (b.K.length : Int)) = false := by simp; omega
  rw [sSeq_n (h := by simp only [bnd_ok, bnd_err, then_ok, then_err, fVar0, fVarS, fC_e, fOp_e, fUn_e, asB_e, asI_e, fT_e, fAnd_e, fOr_e, fNot_e, fAndV_e, fOrV_e, fNotV_e, fIf_e, fChain_e, aNil_e, aCons_e, fTup_e, fLst_e, fCall_e, dTup_e, dLst_e, gAdd_i, gSub_i, gNeg_i, gEq_i, gNe_i, gLt_i, gLe_i, gGt_i, gGe_i, gIsN_e, gNotN_e, isN_n, isN_i, isN_t, isN_l, isN_b, gIsi_e, tyD_n, tyD_i, tyD_t, tyD_l, tyD_b, tyD_s, isaT_ii, isaT_bi, isaT_ib, isaT_bb, isaT_tt, isaT_ll, isaT_tb, isaT_ti, isaT_it, isaT_bt, isaT_lt, isaT_nt, isaT_st, gLen_l, gLen_t, gOne_l, gTuple_l, gTuple_t, gInt_b, gMin2_e, gMax2_e, fIt_e, items_l, items_t, fItA_e, gEnum_e, gZip_t, gNm0, gNmS, gNil_e, gCons_e, gTp_e, wipe0, wipeS, tYesD_e, sNil_e, sExpr_e, sRet_e, sRaise_e, sIf_e, sAsg_e, asF_e, sFor_e, endF_r, endF_n, endF_x, asO_s, fRg1_e, sFrz_e, gIx_t0, gIx_t1, gIx_t2, gIx_l0, gIx_l1, gIx_l2, Option.map_some, Option.bind_some, List.set_cons_succ, List.set_cons_zero, List.getElem?_cons_succ, List.getElem?_cons_zero, Bool.not_true, Bool.not_false, Bool.false_eq_true, ↓reduceIte, List.length_cons, List.length_nil, List.map_cons, List.map_nil, Nat.reduceAdd, Nat.reduceLeDiff, Nat.reduceLT, Bool.true_and, Bool.and_true, Bool.false_and, Bool.and_false, List.length_map, Nat.zero_le, a1, a2, a3, a4]; rfl)]
  rw [sSeq_n (h := by
    simp only [bnd_ok, bnd_err, then_ok, then_err, fVar0, fVarS, fC_e, fOp_e, fUn_e, asB_e, asI_e, fT_e, fAnd_e, fOr_e, fNot_e, fAndV_e, fOrV_e, fNotV_e, fIf_e, fChain_e, aNil_e, aCons_e, fTup_e, fLst_e, fCall_e, dTup_e, dLst_e, gAdd_i, gSub_i, gNeg_i, gEq_i, gNe_i, gLt_i, gLe_i, gGt_i, gGe_i, gIsN_e, gNotN_e, isN_n, isN_i, isN_t, isN_l, isN_b, gIsi_e, tyD_n, tyD_i, tyD_t, tyD_l, tyD_b, tyD_s, isaT_ii, isaT_bi, isaT_ib, isaT_bb, isaT_tt, isaT_ll, isaT_tb, isaT_ti, isaT_it, isaT_bt, isaT_lt, isaT_nt, isaT_st, gLen_l, gLen_t, gOne_l, gTuple_l, gTuple_t, gInt_b, gMin2_e, gMax2_e, fIt_e, items_l, items_t, fItA_e, gEnum_e, gZip_t, gNm0, gNmS, gNil_e, gCons_e, gTp_e, wipe0, wipeS, tYesD_e, sNil_e, sExpr_e, sRet_e, sRaise_e, sIf_e, sAsg_e, asF_e, sFor_e, endF_r, endF_n, endF_x, asO_s, fRg1_e, sFrz_e, gIx_t0, gIx_t1, gIx_t2, gIx_l0, gIx_l1, gIx_l2, Option.map_some, Option.bind_some, List.set_cons_succ, List.set_cons_zero, List.getElem?_cons_succ, List.getElem?_cons_zero, Bool.not_true, Bool.not_false, Bool.false_eq_true, ↓reduceIte, List.length_cons, List.length_nil, List.map_cons, List.map_nil, Nat.reduceAdd, Nat.reduceLeDiff, Nat.reduceLT, Bool.true_and, Bool.and_true, Bool.false_and, Bool.and_false, List.length_map, Nat.zero_le]
    rw [fLc_map nD (fun _ => .bool true) b.F (by simp only [bnd_ok, bnd_err, then_ok, then_err, fVar0, fVarS, fC_e, fOp_e, fUn_e, asB_e, asI_e, fT_e, fAnd_e, fOr_e, fNot_e, fAndV_e, fOrV_e, fNotV_e, fIf_e, fChain_e, aNil_e, aCons_e, fTup_e, fLst_e, fCall_e, dTup_e, dLst_e, gAdd_i, gSub_i, gNeg_i, gEq_i, gNe_i, gLt_i, gLe_i, gGt_i, gGe_i, gIsN_e, gNotN_e, isN_n, isN_i, isN_t, isN_l, isN_b, gIsi_e, tyD_n, tyD_i, tyD_t, tyD_l, tyD_b, tyD_s, isaT_ii, isaT_bi, isaT_ib, isaT_bb, isaT_tt, isaT_ll, isaT_tb, isaT_ti, isaT_it, isaT_bt, isaT_lt, isaT_nt, isaT_st, gLen_l, gLen_t, gOne_l, gTuple_l, gTuple_t, gInt_b, gMin2_e, gMax2_e, fIt_e, items_l, items_t, fItA_e, gEnum_e, gZip_t, gNm0, gNmS, gNil_e, gCons_e, gTp_e, wipe0, wipeS, tYesD_e, sNil_e, sExpr_e, sRet_e, sRaise_e, sIf_e, sAsg_e, asF_e, sFor_e, endF_r, endF_n, endF_x, asO_s, fRg1_e, sFrz_e, gIx_t0, gIx_t1, gIx_t2, gIx_l0, gIx_l1, gIx_l2, Option.map_some, Option.bind_some, List.set_cons_succ, List.set_cons_zero, List.getElem?_cons_succ, List.getElem?_cons_zero, Bool.not_true, Bool.not_false, Bool.false_eq_true, ↓reduceIte, List.length_cons, List.length_nil, List.map_cons, List.map_nil, Nat.reduceAdd, Nat.reduceLeDiff, Nat.reduceLT, Bool.true_and, Bool.and_true, Bool.false_and, Bool.and_false, List.length_map, Nat.zero_le]) (by omega) fun x hx => ?_]
    · simp only [bnd_ok, bnd_err, then_ok, then_err, fVar0, fVarS, fC_e, fOp_e, fUn_e, asB_e, asI_e, fT_e, fAnd_e, fOr_e, fNot_e, fAndV_e, fOrV_e, fNotV_e, fIf_e, fChain_e, aNil_e, aCons_e, fTup_e, fLst_e, fCall_e, dTup_e, dLst_e, gAdd_i, gSub_i, gNeg_i, gEq_i, gNe_i, gLt_i, gLe_i, gGt_i, gGe_i, gIsN_e, gNotN_e, isN_n, isN_i, isN_t, isN_l, isN_b, gIsi_e, tyD_n, tyD_i, tyD_t, tyD_l, tyD_b, tyD_s, isaT_ii, isaT_bi, isaT_ib, isaT_bb, isaT_tt, isaT_ll, isaT_tb, isaT_ti, isaT_it, isaT_bt, isaT_lt, isaT_nt, isaT_st, gLen_l, gLen_t, gOne_l, gTuple_l, gTuple_t, gInt_b, gMin2_e, gMax2_e, fIt_e, items_l, items_t, fItA_e, gEnum_e, gZip_t, gNm0, gNmS, gNil_e, gCons_e, gTp_e, wipe0, wipeS, tYesD_e, sNil_e, sExpr_e, sRet_e, sRaise_e, sIf_e, sAsg_e, asF_e, sFor_e, endF_r, endF_n, endF_x, asO_s, fRg1_e, sFrz_e, gIx_t0, gIx_t1, gIx_t2, gIx_l0, gIx_l1, gIx_l2, Option.map_some, Option.bind_some, List.set_cons_succ, List.set_cons_zero, List.getElem?_cons_succ, List.getElem?_cons_zero, Bool.not_true, Bool.not_false, Bool.false_eq_true, ↓reduceIte, List.length_cons, List.length_nil, List.map_cons, List.map_nil, Nat.reduceAdd, Nat.reduceLeDiff, Nat.reduceLT, Bool.true_and, Bool.and_true, Bool.false_and, Bool.and_false, List.length_map, Nat.zero_le, all_true]
      rfl
    · have := h.f x hx
      simp only [lcOne, bnd_ok, bnd_err, then_ok, then_err, fVar0, fVarS, fC_e, fOp_e, fUn_e, asB_e, asI_e, fT_e, fAnd_e, fOr_e, fNot_e, fAndV_e, fOrV_e, fNotV_e, fIf_e, fChain_e, aNil_e, aCons_e, fTup_e, fLst_e, fCall_e, dTup_e, dLst_e, gAdd_i, gSub_i, gNeg_i, gEq_i, gNe_i, gLt_i, gLe_i, gGt_i, gGe_i, gIsN_e, gNotN_e, isN_n, isN_i, isN_t, isN_l, isN_b, gIsi_e, tyD_n, tyD_i, tyD_t, tyD_l, tyD_b, tyD_s, isaT_ii, isaT_bi, isaT_ib, isaT_bb, isaT_tt, isaT_ll, isaT_tb, isaT_ti, isaT_it, isaT_bt, isaT_lt, isaT_nt, isaT_st, gLen_l, gLen_t, gOne_l, gTuple_l, gTuple_t, gInt_b, gMin2_e, gMax2_e, fIt_e, items_l, items_t, fItA_e, gEnum_e, gZip_t, gNm0, gNmS, gNil_e, gCons_e, gTp_e, wipe0, wipeS, tYesD_e, sNil_e, sExpr_e, sRet_e, sRaise_e, sIf_e, sAsg_e, asF_e, sFor_e, endF_r, endF_n, endF_x, asO_s, fRg1_e, sFrz_e, gIx_t0, gIx_t1, gIx_t2, gIx_l0, gIx_l1, gIx_l2, Option.map_some, Option.bind_some, List.set_cons_succ, List.set_cons_zero, List.getElem?_cons_succ, List.getElem?_cons_zero, Bool.not_true, Bool.not_false, Bool.false_eq_true, ↓reduceIte, List.length_cons, List.length_nil, List.map_cons, List.map_nil, Nat.reduceAdd, Nat.reduceLeDiff, Nat.reduceLT, Bool.true_and, Bool.and_true, Bool.false_and, Bool.and_false, List.length_map, Nat.zero_le, is_count_i]
      simp
      omega)]
  simp only [bnd_ok, bnd_err, then_ok, then_err, fVar0, fVarS, fC_e, fOp_e, fUn_e, asB_e, asI_e, fT_e, fAnd_e, fOr_e, fNot_e, fAndV_e, fOrV_e, fNotV_e, fIf_e, fChain_e, aNil_e, aCons_e, fTup_e, fLst_e, fCall_e, dTup_e, dLst_e, gAdd_i, gSub_i, gNeg_i, gEq_i, gNe_i, gLt_i, gLe_i, gGt_i, gGe_i, gIsN_e, gNotN_e, isN_n, isN_i, isN_t, isN_l, isN_b, gIsi_e, tyD_n, tyD_i, tyD_t, tyD_l, tyD_b, tyD_s, isaT_ii, isaT_bi, isaT_ib, isaT_bb, isaT_tt, isaT_ll, isaT_tb, isaT_ti, isaT_it, isaT_bt, isaT_lt, isaT_nt, isaT_st, gLen_l, gLen_t, gOne_l, gTuple_l, gTuple_t, gInt_b, gMin2_e, gMax2_e, fIt_e, items_l, items_t, fItA_e, gEnum_e, gZip_t, gNm0, gNmS, gNil_e, gCons_e, gTp_e, wipe0, wipeS, tYesD_e, sNil_e, sExpr_e, sRet_e, sRaise_e, sIf_e, sAsg_e, asF_e, sFor_e, endF_r, endF_n, endF_x, asO_s, fRg1_e, sFrz_e, gIx_t0, gIx_t1, gIx_t2, gIx_l0, gIx_l1, gIx_l2, Option.map_some, Option.bind_some, List.set_cons_succ, List.set_cons_zero, List.getElem?_cons_succ, List.getElem?_cons_zero, Bool.not_true, Bool.not_false, Bool.false_eq_true, ↓reduceIte, List.length_cons, List.length_nil, List.map_cons, List.map_nil, Nat.reduceAdd, Nat.reduceLeDiff, Nat.reduceLT, Bool.true_and, Bool.and_true, Bool.false_and, Bool.and_false, List.length_map, Nat.zero_le]
  rw [fLc_map eS (fun _ => .bool true) b.S (by simp only [bnd_ok, bnd_err, then_ok, then_err, fVar0, fVarS, fC_e, fOp_e, fUn_e, asB_e, asI_e, fT_e, fAnd_e, fOr_e, fNot_e, fAndV_e, fOrV_e, fNotV_e, fIf_e, fChain_e, aNil_e, aCons_e, fTup_e, fLst_e, fCall_e, dTup_e, dLst_e, gAdd_i, gSub_i, gNeg_i, gEq_i, gNe_i, gLt_i, gLe_i, gGt_i, gGe_i, gIsN_e, gNotN_e, isN_n, isN_i, isN_t, isN_l, isN_b, gIsi_e, tyD_n, tyD_i, tyD_t, tyD_l, tyD_b, tyD_s, isaT_ii, isaT_bi, isaT_ib, isaT_bb, isaT_tt, isaT_ll, isaT_tb, isaT_ti, isaT_it, isaT_bt, isaT_lt, isaT_nt, isaT_st, gLen_l, gLen_t, gOne_l, gTuple_l, gTuple_t, gInt_b, gMin2_e, gMax2_e, fIt_e, items_l, items_t, fItA_e, gEnum_e, gZip_t, gNm0, gNmS, gNil_e, gCons_e, gTp_e, wipe0, wipeS, tYesD_e, sNil_e, sExpr_e, sRet_e, sRaise_e, sIf_e, sAsg_e, asF_e, sFor_e, endF_r, endF_n, endF_x, asO_s, fRg1_e, sFrz_e, gIx_t0, gIx_t1, gIx_t2, gIx_l0, gIx_l1, gIx_l2, Option.map_some, Option.bind_some, List.set_cons_succ, List.set_cons_zero, List.getElem?_cons_succ, List.getElem?_cons_zero, Bool.not_true, Bool.not_false, Bool.false_eq_true, ↓reduceIte, List.length_cons, List.length_nil, List.map_cons, List.map_nil, Nat.reduceAdd, Nat.reduceLeDiff, Nat.reduceLT, Bool.true_and, Bool.and_true, Bool.false_and, Bool.and_false, List.length_map, Nat.zero_le]) (by omega) fun x hx => ?_]
  · simp only [bnd_ok, bnd_err, then_ok, then_err, fVar0, fVarS, fC_e, fOp_e, fUn_e, asB_e, asI_e, fT_e, fAnd_e, fOr_e, fNot_e, fAndV_e, fOrV_e, fNotV_e, fIf_e, fChain_e, aNil_e, aCons_e, fTup_e, fLst_e, fCall_e, dTup_e, dLst_e, gAdd_i, gSub_i, gNeg_i, gEq_i, gNe_i, gLt_i, gLe_i, gGt_i, gGe_i, gIsN_e, gNotN_e, isN_n, isN_i, isN_t, isN_l, isN_b, gIsi_e, tyD_n, tyD_i, tyD_t, tyD_l, tyD_b, tyD_s, isaT_ii, isaT_bi, isaT_ib, isaT_bb, isaT_tt, isaT_ll, isaT_tb, isaT_ti, isaT_it, isaT_bt, isaT_lt, isaT_nt, isaT_st, gLen_l, gLen_t, gOne_l, gTuple_l, gTuple_t, gInt_b, gMin2_e, gMax2_e, fIt_e, items_l, items_t, fItA_e, gEnum_e, gZip_t, gNm0, gNmS, gNil_e, gCons_e, gTp_e, wipe0, wipeS, tYesD_e, sNil_e, sExpr_e, sRet_e, sRaise_e, sIf_e, sAsg_e, asF_e, sFor_e, endF_r, endF_n, endF_x, asO_s, fRg1_e, sFrz_e, gIx_t0, gIx_t1, gIx_t2, gIx_l0, gIx_l1, gIx_l2, Option.map_some, Option.bind_some, List.set_cons_succ, List.set_cons_zero, List.getElem?_cons_succ, List.getElem?_cons_zero, Bool.not_true, Bool.not_false, Bool.false_eq_true, ↓reduceIte, List.length_cons, List.length_nil, List.map_cons, List.map_nil, Nat.reduceAdd, Nat.reduceLeDiff, Nat.reduceLT, Bool.true_and, Bool.and_true, Bool.false_and, Bool.and_false, List.length_map, Nat.zero_le, all_true]
    rw [fLc_map eK (fun _ => .bool true) b.K (by simp only [bnd_ok, bnd_err, then_ok, then_err, fVar0, fVarS, fC_e, fOp_e, fUn_e, asB_e, asI_e, fT_e, fAnd_e, fOr_e, fNot_e, fAndV_e, fOrV_e, fNotV_e, fIf_e, fChain_e, aNil_e, aCons_e, fTup_e, fLst_e, fCall_e, dTup_e, dLst_e, gAdd_i, gSub_i, gNeg_i, gEq_i, gNe_i, gLt_i, gLe_i, gGt_i, gGe_i, gIsN_e, gNotN_e, isN_n, isN_i, isN_t, isN_l, isN_b, gIsi_e, tyD_n, tyD_i, tyD_t, tyD_l, tyD_b, tyD_s, isaT_ii, isaT_bi, isaT_ib, isaT_bb, isaT_tt, isaT_ll, isaT_tb, isaT_ti, isaT_it, isaT_bt, isaT_lt, isaT_nt, isaT_st, gLen_l, gLen_t, gOne_l, gTuple_l, gTuple_t, gInt_b, gMin2_e, gMax2_e, fIt_e, items_l, items_t, fItA_e, gEnum_e, gZip_t, gNm0, gNmS, gNil_e, gCons_e, gTp_e, wipe0, wipeS, tYesD_e, sNil_e, sExpr_e, sRet_e, sRaise_e, sIf_e, sAsg_e, asF_e, sFor_e, endF_r, endF_n, endF_x, asO_s, fRg1_e, sFrz_e, gIx_t0, gIx_t1, gIx_t2, gIx_l0, gIx_l1, gIx_l2, Option.map_some, Option.bind_some, List.set_cons_succ, List.set_cons_zero, List.getElem?_cons_succ, List.getElem?_cons_zero, Bool.not_true, Bool.not_false, Bool.false_eq_true, ↓reduceIte, List.length_cons, List.length_nil, List.map_cons, List.map_nil, Nat.reduceAdd, Nat.reduceLeDiff, Nat.reduceLT, Bool.true_and, Bool.and_true, Bool.false_and, Bool.and_false, List.length_map, Nat.zero_le]) (by omega) fun x hx => ?_]
    · simp only [bnd_ok, bnd_err, then_ok, then_err, fVar0, fVarS, fC_e, fOp_e, fUn_e, asB_e, asI_e, fT_e, fAnd_e, fOr_e, fNot_e, fAndV_e, fOrV_e, fNotV_e, fIf_e, fChain_e, aNil_e, aCons_e, fTup_e, fLst_e, fCall_e, dTup_e, dLst_e, gAdd_i, gSub_i, gNeg_i, gEq_i, gNe_i, gLt_i, gLe_i, gGt_i, gGe_i, gIsN_e, gNotN_e, isN_n, isN_i, isN_t, isN_l, isN_b, gIsi_e, tyD_n, tyD_i, tyD_t, tyD_l, tyD_b, tyD_s, isaT_ii, isaT_bi, isaT_ib, isaT_bb, isaT_tt, isaT_ll, isaT_tb, isaT_ti, isaT_it, isaT_bt, isaT_lt, isaT_nt, isaT_st, gLen_l, gLen_t, gOne_l, gTuple_l, gTuple_t, gInt_b, gMin2_e, gMax2_e, fIt_e, items_l, items_t, fItA_e, gEnum_e, gZip_t, gNm0, gNmS, gNil_e, gCons_e, gTp_e, wipe0, wipeS, tYesD_e, sNil_e, sExpr_e, sRet_e, sRaise_e, sIf_e, sAsg_e, asF_e, sFor_e, endF_r, endF_n, endF_x, asO_s, fRg1_e, sFrz_e, gIx_t0, gIx_t1, gIx_t2, gIx_l0, gIx_l1, gIx_l2, Option.map_some, Option.bind_some, List.set_cons_succ, List.set_cons_zero, List.getElem?_cons_succ, List.getElem?_cons_zero, Bool.not_true, Bool.not_false, Bool.false_eq_true, ↓reduceIte, List.length_cons, List.length_nil, List.map_cons, List.map_nil, Nat.reduceAdd, Nat.reduceLeDiff, Nat.reduceLT, Bool.true_and, Bool.and_true, Bool.false_and, Bool.and_false, List.length_map, Nat.zero_le, all_true]
    · have := h.k x hx
      simp only [lcOne, bnd_ok, bnd_err, then_ok, then_err, fVar0, fVarS, fC_e, fOp_e, fUn_e, asB_e, asI_e, fT_e, fAnd_e, fOr_e, fNot_e, fAndV_e, fOrV_e, fNotV_e, fIf_e, fChain_e, aNil_e, aCons_e, fTup_e, fLst_e, fCall_e, dTup_e, dLst_e, gAdd_i, gSub_i, gNeg_i, gEq_i, gNe_i, gLt_i, gLe_i, gGt_i, gGe_i, gIsN_e, gNotN_e, isN_n, isN_i, isN_t, isN_l, isN_b, gIsi_e, tyD_n, tyD_i, tyD_t, tyD_l, tyD_b, tyD_s, isaT_ii, isaT_bi, isaT_ib, isaT_bb, isaT_tt, isaT_ll, isaT_tb, isaT_ti, isaT_it, isaT_bt, isaT_lt, isaT_nt, isaT_st, gLen_l, gLen_t, gOne_l, gTuple_l, gTuple_t, gInt_b, gMin2_e, gMax2_e, fIt_e, items_l, items_t, fItA_e, gEnum_e, gZip_t, gNm0, gNmS, gNil_e, gCons_e, gTp_e, wipe0, wipeS, tYesD_e, sNil_e, sExpr_e, sRet_e, sRaise_e, sIf_e, sAsg_e, asF_e, sFor_e, endF_r, endF_n, endF_x, asO_s, fRg1_e, sFrz_e, gIx_t0, gIx_t1, gIx_t2, gIx_l0, gIx_l1, gIx_l2, Option.map_some, Option.bind_some, List.set_cons_succ, List.set_cons_zero, List.getElem?_cons_succ, List.getElem?_cons_zero, Bool.not_true, Bool.not_false, Bool.false_eq_true, ↓reduceIte, List.length_cons, List.length_nil, List.map_cons, List.map_nil, Nat.reduceAdd, Nat.reduceLeDiff, Nat.reduceLT, Bool.true_and, Bool.and_true, Bool.false_and, Bool.and_false, List.length_map, Nat.zero_le, is_kicker_t this]
  · have := h.s x hx
    simp only [lcOne, bnd_ok, bnd_err, then_ok, then_err, fVar0, fVarS, fC_e, fOp_e, fUn_e, asB_e, asI_e, fT_e, fAnd_e, fOr_e, fNot_e, fAndV_e, fOrV_e, fNotV_e, fIf_e, fChain_e, aNil_e, aCons_e, fTup_e, fLst_e, fCall_e, dTup_e, dLst_e, gAdd_i, gSub_i, gNeg_i, gEq_i, gNe_i, gLt_i, gLe_i, gGt_i, gGe_i, gIsN_e, gNotN_e, isN_n, isN_i, isN_t, isN_l, isN_b, gIsi_e, tyD_n, tyD_i, tyD_t, tyD_l, tyD_b, tyD_s, isaT_ii, isaT_bi, isaT_ib, isaT_bb, isaT_tt, isaT_ll, isaT_tb, isaT_ti, isaT_it, isaT_bt, isaT_lt, isaT_nt, isaT_st, gLen_l, gLen_t, gOne_l, gTuple_l, gTuple_t, gInt_b, gMin2_e, gMax2_e, fIt_e, items_l, items_t, fItA_e, gEnum_e, gZip_t, gNm0, gNmS, gNil_e, gCons_e, gTp_e, wipe0, wipeS, tYesD_e, sNil_e, sExpr_e, sRet_e, sRaise_e, sIf_e, sAsg_e, asF_e, sFor_e, endF_r, endF_n, endF_x, asO_s, fRg1_e, sFrz_e, gIx_t0, gIx_t1, gIx_t2, gIx_l0, gIx_l1, gIx_l2, Option.map_some, Option.bind_some, List.set_cons_succ, List.set_cons_zero, List.getElem?_cons_succ, List.getElem?_cons_zero, Bool.not_true, Bool.not_false, Bool.false_eq_true, ↓reduceIte, List.length_cons, List.length_nil, List.map_cons, List.map_nil, Nat.reduceAdd, Nat.reduceLeDiff, Nat.reduceLT, Bool.true_and, Bool.and_true, Bool.false_and, Bool.and_false, List.length_map, Nat.zero_le, is_spot_t this (by omega)]
theorem need_belt_t {b : Belt} (h : b.Ok) : m_need_belt [eB b] = .ok .none := by
  rw [q_need_belt]
  unfold b_need_belt
  simp only [bnd_ok, bnd_err, then_ok, then_err, fVar0, fVarS, fC_e, fOp_e, fUn_e, asB_e, asI_e, fT_e, fAnd_e, fOr_e, fNot_e, fAndV_e, fOrV_e, fNotV_e, fIf_e, fChain_e, aNil_e, aCons_e, fTup_e, fLst_e, fCall_e, dTup_e, dLst_e, gAdd_i, gSub_i, gNeg_i, gEq_i, gNe_i, gLt_i, gLe_i, gGt_i, gGe_i, gIsN_e, gNotN_e, isN_n, isN_i, isN_t, isN_l, isN_b, gIsi_e, tyD_n, tyD_i, tyD_t, tyD_l, tyD_b, tyD_s, isaT_ii, isaT_bi, isaT_ib, isaT_bb, isaT_tt, isaT_ll, isaT_tb, isaT_ti, isaT_it, isaT_bt, isaT_lt, isaT_nt, isaT_st, gLen_l, gLen_t, gOne_l, gTuple_l, gTuple_t, gInt_b, gMin2_e, gMax2_e, fIt_e, items_l, items_t, fItA_e, gEnum_e, gZip_t, gNm0, gNmS, gNil_e, gCons_e, gTp_e, wipe0, wipeS, tYesD_e, sNil_e, sExpr_e, sRet_e, sRaise_e, sIf_e, sAsg_e, asF_e, sFor_e, endF_r, endF_n, endF_x, asO_s, fRg1_e, sFrz_e, gIx_t0, gIx_t1, gIx_t2, gIx_l0, gIx_l1, gIx_l2, Option.map_some, Option.bind_some, List.set_cons_succ, List.set_cons_zero, List.getElem?_cons_succ, List.getElem?_cons_zero, Bool.not_true, Bool.not_false, Bool.false_eq_true, ↓reduceIte, List.length_cons, List.length_nil, List.map_cons, List.map_nil, Nat.reduceAdd, Nat.reduceLeDiff, Nat.reduceLT, Bool.true_and, Bool.and_true, Bool.false_and, Bool.and_false, List.length_map, Nat.zero_le, is_belt_t h]
/-! ### sight -/
theorem gIx_map {α : Type} (f : α → D) (xs : List α) (n : Nat) (x : α) (h : xs[n]? = some x) : gIx (.tuple (xs.map f)) (nD n) = .ok (f x) := gIx_t _ n _ (by rw [List.getElem?_map, h]; rfl)
theorem gIx_mapl {α : Type} (f : α → D) (xs : List α) (n : Nat) (x : α) (h : xs[n]? = some x) : gIx (.list (xs.map f)) (nD n) = .ok (f x) := gIx_l _ n _ (by rw [List.getElem?_map, h]; rfl)
def sat (b : Belt) (s : Nat) : Nat := (b.S[s]?.map (·.at_)).getD 0
def kat (b : Belt) (k : Nat) : Nat := (b.K[k]?.map (·.1)).getD 0
def scost (b : Belt) (s : Nat) : Nat := (b.S[s]?.map (·.cost)).getD 0
def kcost (b : Belt) (k : Nat) : Nat := (b.K[k]?.map (·.2)).getD 0
def fat (b : Belt) (f : Nat) : Nat := (b.F[f]?).getD 0
def sown (b : Belt) (s : Nat) : List Nat := (b.S[s]?.map (·.own)).getD []
def cSees (b : Belt) (s f : Nat) : Bool := (sown b s).contains f && decide (fat b f ≤ sat b s)
theorem sat_e {b : Belt} {s : Nat} {x : Spot} (h : b.S[s]? = some x) : sat b s = x.at_ := by unfold sat; rw [h]; rfl
theorem scost_e {b : Belt} {s : Nat} {x : Spot} (h : b.S[s]? = some x) : scost b s = x.cost := by unfold scost; rw [h]; rfl
theorem sown_e {b : Belt} {s : Nat} {x : Spot} (h : b.S[s]? = some x) : sown b s = x.own := by unfold sown; rw [h]; rfl
theorem kat_e {b : Belt} {s : Nat} {x : Nat × Nat} (h : b.K[s]? = some x) : kat b s = x.1 := by unfold kat; rw [h]; rfl
theorem kcost_e {b : Belt} {s : Nat} {x : Nat × Nat} (h : b.K[s]? = some x) : kcost b s = x.2 := by unfold kcost; rw [h]; rfl
theorem fat_e {b : Belt} {s : Nat} {x : Nat} (h : b.F[s]? = some x) : fat b s = x := by unfold fat; rw [h]; rfl
theorem get_some {α : Type} {xs : List α} {n : Nat} (h : n < xs.length) : ∃ x, xs[n]? = some x := ⟨xs[n], List.getElem?_eq_getElem h⟩
theorem sees_e {b : Belt} {s f : Nat} (hs : s < b.S.length) (hf : f < b.F.length) : m_sees [eB b, nD s, nD f] = .ok (.bool (cSees b s f)) := by
  obtain ⟨x, hx⟩ := get_some hs
  obtain ⟨p, hp⟩ := get_some hf
  rw [q_sees]
  unfold b_sees cSees
  rw [sSeq_n (h := by simp only [bnd_ok, bnd_err, then_ok, then_err, fVar0, fVarS, fC_e, fOp_e, fUn_e, asB_e, asI_e, fT_e, fAnd_e, fOr_e, fNot_e, fAndV_e, fOrV_e, fNotV_e, fIf_e, fChain_e, aNil_e, aCons_e, fTup_e, fLst_e, fCall_e, dTup_e, dLst_e, gAdd_i, gSub_i, gNeg_i, gEq_i, gNe_i, gLt_i, gLe_i, gGt_i, gGe_i, gIsN_e, gNotN_e, isN_n, isN_i, isN_t, isN_l, isN_b, gIsi_e, tyD_n, tyD_i, tyD_t, tyD_l, tyD_b, tyD_s, isaT_ii, isaT_bi, isaT_ib, isaT_bb, isaT_tt, isaT_ll, isaT_tb, isaT_ti, isaT_it, isaT_bt, isaT_lt, isaT_nt, isaT_st, gLen_l, gLen_t, gOne_l, gTuple_l, gTuple_t, gInt_b, gMin2_e, gMax2_e, fIt_e, items_l, items_t, fItA_e, gEnum_e, gZip_t, gNm0, gNmS, gNil_e, gCons_e, gTp_e, wipe0, wipeS, tYesD_e, sNil_e, sExpr_e, sRet_e, sRaise_e, sIf_e, sAsg_e, asF_e, sFor_e, endF_r, endF_n, endF_x, asO_s, fRg1_e, sFrz_e, gIx_t0, gIx_t1, gIx_t2, gIx_l0, gIx_l1, gIx_l2, Option.map_some, Option.bind_some, List.set_cons_succ, List.set_cons_zero, List.getElem?_cons_succ, List.getElem?_cons_zero, Bool.not_true, Bool.not_false, Bool.false_eq_true, ↓reduceIte, List.length_cons, List.length_nil, List.map_cons, List.map_nil, Nat.reduceAdd, Nat.reduceLeDiff, Nat.reduceLT, Bool.true_and, Bool.and_true, Bool.false_and, Bool.and_false, List.length_map, Nat.zero_le, gIx_map eS b.S s x hx]; rfl), sown_e hx, sat_e hx, fat_e hp]
  simp only [bnd_ok, bnd_err, then_ok, then_err, fVar0, fVarS, fC_e, fOp_e, fUn_e, asB_e, asI_e, fT_e, fAnd_e, fOr_e, fNot_e, fAndV_e, fOrV_e, fNotV_e, fIf_e, fChain_e, aNil_e, aCons_e, fTup_e, fLst_e, fCall_e, dTup_e, dLst_e, gAdd_i, gSub_i, gNeg_i, gEq_i, gNe_i, gLt_i, gLe_i, gGt_i, gGe_i, gIsN_e, gNotN_e, isN_n, isN_i, isN_t, isN_l, isN_b, gIsi_e, tyD_n, tyD_i, tyD_t, tyD_l, tyD_b, tyD_s, isaT_ii, isaT_bi, isaT_ib, isaT_bb, isaT_tt, isaT_ll, isaT_tb, isaT_ti, isaT_it, isaT_bt, isaT_lt, isaT_nt, isaT_st, gLen_l, gLen_t, gOne_l, gTuple_l, gTuple_t, gInt_b, gMin2_e, gMax2_e, fIt_e, items_l, items_t, fItA_e, gEnum_e, gZip_t, gNm0, gNmS, gNil_e, gCons_e, gTp_e, wipe0, wipeS, tYesD_e, sNil_e, sExpr_e, sRet_e, sRaise_e, sIf_e, sAsg_e, asF_e, sFor_e, endF_r, endF_n, endF_x, asO_s, fRg1_e, sFrz_e, gIx_t0, gIx_t1, gIx_t2, gIx_l0, gIx_l1, gIx_l2, Option.map_some, Option.bind_some, List.set_cons_succ, List.set_cons_zero, List.getElem?_cons_succ, List.getElem?_cons_zero, Bool.not_true, Bool.not_false, Bool.false_eq_true, ↓reduceIte, List.length_cons, List.length_nil, List.map_cons, List.map_nil, Nat.reduceAdd, Nat.reduceLeDiff, Nat.reduceLT, Bool.true_and, Bool.and_true, Bool.false_and, Bool.and_false, List.length_map, Nat.zero_le, gIn_t, gIx_map nD b.F f p hp]
  cases x.own.contains f with
  | false => simp only [bnd_ok, bnd_err, then_ok, then_err, fVar0, fVarS, fC_e, fOp_e, fUn_e, asB_e, asI_e, fT_e, fAnd_e, fOr_e, fNot_e, fAndV_e, fOrV_e, fNotV_e, fIf_e, fChain_e, aNil_e, aCons_e, fTup_e, fLst_e, fCall_e, dTup_e, dLst_e, gAdd_i, gSub_i, gNeg_i, gEq_i, gNe_i, gLt_i, gLe_i, gGt_i, gGe_i, gIsN_e, gNotN_e, isN_n, isN_i, isN_t, isN_l, isN_b, gIsi_e, tyD_n, tyD_i, tyD_t, tyD_l, tyD_b, tyD_s, isaT_ii, isaT_bi, isaT_ib, isaT_bb, isaT_tt, isaT_ll, isaT_tb, isaT_ti, isaT_it, isaT_bt, isaT_lt, isaT_nt, isaT_st, gLen_l, gLen_t, gOne_l, gTuple_l, gTuple_t, gInt_b, gMin2_e, gMax2_e, fIt_e, items_l, items_t, fItA_e, gEnum_e, gZip_t, gNm0, gNmS, gNil_e, gCons_e, gTp_e, wipe0, wipeS, tYesD_e, sNil_e, sExpr_e, sRet_e, sRaise_e, sIf_e, sAsg_e, asF_e, sFor_e, endF_r, endF_n, endF_x, asO_s, fRg1_e, sFrz_e, gIx_t0, gIx_t1, gIx_t2, gIx_l0, gIx_l1, gIx_l2, Option.map_some, Option.bind_some, List.set_cons_succ, List.set_cons_zero, List.getElem?_cons_succ, List.getElem?_cons_zero, Bool.not_true, Bool.not_false, Bool.false_eq_true, ↓reduceIte, List.length_cons, List.length_nil, List.map_cons, List.map_nil, Nat.reduceAdd, Nat.reduceLeDiff, Nat.reduceLT, Bool.true_and, Bool.and_true, Bool.false_and, Bool.and_false, List.length_map, Nat.zero_le]
  | true => simp only [bnd_ok, bnd_err, then_ok, then_err, fVar0, fVarS, fC_e, fOp_e, fUn_e, asB_e, asI_e, fT_e, fAnd_e, fOr_e, fNot_e, fAndV_e, fOrV_e, fNotV_e, fIf_e, fChain_e, aNil_e, aCons_e, fTup_e, fLst_e, fCall_e, dTup_e, dLst_e, gAdd_i, gSub_i, gNeg_i, gEq_i, gNe_i, gLt_i, gLe_i, gGt_i, gGe_i, gIsN_e, gNotN_e, isN_n, isN_i, isN_t, isN_l, isN_b, gIsi_e, tyD_n, tyD_i, tyD_t, tyD_l, tyD_b, tyD_s, isaT_ii, isaT_bi, isaT_ib, isaT_bb, isaT_tt, isaT_ll, isaT_tb, isaT_ti, isaT_it, isaT_bt, isaT_lt, isaT_nt, isaT_st, gLen_l, gLen_t, gOne_l, gTuple_l, gTuple_t, gInt_b, gMin2_e, gMax2_e, fIt_e, items_l, items_t, fItA_e, gEnum_e, gZip_t, gNm0, gNmS, gNil_e, gCons_e, gTp_e, wipe0, wipeS, tYesD_e, sNil_e, sExpr_e, sRet_e, sRaise_e, sIf_e, sAsg_e, asF_e, sFor_e, endF_r, endF_n, endF_x, asO_s, fRg1_e, sFrz_e, gIx_t0, gIx_t1, gIx_t2, gIx_l0, gIx_l1, gIx_l2, Option.map_some, Option.bind_some, List.set_cons_succ, List.set_cons_zero, List.getElem?_cons_succ, List.getElem?_cons_zero, Bool.not_true, Bool.not_false, Bool.false_eq_true, ↓reduceIte, List.length_cons, List.length_nil, List.map_cons, List.map_nil, Nat.reduceAdd, Nat.reduceLeDiff, Nat.reduceLT, Bool.true_and, Bool.and_true, Bool.false_and, Bool.and_false, List.length_map, Nat.zero_le, Int.ofNat_le]
def ltP (p q : Nat × Nat) : Bool := decide (p.1 < q.1 ∨ (p.1 = q.1 ∧ p.2 < q.2))
def minP (x : Nat × Nat) (xs : List (Nat × Nat)) : Nat × Nat := xs.foldl (fun a y => if ltP y a then y else a) x
def cMin : List (Nat × Nat) → Option (Nat × Nat)
  | [] => none
  | x :: xs => some (minP x xs)
theorem lt_eK (p q : Nat × Nat) : PySem.W.dataLt (eK p) (eK q) = ltP p q := by
  rw [PySem.W.dataLt_ii]
  unfold ltP
  congr 1
  apply propext
  omega
theorem minD_eK (x : Nat × Nat) (xs : List (Nat × Nat)) : PySem.W.minD (eK x) (xs.map eK) = eK (minP x xs) := by
  unfold PySem.W.minD minP
  induction xs generalizing x with
  | nil => rfl
  | cons y ys ih =>
    rw [List.map_cons, List.foldl_cons, List.foldl_cons, lt_eK]
    cases ltP y x with
    | true => exact ih y
    | false => exact ih x
theorem alike_eK (p q : Nat × Nat) : PySem.W.alike (eK p) (eK q) = true := by simp [PySem.W.alike, PySem.W.alikeAll]
theorem depth_eK : ∀ xs : List (Nat × Nat), PyData.depthAll (xs.map eK) ≤ 60
  | [] => by simp [PyData.depthAll]
  | x :: xs => by
    have := depth_eK xs
    simp only [List.map_cons, PyData.depthAll, PyData.depth]
    simp
    omega
theorem okMin_eK (xs : List (Nat × Nat)) : okMin (xs.map eK) = true := by
  unfold okMin alikeB
  rw [Bool.and_eq_true, Bool.and_eq_true, List.all_map, List.all_map]
  refine ⟨⟨?_, ?_⟩, by simpa using depth_eK xs⟩
  · rw [List.all_eq_true]
    intro p _
    show ((xs.map eK).all _) = true
    rw [List.all_map, List.all_eq_true]
    intro q _
    exact alike_eK p q
  · rw [List.all_eq_true]
    intro p _
    rfl
theorem dMin_eK (x : Nat × Nat) (xs : List (Nat × Nat)) : dMin ((x :: xs).map eK) = .ok (eK (minP x xs)) := by
  unfold dMin
  have : asInts ((x :: xs).map eK) = none := rfl
  rw [this]
  show (if okMin ((x :: xs).map eK) = true then _ else _) = _
  rw [if_pos (okMin_eK _), minD_eK]
def cands (b : Belt) (ks : List Nat) (place : Nat) : List (Nat × Nat) := ks.filterMap fun k => if place ≤ kat b k then some (kat b k, k) else none
def cFirst (b : Belt) (ks : List Nat) (place : Nat) : Option Nat := (cMin (cands b ks place)).map (·.2)
def oN : Option Nat → D
  | none => .none
  | some k => nD k
theorem lay_map {α : Type} (f : α → D) : ∀ (xs : List α), (∀ x ∈ xs, (f x).canLay0 = true) → PyData.canLayAll0 (xs.map f) = true
  | [], _ => by simp [PyData.canLayAll0]
  | x :: xs, h => by
    rw [List.map_cons, PyData.canLayAll0, h x List.mem_cons_self, lay_map f xs fun y hy => h y (List.mem_cons_of_mem _ hy)]
    rfl
theorem eqv_nil (ds : List D) : PyData.eqv (.list ds) (.list []) = ds.isEmpty := by
  cases ds <;> simp [PyData.eqv, PyData.eqvAll]
theorem eqv_nilt (ds : List D) : PyData.eqv (.tuple ds) (.tuple []) = ds.isEmpty := by
  cases ds <;> simp [PyData.eqv, PyData.eqvAll]
theorem ok_nil {ds : List D} (h : PyData.canLayAll0 ds = true) : okEq (.list ds) (.list []) = true := by
  unfold okEq
  simp [PyData.canLay0, h, PyData.canLayAll0, PyData.depth, PyData.depthAll]
theorem ok_nilt {ds : List D} (h : PyData.canLayAll0 ds = true) : okEq (.tuple ds) (.tuple []) = true := by
  unfold okEq
  simp [PyData.canLay0, h, PyData.canLayAll0, PyData.depth, PyData.depthAll]
theorem ne_nil {ds : List D} (h : PyData.canLayAll0 ds = true) : gNe (.list ds) (.list []) = .ok (.bool (!ds.isEmpty)) := by
  show (if _ then _ else _) = _
  rw [if_pos (ok_nil h), eqv_nil]
theorem eq_nil {ds : List D} (h : PyData.canLayAll0 ds = true) : gEq (.list ds) (.list []) = .ok (.bool ds.isEmpty) := by
  show (if _ then _ else _) = _
  rw [if_pos (ok_nil h), eqv_nil]
theorem ne_nilt {ds : List D} (h : PyData.canLayAll0 ds = true) : gNe (.tuple ds) (.tuple []) = .ok (.bool (!ds.isEmpty)) := by
  show (if _ then _ else _) = _
  rw [if_pos (ok_nilt h), eqv_nilt]
theorem eq_nilt {ds : List D} (h : PyData.canLayAll0 ds = true) : gEq (.tuple ds) (.tuple []) = .ok (.bool ds.isEmpty) := by
  show (if _ then _ else _) = _
  rw [if_pos (ok_nilt h), eqv_nilt]
theorem lay_n (n : Nat) : (nD n).canLay0 = true := by simp [PyData.canLay0]
theorem lay_ns (xs : List Nat) : PyData.canLayAll0 (xs.map nD) = true := lay_map _ _ fun x _ => lay_n x
theorem lay_eK (k : Nat × Nat) : (eK k).canLay0 = true := by simp [PyData.canLay0, PyData.canLayAll0]
theorem first_e {b : Belt} {ks : List Nat} (hb : b.K.length ≤ 3) (hk : ∀ k ∈ ks, k < b.K.length) (hl : ks.length ≤ 1000) (place : Nat) : m_first_kicker [eB b, tN ks, nD place] = .ok (oN (cFirst b ks place)) := by
  rw [q_first_kicker]
  unfold b_first_kicker
  have h1 : fLc (fIt (fVar 1)) (gNm 4) (fT (fOp gGe (fOp gIx (fOp gIx (fOp gIx (fVar 0) (fC (.int 2))) (fVar 4)) (fC (.int 0))) (fVar 2))) (fTup (aCons (fOp gIx (fOp gIx (fOp gIx (fVar 0) (fC (.int 2))) (fVar 4)) (fC (.int 0))) (aCons (fVar 4) aNil))) [4] [.dat (eB b), .dat (tN ks), .dat (nD place), .non, .non] = .ok (.list ((cands b ks place).map eK)) := by
    rw [fLc_eq nD (fun k => if place ≤ kat b k then some (eK (kat b k, k)) else none) ks (by simp only [bnd_ok, bnd_err, then_ok, then_err, fVar0, fVarS, fC_e, fOp_e, fUn_e, asB_e, asI_e, fT_e, fAnd_e, fOr_e, fNot_e, fAndV_e, fOrV_e, fNotV_e, fIf_e, fChain_e, aNil_e, aCons_e, fTup_e, fLst_e, fCall_e, dTup_e, dLst_e, gAdd_i, gSub_i, gNeg_i, gEq_i, gNe_i, gLt_i, gLe_i, gGt_i, gGe_i, gIsN_e, gNotN_e, isN_n, isN_i, isN_t, isN_l, isN_b, gIsi_e, tyD_n, tyD_i, tyD_t, tyD_l, tyD_b, tyD_s, isaT_ii, isaT_bi, isaT_ib, isaT_bb, isaT_tt, isaT_ll, isaT_tb, isaT_ti, isaT_it, isaT_bt, isaT_lt, isaT_nt, isaT_st, gLen_l, gLen_t, gOne_l, gTuple_l, gTuple_t, gInt_b, gMin2_e, gMax2_e, fIt_e, items_l, items_t, fItA_e, gEnum_e, gZip_t, gNm0, gNmS, gNil_e, gCons_e, gTp_e, wipe0, wipeS, tYesD_e, sNil_e, sExpr_e, sRet_e, sRaise_e, sIf_e, sAsg_e, asF_e, sFor_e, endF_r, endF_n, endF_x, asO_s, fRg1_e, sFrz_e, gIx_t0, gIx_t1, gIx_t2, gIx_l0, gIx_l1, gIx_l2, Option.map_some, Option.bind_some, List.set_cons_succ, List.set_cons_zero, List.getElem?_cons_succ, List.getElem?_cons_zero, Bool.not_true, Bool.not_false, Bool.false_eq_true, ↓reduceIte, List.length_cons, List.length_nil, List.map_cons, List.map_nil, Nat.reduceAdd, Nat.reduceLeDiff, Nat.reduceLT, Bool.true_and, Bool.and_true, Bool.false_and, Bool.and_false, List.length_map, Nat.zero_le]) (by omega) fun k h => ?_]
    · unfold cands
      rw [List.map_filterMap]
      congr 3
      funext k
      split <;> rfl
    · obtain ⟨x, hx⟩ := get_some (hk k h)
      simp only [lcOne, bnd_ok, bnd_err, then_ok, then_err, fVar0, fVarS, fC_e, fOp_e, fUn_e, asB_e, asI_e, fT_e, fAnd_e, fOr_e, fNot_e, fAndV_e, fOrV_e, fNotV_e, fIf_e, fChain_e, aNil_e, aCons_e, fTup_e, fLst_e, fCall_e, dTup_e, dLst_e, gAdd_i, gSub_i, gNeg_i, gEq_i, gNe_i, gLt_i, gLe_i, gGt_i, gGe_i, gIsN_e, gNotN_e, isN_n, isN_i, isN_t, isN_l, isN_b, gIsi_e, tyD_n, tyD_i, tyD_t, tyD_l, tyD_b, tyD_s, isaT_ii, isaT_bi, isaT_ib, isaT_bb, isaT_tt, isaT_ll, isaT_tb, isaT_ti, isaT_it, isaT_bt, isaT_lt, isaT_nt, isaT_st, gLen_l, gLen_t, gOne_l, gTuple_l, gTuple_t, gInt_b, gMin2_e, gMax2_e, fIt_e, items_l, items_t, fItA_e, gEnum_e, gZip_t, gNm0, gNmS, gNil_e, gCons_e, gTp_e, wipe0, wipeS, tYesD_e, sNil_e, sExpr_e, sRet_e, sRaise_e, sIf_e, sAsg_e, asF_e, sFor_e, endF_r, endF_n, endF_x, asO_s, fRg1_e, sFrz_e, gIx_t0, gIx_t1, gIx_t2, gIx_l0, gIx_l1, gIx_l2, Option.map_some, Option.bind_some, List.set_cons_succ, List.set_cons_zero, List.getElem?_cons_succ, List.getElem?_cons_zero, Bool.not_true, Bool.not_false, Bool.false_eq_true, ↓reduceIte, List.length_cons, List.length_nil, List.map_cons, List.map_nil, Nat.reduceAdd, Nat.reduceLeDiff, Nat.reduceLT, Bool.true_and, Bool.and_true, Bool.false_and, Bool.and_false, List.length_map, Nat.zero_le, gIx_map eK b.K k x hx, kat_e hx, Int.ofNat_le, decide_eq_true_eq]
      split <;> rfl
  rw [sSeq_n (h := by simp only [bnd_ok, bnd_err, then_ok, then_err, fVar0, fVarS, fC_e, fOp_e, fUn_e, asB_e, asI_e, fT_e, fAnd_e, fOr_e, fNot_e, fAndV_e, fOrV_e, fNotV_e, fIf_e, fChain_e, aNil_e, aCons_e, fTup_e, fLst_e, fCall_e, dTup_e, dLst_e, gAdd_i, gSub_i, gNeg_i, gEq_i, gNe_i, gLt_i, gLe_i, gGt_i, gGe_i, gIsN_e, gNotN_e, isN_n, isN_i, isN_t, isN_l, isN_b, gIsi_e, tyD_n, tyD_i, tyD_t, tyD_l, tyD_b, tyD_s, isaT_ii, isaT_bi, isaT_ib, isaT_bb, isaT_tt, isaT_ll, isaT_tb, isaT_ti, isaT_it, isaT_bt, isaT_lt, isaT_nt, isaT_st, gLen_l, gLen_t, gOne_l, gTuple_l, gTuple_t, gInt_b, gMin2_e, gMax2_e, fIt_e, items_l, items_t, fItA_e, gEnum_e, gZip_t, gNm0, gNmS, gNil_e, gCons_e, gTp_e, wipe0, wipeS, tYesD_e, sNil_e, sExpr_e, sRet_e, sRaise_e, sIf_e, sAsg_e, asF_e, sFor_e, endF_r, endF_n, endF_x, asO_s, fRg1_e, sFrz_e, gIx_t0, gIx_t1, gIx_t2, gIx_l0, gIx_l1, gIx_l2, Option.map_some, Option.bind_some, List.set_cons_succ, List.set_cons_zero, List.getElem?_cons_succ, List.getElem?_cons_zero, Bool.not_true, Bool.not_false, Bool.false_eq_true, ↓reduceIte, List.length_cons, List.length_nil, List.map_cons, List.map_nil, Nat.reduceAdd, Nat.reduceLeDiff, Nat.reduceLT, Bool.true_and, Bool.and_true, Bool.false_and, Bool.and_false, List.length_map, Nat.zero_le, h1]; rfl)]
  simp only [bnd_ok, bnd_err, then_ok, then_err, fVar0, fVarS, fC_e, fOp_e, fUn_e, asB_e, asI_e, fT_e, fAnd_e, fOr_e, fNot_e, fAndV_e, fOrV_e, fNotV_e, fIf_e, fChain_e, aNil_e, aCons_e, fTup_e, fLst_e, fCall_e, dTup_e, dLst_e, gAdd_i, gSub_i, gNeg_i, gEq_i, gNe_i, gLt_i, gLe_i, gGt_i, gGe_i, gIsN_e, gNotN_e, isN_n, isN_i, isN_t, isN_l, isN_b, gIsi_e, tyD_n, tyD_i, tyD_t, tyD_l, tyD_b, tyD_s, isaT_ii, isaT_bi, isaT_ib, isaT_bb, isaT_tt, isaT_ll, isaT_tb, isaT_ti, isaT_it, isaT_bt, isaT_lt, isaT_nt, isaT_st, gLen_l, gLen_t, gOne_l, gTuple_l, gTuple_t, gInt_b, gMin2_e, gMax2_e, fIt_e, items_l, items_t, fItA_e, gEnum_e, gZip_t, gNm0, gNmS, gNil_e, gCons_e, gTp_e, wipe0, wipeS, tYesD_e, sNil_e, sExpr_e, sRet_e, sRaise_e, sIf_e, sAsg_e, asF_e, sFor_e, endF_r, endF_n, endF_x, asO_s, fRg1_e, sFrz_e, gIx_t0, gIx_t1, gIx_t2, gIx_l0, gIx_l1, gIx_l2, Option.map_some, Option.bind_some, List.set_cons_succ, List.set_cons_zero, List.getElem?_cons_succ, List.getElem?_cons_zero, Bool.not_true, Bool.not_false, Bool.false_eq_true, ↓reduceIte, List.length_cons, List.length_nil, List.map_cons, List.map_nil, Nat.reduceAdd, Nat.reduceLeDiff, Nat.reduceLT, Bool.true_and, Bool.and_true, Bool.false_and, Bool.and_false, List.length_map, Nat.zero_le, ne_nil (lay_map eK _ fun x _ => lay_eK x)]
  unfold cFirst
  cases cands b ks place with
  | nil => rfl
  | cons x xs =>
    rw [dMin_eK]
    rfl
def cUse (b : Belt) (ss ks : List Nat) (f : Nat) : List Nat := ss.filter fun s => cSees b s f && (cFirst b ks (sat b s)).isSome
theorem isN_oN (o : Option Nat) : isN (oN o) = !o.isSome := by cases o <;> rfl
theorem useful_e {b : Belt} {ss ks : List Nat} {f : Nat} (hb : b.K.length ≤ 3) (hs : ∀ s ∈ ss, s < b.S.length) (hk : ∀ k ∈ ks, k < b.K.length) (hf : f < b.F.length) (hl : ks.length ≤ 1000) (hl' : ss.length ≤ 1000) : m_useful [eB b, tN ss, tN ks, nD f] = .ok (lN (cUse b ss ks f)) := by
  rw [q_useful]
  unfold b_useful
  rw [sSeq_n (h := sOwn_e _ _ (by simp))]
  obtain ⟨ρ, h1, j, rfl⟩ := for_inv nD (gt := gNm 5) (body := (sIf (fAnd (fT (fCall m_sees (aCons (fVar 0) (aCons (fVar 5) (aCons (fVar 3) aNil))))) (fT (fOp gNotN (fCall m_first_kicker (aCons (fVar 0) (aCons (fVar 2) (aCons (fOp gIx (fOp gIx (fOp gIx (fVar 0) (fC (.int 1))) (fVar 5)) (fC (.int 0))) aNil)))) (fC .none)))) (sApp 4 (fVar 5)) sNil))
    (fun pre ρ => ∃ j, ρ = [.dat (eB b), .dat (tN ss), .dat (tN ks), .dat (nD f), .own ((cUse b pre ks f).map nD), j]) ss (fun pre s post ρ e ⟨j, hρ⟩ => by
      subst hρ
      have hs := hs s (by rw [e]; simp)
      obtain ⟨x, hx⟩ := get_some hs
      refine ⟨_, forOne_n (by simp only [bnd_ok, bnd_err, then_ok, then_err, fVar0, fVarS, fC_e, fOp_e, fUn_e, asB_e, asI_e, fT_e, fAnd_e, fOr_e, fNot_e, fAndV_e, fOrV_e, fNotV_e, fIf_e, fChain_e, aNil_e, aCons_e, fTup_e, fLst_e, fCall_e, dTup_e, dLst_e, gAdd_i, gSub_i, gNeg_i, gEq_i, gNe_i, gLt_i, gLe_i, gGt_i, gGe_i, gIsN_e, gNotN_e, isN_n, isN_i, isN_t, isN_l, isN_b, gIsi_e, tyD_n, tyD_i, tyD_t, tyD_l, tyD_b, tyD_s, isaT_ii, isaT_bi, isaT_ib, isaT_bb, isaT_tt, isaT_ll, isaT_tb, isaT_ti, isaT_it, isaT_bt, isaT_lt, isaT_nt, isaT_st, gLen_l, gLen_t, gOne_l, gTuple_l, gTuple_t, gInt_b, gMin2_e, gMax2_e, fIt_e, items_l, items_t, fItA_e, gEnum_e, gZip_t, gNm0, gNmS, gNil_e, gCons_e, gTp_e, wipe0, wipeS, tYesD_e, sNil_e, sExpr_e, sRet_e, sRaise_e, sIf_e, sAsg_e, asF_e, sFor_e, endF_r, endF_n, endF_x, asO_s, fRg1_e, sFrz_e, gIx_t0, gIx_t1, gIx_t2, gIx_l0, gIx_l1, gIx_l2, Option.map_some, Option.bind_some, List.set_cons_succ, List.set_cons_zero, List.getElem?_cons_succ, List.getElem?_cons_zero, Bool.not_true, Bool.not_false, Bool.false_eq_true, ↓reduceIte, List.length_cons, List.length_nil, List.map_cons, List.map_nil, Nat.reduceAdd, Nat.reduceLeDiff, Nat.reduceLT, Bool.true_and, Bool.and_true, Bool.false_and, Bool.and_false, List.length_map, Nat.zero_le]; rfl) ?_, .dat (nD s), rfl⟩
      have hu : cUse b (pre ++ [s]) ks f = cUse b pre ks f ++ if cSees b s f && (cFirst b ks (sat b s)).isSome then [s] else [] := by
        unfold cUse
        rw [List.filter_append, List.filter_cons]
        rfl
      have hlen : (cUse b pre ks f).length ≤ pre.length := List.length_filter_le _ _
      have hlen2 : pre.length ≤ ss.length := by rw [e]; simp
      simp only [bnd_ok, bnd_err, then_ok, then_err, fVar0, fVarS, fC_e, fOp_e, fUn_e, asB_e, asI_e, fT_e, fAnd_e, fOr_e, fNot_e, fAndV_e, fOrV_e, fNotV_e, fIf_e, fChain_e, aNil_e, aCons_e, fTup_e, fLst_e, fCall_e, dTup_e, dLst_e, gAdd_i, gSub_i, gNeg_i, gEq_i, gNe_i, gLt_i, gLe_i, gGt_i, gGe_i, gIsN_e, gNotN_e, isN_n, isN_i, isN_t, isN_l, isN_b, gIsi_e, tyD_n, tyD_i, tyD_t, tyD_l, tyD_b, tyD_s, isaT_ii, isaT_bi, isaT_ib, isaT_bb, isaT_tt, isaT_ll, isaT_tb, isaT_ti, isaT_it, isaT_bt, isaT_lt, isaT_nt, isaT_st, gLen_l, gLen_t, gOne_l, gTuple_l, gTuple_t, gInt_b, gMin2_e, gMax2_e, fIt_e, items_l, items_t, fItA_e, gEnum_e, gZip_t, gNm0, gNmS, gNil_e, gCons_e, gTp_e, wipe0, wipeS, tYesD_e, sNil_e, sExpr_e, sRet_e, sRaise_e, sIf_e, sAsg_e, asF_e, sFor_e, endF_r, endF_n, endF_x, asO_s, fRg1_e, sFrz_e, gIx_t0, gIx_t1, gIx_t2, gIx_l0, gIx_l1, gIx_l2, Option.map_some, Option.bind_some, List.set_cons_succ, List.set_cons_zero, List.getElem?_cons_succ, List.getElem?_cons_zero, Bool.not_true, Bool.not_false, Bool.false_eq_true, ↓reduceIte, List.length_cons, List.length_nil, List.map_cons, List.map_nil, Nat.reduceAdd, Nat.reduceLeDiff, Nat.reduceLT, Bool.true_and, Bool.and_true, Bool.false_and, Bool.and_false, List.length_map, Nat.zero_le, sees_e hs hf, gIx_map eS b.S s x hx]
      rw [hu]
      cases h1 : cSees b s f with
      | false => simp only [bnd_ok, bnd_err, then_ok, then_err, fVar0, fVarS, fC_e, fOp_e, fUn_e, asB_e, asI_e, fT_e, fAnd_e, fOr_e, fNot_e, fAndV_e, fOrV_e, fNotV_e, fIf_e, fChain_e, aNil_e, aCons_e, fTup_e, fLst_e, fCall_e, dTup_e, dLst_e, gAdd_i, gSub_i, gNeg_i, gEq_i, gNe_i, gLt_i, gLe_i, gGt_i, gGe_i, gIsN_e, gNotN_e, isN_n, isN_i, isN_t, isN_l, isN_b, gIsi_e, tyD_n, tyD_i, tyD_t, tyD_l, tyD_b, tyD_s, isaT_ii, isaT_bi, isaT_ib, isaT_bb, isaT_tt, isaT_ll, isaT_tb, isaT_ti, isaT_it, isaT_bt, isaT_lt, isaT_nt, isaT_st, gLen_l, gLen_t, gOne_l, gTuple_l, gTuple_t, gInt_b, gMin2_e, gMax2_e, fIt_e, items_l, items_t, fItA_e, gEnum_e, gZip_t, gNm0, gNmS, gNil_e, gCons_e, gTp_e, wipe0, wipeS, tYesD_e, sNil_e, sExpr_e, sRet_e, sRaise_e, sIf_e, sAsg_e, asF_e, sFor_e, endF_r, endF_n, endF_x, asO_s, fRg1_e, sFrz_e, gIx_t0, gIx_t1, gIx_t2, gIx_l0, gIx_l1, gIx_l2, Option.map_some, Option.bind_some, List.set_cons_succ, List.set_cons_zero, List.getElem?_cons_succ, List.getElem?_cons_zero, Bool.not_true, Bool.not_false, Bool.false_eq_true, ↓reduceIte, List.length_cons, List.length_nil, List.map_cons, List.map_nil, Nat.reduceAdd, Nat.reduceLeDiff, Nat.reduceLT, Bool.true_and, Bool.and_true, Bool.false_and, Bool.and_false, List.length_map, Nat.zero_le, List.append_nil]
      | true =>
        simp only [bnd_ok, bnd_err, then_ok, then_err, fVar0, fVarS, fC_e, fOp_e, fUn_e, asB_e, asI_e, fT_e, fAnd_e, fOr_e, fNot_e, fAndV_e, fOrV_e, fNotV_e, fIf_e, fChain_e, aNil_e, aCons_e, fTup_e, fLst_e, fCall_e, dTup_e, dLst_e, gAdd_i, gSub_i, gNeg_i, gEq_i, gNe_i, gLt_i, gLe_i, gGt_i, gGe_i, gIsN_e, gNotN_e, isN_n, isN_i, isN_t, isN_l, isN_b, gIsi_e, tyD_n, tyD_i, tyD_t, tyD_l, tyD_b, tyD_s, isaT_ii, isaT_bi, isaT_ib, isaT_bb, isaT_tt, isaT_ll, isaT_tb, isaT_ti, isaT_it, isaT_bt, isaT_lt, isaT_nt, isaT_st, gLen_l, gLen_t, gOne_l, gTuple_l, gTuple_t, gInt_b, gMin2_e, gMax2_e, fIt_e, items_l, items_t, fItA_e, gEnum_e, gZip_t, gNm0, gNmS, gNil_e, gCons_e, gTp_e, wipe0, wipeS, tYesD_e, sNil_e, sExpr_e, sRet_e, sRaise_e, sIf_e, sAsg_e, asF_e, sFor_e, endF_r, endF_n, endF_x, asO_s, fRg1_e, sFrz_e, gIx_t0, gIx_t1, gIx_t2, gIx_l0, gIx_l1, gIx_l2, Option.map_some, Option.bind_some, List.set_cons_succ, List.set_cons_zero, List.getElem?_cons_succ, List.getElem?_cons_zero, Bool.not_true, Bool.not_false, Bool.false_eq_true, ↓reduceIte, List.length_cons, List.length_nil, List.map_cons, List.map_nil, Nat.reduceAdd, Nat.reduceLeDiff, Nat.reduceLT, Bool.true_and, Bool.and_true, Bool.false_and, Bool.and_false, List.length_map, Nat.zero_le, first_e hb hk hl, isN_oN, sat_e hx, Bool.not_not]
        cases h2 : (cFirst b ks x.at_).isSome with
        | false => simp only [bnd_ok, bnd_err, then_ok, then_err, fVar0, fVarS, fC_e, fOp_e, fUn_e, asB_e, asI_e, fT_e, fAnd_e, fOr_e, fNot_e, fAndV_e, fOrV_e, fNotV_e, fIf_e, fChain_e, aNil_e, aCons_e, fTup_e, fLst_e, fCall_e, dTup_e, dLst_e, gAdd_i, gSub_i, gNeg_i, gEq_i, gNe_i, gLt_i, gLe_i, gGt_i, gGe_i, gIsN_e, gNotN_e, isN_n, isN_i, isN_t, isN_l, isN_b, gIsi_e, tyD_n, tyD_i, tyD_t, tyD_l, tyD_b, tyD_s, isaT_ii, isaT_bi, isaT_ib, isaT_bb, isaT_tt, isaT_ll, isaT_tb, isaT_ti, isaT_it, isaT_bt, isaT_lt, isaT_nt, isaT_st, gLen_l, gLen_t, gOne_l, gTuple_l, gTuple_t, gInt_b, gMin2_e, gMax2_e, fIt_e, items_l, items_t, fItA_e, gEnum_e, gZip_t, gNm0, gNmS, gNil_e, gCons_e, gTp_e, wipe0, wipeS, tYesD_e, sNil_e, sExpr_e, sRet_e, sRaise_e, sIf_e, sAsg_e, asF_e, sFor_e, endF_r, endF_n, endF_x, asO_s, fRg1_e, sFrz_e, gIx_t0, gIx_t1, gIx_t2, gIx_l0, gIx_l1, gIx_l2, Option.map_some, Option.bind_some, List.set_cons_succ, List.set_cons_zero, List.getElem?_cons_succ, List.getElem?_cons_zero, Bool.not_true, Bool.not_false, Bool.false_eq_true, ↓reduceIte, List.length_cons, List.length_nil, List.map_cons, List.map_nil, Nat.reduceAdd, Nat.reduceLeDiff, Nat.reduceLT, Bool.true_and, Bool.and_true, Bool.false_and, Bool.and_false, List.length_map, Nat.zero_le, List.append_nil]
        | true =>
          simp only [bnd_ok, bnd_err, then_ok, then_err, fVar0, fVarS, fC_e, fOp_e, fUn_e, asB_e, asI_e, fT_e, fAnd_e, fOr_e, fNot_e, fAndV_e, fOrV_e, fNotV_e, fIf_e, fChain_e, aNil_e, aCons_e, fTup_e, fLst_e, fCall_e, dTup_e, dLst_e, gAdd_i, gSub_i, gNeg_i, gEq_i, gNe_i, gLt_i, gLe_i, gGt_i, gGe_i, gIsN_e, gNotN_e, isN_n, isN_i, isN_t, isN_l, isN_b, gIsi_e, tyD_n, tyD_i, tyD_t, tyD_l, tyD_b, tyD_s, isaT_ii, isaT_bi, isaT_ib, isaT_bb, isaT_tt, isaT_ll, isaT_tb, isaT_ti, isaT_it, isaT_bt, isaT_lt, isaT_nt, isaT_st, gLen_l, gLen_t, gOne_l, gTuple_l, gTuple_t, gInt_b, gMin2_e, gMax2_e, fIt_e, items_l, items_t, fItA_e, gEnum_e, gZip_t, gNm0, gNmS, gNil_e, gCons_e, gTp_e, wipe0, wipeS, tYesD_e, sNil_e, sExpr_e, sRet_e, sRaise_e, sIf_e, sAsg_e, asF_e, sFor_e, endF_r, endF_n, endF_x, asO_s, fRg1_e, sFrz_e, gIx_t0, gIx_t1, gIx_t2, gIx_l0, gIx_l1, gIx_l2, Option.map_some, Option.bind_some, List.set_cons_succ, List.set_cons_zero, List.getElem?_cons_succ, List.getElem?_cons_zero, Bool.not_true, Bool.not_false, Bool.false_eq_true, ↓reduceIte, List.length_cons, List.length_nil, List.map_cons, List.map_nil, Nat.reduceAdd, Nat.reduceLeDiff, Nat.reduceLT, Bool.true_and, Bool.and_true, Bool.false_and, Bool.and_false, List.length_map, Nat.zero_le]
          rw [sApp_e (h := rfl) (hf := rfl) (hl := by rw [List.length_map]; omega)]
          simp only [bnd_ok, bnd_err, then_ok, then_err, fVar0, fVarS, fC_e, fOp_e, fUn_e, asB_e, asI_e, fT_e, fAnd_e, fOr_e, fNot_e, fAndV_e, fOrV_e, fNotV_e, fIf_e, fChain_e, aNil_e, aCons_e, fTup_e, fLst_e, fCall_e, dTup_e, dLst_e, gAdd_i, gSub_i, gNeg_i, gEq_i, gNe_i, gLt_i, gLe_i, gGt_i, gGe_i, gIsN_e, gNotN_e, isN_n, isN_i, isN_t, isN_l, isN_b, gIsi_e, tyD_n, tyD_i, tyD_t, tyD_l, tyD_b, tyD_s, isaT_ii, isaT_bi, isaT_ib, isaT_bb, isaT_tt, isaT_ll, isaT_tb, isaT_ti, isaT_it, isaT_bt, isaT_lt, isaT_nt, isaT_st, gLen_l, gLen_t, gOne_l, gTuple_l, gTuple_t, gInt_b, gMin2_e, gMax2_e, fIt_e, items_l, items_t, fItA_e, gEnum_e, gZip_t, gNm0, gNmS, gNil_e, gCons_e, gTp_e, wipe0, wipeS, tYesD_e, sNil_e, sExpr_e, sRet_e, sRaise_e, sIf_e, sAsg_e, asF_e, sFor_e, endF_r, endF_n, endF_x, asO_s, fRg1_e, sFrz_e, gIx_t0, gIx_t1, gIx_t2, gIx_l0, gIx_l1, gIx_l2, Option.map_some, Option.bind_some, List.set_cons_succ, List.set_cons_zero, List.getElem?_cons_succ, List.getElem?_cons_zero, Bool.not_true, Bool.not_false, Bool.false_eq_true, ↓reduceIte, List.length_cons, List.length_nil, List.map_cons, List.map_nil, Nat.reduceAdd, Nat.reduceLeDiff, Nat.reduceLT, Bool.true_and, Bool.and_true, Bool.false_and, Bool.and_false, List.length_map, Nat.zero_le, List.map_append]) (ρ := [.dat (eB b), .dat (tN ss), .dat (tN ks), .dat (nD f), .own [], .non]) ⟨.non, rfl⟩
  rw [sSeq_n (h := by simp only [bnd_ok, bnd_err, then_ok, then_err, fVar0, fVarS, fC_e, fOp_e, fUn_e, asB_e, asI_e, fT_e, fAnd_e, fOr_e, fNot_e, fAndV_e, fOrV_e, fNotV_e, fIf_e, fChain_e, aNil_e, aCons_e, fTup_e, fLst_e, fCall_e, dTup_e, dLst_e, gAdd_i, gSub_i, gNeg_i, gEq_i, gNe_i, gLt_i, gLe_i, gGt_i, gGe_i, gIsN_e, gNotN_e, isN_n, isN_i, isN_t, isN_l, isN_b, gIsi_e, tyD_n, tyD_i, tyD_t, tyD_l, tyD_b, tyD_s, isaT_ii, isaT_bi, isaT_ib, isaT_bb, isaT_tt, isaT_ll, isaT_tb, isaT_ti, isaT_it, isaT_bt, isaT_lt, isaT_nt, isaT_st, gLen_l, gLen_t, gOne_l, gTuple_l, gTuple_t, gInt_b, gMin2_e, gMax2_e, fIt_e, items_l, items_t, fItA_e, gEnum_e, gZip_t, gNm0, gNmS, gNil_e, gCons_e, gTp_e, wipe0, wipeS, tYesD_e, sNil_e, sExpr_e, sRet_e, sRaise_e, sIf_e, sAsg_e, asF_e, sFor_e, endF_r, endF_n, endF_x, asO_s, fRg1_e, sFrz_e, gIx_t0, gIx_t1, gIx_t2, gIx_l0, gIx_l1, gIx_l2, Option.map_some, Option.bind_some, List.set_cons_succ, List.set_cons_zero, List.getElem?_cons_succ, List.getElem?_cons_zero, Bool.not_true, Bool.not_false, Bool.false_eq_true, ↓reduceIte, List.length_cons, List.length_nil, List.map_cons, List.map_nil, Nat.reduceAdd, Nat.reduceLeDiff, Nat.reduceLT, Bool.true_and, Bool.and_true, Bool.false_and, Bool.and_false, List.length_map, Nat.zero_le, h1]; rfl)]
  simp only [bnd_ok, bnd_err, then_ok, then_err, fVar0, fVarS, fC_e, fOp_e, fUn_e, asB_e, asI_e, fT_e, fAnd_e, fOr_e, fNot_e, fAndV_e, fOrV_e, fNotV_e, fIf_e, fChain_e, aNil_e, aCons_e, fTup_e, fLst_e, fCall_e, dTup_e, dLst_e, gAdd_i, gSub_i, gNeg_i, gEq_i, gNe_i, gLt_i, gLe_i, gGt_i, gGe_i, gIsN_e, gNotN_e, isN_n, isN_i, isN_t, isN_l, isN_b, gIsi_e, tyD_n, tyD_i, tyD_t, tyD_l, tyD_b, tyD_s, isaT_ii, isaT_bi, isaT_ib, isaT_bb, isaT_tt, isaT_ll, isaT_tb, isaT_ti, isaT_it, isaT_bt, isaT_lt, isaT_nt, isaT_st, gLen_l, gLen_t, gOne_l, gTuple_l, gTuple_t, gInt_b, gMin2_e, gMax2_e, fIt_e, items_l, items_t, fItA_e, gEnum_e, gZip_t, gNm0, gNmS, gNil_e, gCons_e, gTp_e, wipe0, wipeS, tYesD_e, sNil_e, sExpr_e, sRet_e, sRaise_e, sIf_e, sAsg_e, asF_e, sFor_e, endF_r, endF_n, endF_x, asO_s, fRg1_e, sFrz_e, gIx_t0, gIx_t1, gIx_t2, gIx_l0, gIx_l1, gIx_l2, Option.map_some, Option.bind_some, List.set_cons_succ, List.set_cons_zero, List.getElem?_cons_succ, List.getElem?_cons_zero, Bool.not_true, Bool.not_false, Bool.false_eq_true, ↓reduceIte, List.length_cons, List.length_nil, List.map_cons, List.map_nil, Nat.reduceAdd, Nat.reduceLeDiff, Nat.reduceLT, Bool.true_and, Bool.and_true, Bool.false_and, Bool.and_false, List.length_map, Nat.zero_le]
  rw [frz_e (h := rfl)]
  simp only [bnd_ok, bnd_err, then_ok, then_err, fVar0, fVarS, fC_e, fOp_e, fUn_e, asB_e, asI_e, fT_e, fAnd_e, fOr_e, fNot_e, fAndV_e, fOrV_e, fNotV_e, fIf_e, fChain_e, aNil_e, aCons_e, fTup_e, fLst_e, fCall_e, dTup_e, dLst_e, gAdd_i, gSub_i, gNeg_i, gEq_i, gNe_i, gLt_i, gLe_i, gGt_i, gGe_i, gIsN_e, gNotN_e, isN_n, isN_i, isN_t, isN_l, isN_b, gIsi_e, tyD_n, tyD_i, tyD_t, tyD_l, tyD_b, tyD_s, isaT_ii, isaT_bi, isaT_ib, isaT_bb, isaT_tt, isaT_ll, isaT_tb, isaT_ti, isaT_it, isaT_bt, isaT_lt, isaT_nt, isaT_st, gLen_l, gLen_t, gOne_l, gTuple_l, gTuple_t, gInt_b, gMin2_e, gMax2_e, fIt_e, items_l, items_t, fItA_e, gEnum_e, gZip_t, gNm0, gNmS, gNil_e, gCons_e, gTp_e, wipe0, wipeS, tYesD_e, sNil_e, sExpr_e, sRet_e, sRaise_e, sIf_e, sAsg_e, asF_e, sFor_e, endF_r, endF_n, endF_x, asO_s, fRg1_e, sFrz_e, gIx_t0, gIx_t1, gIx_t2, gIx_l0, gIx_l1, gIx_l2, Option.map_some, Option.bind_some, List.set_cons_succ, List.set_cons_zero, List.getElem?_cons_succ, List.getElem?_cons_zero, Bool.not_true, Bool.not_false, Bool.false_eq_true, ↓reduceIte, List.length_cons, List.length_nil, List.map_cons, List.map_nil, Nat.reduceAdd, Nat.reduceLeDiff, Nat.reduceLT, Bool.true_and, Bool.and_true, Bool.false_and, Bool.and_false, List.length_map, Nat.zero_le]
end Bl
namespace Bl
open PySem L2 Dl
structure PlanOk (b : Belt) (ss ks : List Nat) : Prop where
  s : Rise b.S.length ss
  k : Rise b.K.length ks
theorem need_plan_t {b : Belt} {ss ks : List Nat} (h : b.Ok) (p : PlanOk b ss ks) : m_need_plan [eB b, eP ss ks] = .ok .none := by
  have s8 := h.s8; have k3 := h.k3
  rw [q_need_plan]
  unfold b_need_plan
  have h2 : (!((((2 : Nat) : Int)) == (2 : Int))) = false := by decide
  rw [sSeq_n (h := by simp only [bnd_ok, bnd_err, then_ok, then_err, fVar0, fVarS, fC_e, fOp_e, fUn_e, asB_e, asI_e, fT_e, fAnd_e, fOr_e, fNot_e, fAndV_e, fOrV_e, fNotV_e, fIf_e, fChain_e, aNil_e, aCons_e, fTup_e, fLst_e, fCall_e, dTup_e, dLst_e, gAdd_i, gSub_i, gNeg_i, gEq_i, gNe_i, gLt_i, gLe_i, gGt_i, gGe_i, gIsN_e, gNotN_e, isN_n, isN_i, isN_t, isN_l, isN_b, gIsi_e, tyD_n, tyD_i, tyD_t, tyD_l, tyD_b, tyD_s, isaT_ii, isaT_bi, isaT_ib, isaT_bb, isaT_tt, isaT_ll, isaT_tb, isaT_ti, isaT_it, isaT_bt, isaT_lt, isaT_nt, isaT_st, gLen_l, gLen_t, gOne_l, gTuple_l, gTuple_t, gInt_b, gMin2_e, gMax2_e, fIt_e, items_l, items_t, fItA_e, gEnum_e, gZip_t, gNm0, gNmS, gNil_e, gCons_e, gTp_e, wipe0, wipeS, tYesD_e, sNil_e, sExpr_e, sRet_e, sRaise_e, sIf_e, sAsg_e, asF_e, sFor_e, endF_r, endF_n, endF_x, asO_s, fRg1_e, sFrz_e, gIx_t0, gIx_t1, gIx_t2, gIx_l0, gIx_l1, gIx_l2, Option.map_some, Option.bind_some, List.set_cons_succ, List.set_cons_zero, List.getElem?_cons_succ, List.getElem?_cons_zero, Bool.not_true, Bool.not_false, Bool.false_eq_true, ↓reduceIte, List.length_cons, List.length_nil, List.map_cons, List.map_nil, Nat.reduceAdd, Nat.reduceLeDiff, Nat.reduceLT, Bool.true_and, Bool.and_true, Bool.false_and, Bool.and_false, List.length_map, Nat.zero_le]; rfl)]
  simp only [bnd_ok, bnd_err, then_ok, then_err, fVar0, fVarS, fC_e, fOp_e, fUn_e, asB_e, asI_e, fT_e, fAnd_e, fOr_e, fNot_e, fAndV_e, fOrV_e, fNotV_e, fIf_e, fChain_e, aNil_e, aCons_e, fTup_e, fLst_e, fCall_e, dTup_e, dLst_e, gAdd_i, gSub_i, gNeg_i, gEq_i, gNe_i, gLt_i, gLe_i, gGt_i, gGe_i, gIsN_e, gNotN_e, isN_n, isN_i, isN_t, isN_l, isN_b, gIsi_e, tyD_n, tyD_i, tyD_t, tyD_l, tyD_b, tyD_s, isaT_ii, isaT_bi, isaT_ib, isaT_bb, isaT_tt, isaT_ll, isaT_tb, isaT_ti, isaT_it, isaT_bt, isaT_lt, isaT_nt, isaT_st, gLen_l, gLen_t, gOne_l, gTuple_l, gTuple_t, gInt_b, gMin2_e, gMax2_e, fIt_e, items_l, items_t, fItA_e, gEnum_e, gZip_t, gNm0, gNmS, gNil_e, gCons_e, gTp_e, wipe0, wipeS, tYesD_e, sNil_e, sExpr_e, sRet_e, sRaise_e, sIf_e, sAsg_e, asF_e, sFor_e, endF_r, endF_n, endF_x, asO_s, fRg1_e, sFrz_e, gIx_t0, gIx_t1, gIx_t2, gIx_l0, gIx_l1, gIx_l2, Option.map_some, Option.bind_some, List.set_cons_succ, List.set_cons_zero, List.getElem?_cons_succ, List.getElem?_cons_zero, Bool.not_true, Bool.not_false, Bool.false_eq_true, ↓reduceIte, List.length_cons, List.length_nil, List.map_cons, List.map_nil, Nat.reduceAdd, Nat.reduceLeDiff, Nat.reduceLT, Bool.true_and, Bool.and_true, Bool.false_and, Bool.and_false, List.length_map, Nat.zero_le, is_rising_t p.s (by omega), is_rising_t p.k (by omega)]
structure BotOk (b : Belt) (ss : List Nat) (r : List Nat × List Nat) : Prop where
  hb : Rise b.F.length r.1
  hs : Rise b.S.length r.2
  hi : ∀ x ∈ r.2, x ∈ ss
theorem all_eq {α : Type} {xs : List α} {f : α → Bool} (h : ∀ x ∈ xs, f x = true) : dAll (xs.map fun x => PyData.bool (f x)) = .ok (.bool true) := by
  rw [dAll_map, List.all_eq_true.mpr h]
theorem need_bottle_t {b : Belt} {ss ks : List Nat} {r : List Nat × List Nat} (h : b.Ok) (p : BotOk b ss r) : m_need_bottle [eB b, eP ss ks, tN r.1, tN r.2] = .ok .none := by
  have s8 := h.s8; have k3 := h.k3; have f6 := h.f6
  have l2 := rise_len p.hs
  rw [q_need_bottle]
  unfold b_need_bottle
  rw [sSeq_n (h := by simp only [bnd_ok, bnd_err, then_ok, then_err, fVar0, fVarS, fC_e, fOp_e, fUn_e, asB_e, asI_e, fT_e, fAnd_e, fOr_e, fNot_e, fAndV_e, fOrV_e, fNotV_e, fIf_e, fChain_e, aNil_e, aCons_e, fTup_e, fLst_e, fCall_e, dTup_e, dLst_e, gAdd_i, gSub_i, gNeg_i, gEq_i, gNe_i, gLt_i, gLe_i, gGt_i, gGe_i, gIsN_e, gNotN_e, isN_n, isN_i, isN_t, isN_l, isN_b, gIsi_e, tyD_n, tyD_i, tyD_t, tyD_l, tyD_b, tyD_s, isaT_ii, isaT_bi, isaT_ib, isaT_bb, isaT_tt, isaT_ll, isaT_tb, isaT_ti, isaT_it, isaT_bt, isaT_lt, isaT_nt, isaT_st, gLen_l, gLen_t, gOne_l, gTuple_l, gTuple_t, gInt_b, gMin2_e, gMax2_e, fIt_e, items_l, items_t, fItA_e, gEnum_e, gZip_t, gNm0, gNmS, gNil_e, gCons_e, gTp_e, wipe0, wipeS, tYesD_e, sNil_e, sExpr_e, sRet_e, sRaise_e, sIf_e, sAsg_e, asF_e, sFor_e, endF_r, endF_n, endF_x, asO_s, fRg1_e, sFrz_e, gIx_t0, gIx_t1, gIx_t2, gIx_l0, gIx_l1, gIx_l2, Option.map_some, Option.bind_some, List.set_cons_succ, List.set_cons_zero, List.getElem?_cons_succ, List.getElem?_cons_zero, Bool.not_true, Bool.not_false, Bool.false_eq_true, ↓reduceIte, List.length_cons, List.length_nil, List.map_cons, List.map_nil, Nat.reduceAdd, Nat.reduceLeDiff, Nat.reduceLT, Bool.true_and, Bool.and_true, Bool.false_and, Bool.and_false, List.length_map, Nat.zero_le, is_rising_t p.hb (Nat.le_trans f6 (by decide))]; rfl)]
  simp only [bnd_ok, bnd_err, then_ok, then_err, fVar0, fVarS, fC_e, fOp_e, fUn_e, asB_e, asI_e, fT_e, fAnd_e, fOr_e, fNot_e, fAndV_e, fOrV_e, fNotV_e, fIf_e, fChain_e, aNil_e, aCons_e, fTup_e, fLst_e, fCall_e, dTup_e, dLst_e, gAdd_i, gSub_i, gNeg_i, gEq_i, gNe_i, gLt_i, gLe_i, gGt_i, gGe_i, gIsN_e, gNotN_e, isN_n, isN_i, isN_t, isN_l, isN_b, gIsi_e, tyD_n, tyD_i, tyD_t, tyD_l, tyD_b, tyD_s, isaT_ii, isaT_bi, isaT_ib, isaT_bb, isaT_tt, isaT_ll, isaT_tb, isaT_ti, isaT_it, isaT_bt, isaT_lt, isaT_nt, isaT_st, gLen_l, gLen_t, gOne_l, gTuple_l, gTuple_t, gInt_b, gMin2_e, gMax2_e, fIt_e, items_l, items_t, fItA_e, gEnum_e, gZip_t, gNm0, gNmS, gNil_e, gCons_e, gTp_e, wipe0, wipeS, tYesD_e, sNil_e, sExpr_e, sRet_e, sRaise_e, sIf_e, sAsg_e, asF_e, sFor_e, endF_r, endF_n, endF_x, asO_s, fRg1_e, sFrz_e, gIx_t0, gIx_t1, gIx_t2, gIx_l0, gIx_l1, gIx_l2, Option.map_some, Option.bind_some, List.set_cons_succ, List.set_cons_zero, List.getElem?_cons_succ, List.getElem?_cons_zero, Bool.not_true, Bool.not_false, Bool.false_eq_true, ↓reduceIte, List.length_cons, List.length_nil, List.map_cons, List.map_nil, Nat.reduceAdd, Nat.reduceLeDiff, Nat.reduceLT, Bool.true_and, Bool.and_true, Bool.false_and, Bool.and_false, List.length_map, Nat.zero_le, is_rising_t p.hs (Nat.le_trans s8 (by decide))]
  rw [fLc_map nD (fun x => .bool (ss.contains x)) r.2 (by simp only [bnd_ok, bnd_err, then_ok, then_err, fVar0, fVarS, fC_e, fOp_e, fUn_e, asB_e, asI_e, fT_e, fAnd_e, fOr_e, fNot_e, fAndV_e, fOrV_e, fNotV_e, fIf_e, fChain_e, aNil_e, aCons_e, fTup_e, fLst_e, fCall_e, dTup_e, dLst_e, gAdd_i, gSub_i, gNeg_i, gEq_i, gNe_i, gLt_i, gLe_i, gGt_i, gGe_i, gIsN_e, gNotN_e, isN_n, isN_i, isN_t, isN_l, isN_b, gIsi_e, tyD_n, tyD_i, tyD_t, tyD_l, tyD_b, tyD_s, isaT_ii, isaT_bi, isaT_ib, isaT_bb, isaT_tt, isaT_ll, isaT_tb, isaT_ti, isaT_it, isaT_bt, isaT_lt, isaT_nt, isaT_st, gLen_l, gLen_t, gOne_l, gTuple_l, gTuple_t, gInt_b, gMin2_e, gMax2_e, fIt_e, items_l, items_t, fItA_e, gEnum_e, gZip_t, gNm0, gNmS, gNil_e, gCons_e, gTp_e, wipe0, wipeS, tYesD_e, sNil_e, sExpr_e, sRet_e, sRaise_e, sIf_e, sAsg_e, asF_e, sFor_e, endF_r, endF_n, endF_x, asO_s, fRg1_e, sFrz_e, gIx_t0, gIx_t1, gIx_t2, gIx_l0, gIx_l1, gIx_l2, Option.map_some, Option.bind_some, List.set_cons_succ, List.set_cons_zero, List.getElem?_cons_succ, List.getElem?_cons_zero, Bool.not_true, Bool.not_false, Bool.false_eq_true, ↓reduceIte, List.length_cons, List.length_nil, List.map_cons, List.map_nil, Nat.reduceAdd, Nat.reduceLeDiff, Nat.reduceLT, Bool.true_and, Bool.and_true, Bool.false_and, Bool.and_false, List.length_map, Nat.zero_le]) (by omega) fun x hx => ?_]
  · simp only [bnd_ok, bnd_err, then_ok, then_err, fVar0, fVarS, fC_e, fOp_e, fUn_e, asB_e, asI_e, fT_e, fAnd_e, fOr_e, fNot_e, fAndV_e, fOrV_e, fNotV_e, fIf_e, fChain_e, aNil_e, aCons_e, fTup_e, fLst_e, fCall_e, dTup_e, dLst_e, gAdd_i, gSub_i, gNeg_i, gEq_i, gNe_i, gLt_i, gLe_i, gGt_i, gGe_i, gIsN_e, gNotN_e, isN_n, isN_i, isN_t, isN_l, isN_b, gIsi_e, tyD_n, tyD_i, tyD_t, tyD_l, tyD_b, tyD_s, isaT_ii, isaT_bi, isaT_ib, isaT_bb, isaT_tt, isaT_ll, isaT_tb, isaT_ti, isaT_it, isaT_bt, isaT_lt, isaT_nt, isaT_st, gLen_l, gLen_t, gOne_l, gTuple_l, gTuple_t, gInt_b, gMin2_e, gMax2_e, fIt_e, items_l, items_t, fItA_e, gEnum_e, gZip_t, gNm0, gNmS, gNil_e, gCons_e, gTp_e, wipe0, wipeS, tYesD_e, sNil_e, sExpr_e, sRet_e, sRaise_e, sIf_e, sAsg_e, asF_e, sFor_e, endF_r, endF_n, endF_x, asO_s, fRg1_e, sFrz_e, gIx_t0, gIx_t1, gIx_t2, gIx_l0, gIx_l1, gIx_l2, Option.map_some, Option.bind_some, List.set_cons_succ, List.set_cons_zero, List.getElem?_cons_succ, List.getElem?_cons_zero, Bool.not_true, Bool.not_false, Bool.false_eq_true, ↓reduceIte, List.length_cons, List.length_nil, List.map_cons, List.map_nil, Nat.reduceAdd, Nat.reduceLeDiff, Nat.reduceLT, Bool.true_and, Bool.and_true, Bool.false_and, Bool.and_false, List.length_map, Nat.zero_le]
    rw [all_eq fun x hx => by simpa using p.hi x hx]
    simp only [bnd_ok, bnd_err, then_ok, then_err, fVar0, fVarS, fC_e, fOp_e, fUn_e, asB_e, asI_e, fT_e, fAnd_e, fOr_e, fNot_e, fAndV_e, fOrV_e, fNotV_e, fIf_e, fChain_e, aNil_e, aCons_e, fTup_e, fLst_e, fCall_e, dTup_e, dLst_e, gAdd_i, gSub_i, gNeg_i, gEq_i, gNe_i, gLt_i, gLe_i, gGt_i, gGe_i, gIsN_e, gNotN_e, isN_n, isN_i, isN_t, isN_l, isN_b, gIsi_e, tyD_n, tyD_i, tyD_t, tyD_l, tyD_b, tyD_s, isaT_ii, isaT_bi, isaT_ib, isaT_bb, isaT_tt, isaT_ll, isaT_tb, isaT_ti, isaT_it, isaT_bt, isaT_lt, isaT_nt, isaT_st, gLen_l, gLen_t, gOne_l, gTuple_l, gTuple_t, gInt_b, gMin2_e, gMax2_e, fIt_e, items_l, items_t, fItA_e, gEnum_e, gZip_t, gNm0, gNmS, gNil_e, gCons_e, gTp_e, wipe0, wipeS, tYesD_e, sNil_e, sExpr_e, sRet_e, sRaise_e, sIf_e, sAsg_e, asF_e, sFor_e, endF_r, endF_n, endF_x, asO_s, fRg1_e, sFrz_e, gIx_t0, gIx_t1, gIx_t2, gIx_l0, gIx_l1, gIx_l2, Option.map_some, Option.bind_some, List.set_cons_succ, List.set_cons_zero, List.getElem?_cons_succ, List.getElem?_cons_zero, Bool.not_true, Bool.not_false, Bool.false_eq_true, ↓reduceIte, List.length_cons, List.length_nil, List.map_cons, List.map_nil, Nat.reduceAdd, Nat.reduceLeDiff, Nat.reduceLT, Bool.true_and, Bool.and_true, Bool.false_and, Bool.and_false, List.length_map, Nat.zero_le]
  · simp only [lcOne, bnd_ok, bnd_err, then_ok, then_err, fVar0, fVarS, fC_e, fOp_e, fUn_e, asB_e, asI_e, fT_e, fAnd_e, fOr_e, fNot_e, fAndV_e, fOrV_e, fNotV_e, fIf_e, fChain_e, aNil_e, aCons_e, fTup_e, fLst_e, fCall_e, dTup_e, dLst_e, gAdd_i, gSub_i, gNeg_i, gEq_i, gNe_i, gLt_i, gLe_i, gGt_i, gGe_i, gIsN_e, gNotN_e, isN_n, isN_i, isN_t, isN_l, isN_b, gIsi_e, tyD_n, tyD_i, tyD_t, tyD_l, tyD_b, tyD_s, isaT_ii, isaT_bi, isaT_ib, isaT_bb, isaT_tt, isaT_ll, isaT_tb, isaT_ti, isaT_it, isaT_bt, isaT_lt, isaT_nt, isaT_st, gLen_l, gLen_t, gOne_l, gTuple_l, gTuple_t, gInt_b, gMin2_e, gMax2_e, fIt_e, items_l, items_t, fItA_e, gEnum_e, gZip_t, gNm0, gNmS, gNil_e, gCons_e, gTp_e, wipe0, wipeS, tYesD_e, sNil_e, sExpr_e, sRet_e, sRaise_e, sIf_e, sAsg_e, asF_e, sFor_e, endF_r, endF_n, endF_x, asO_s, fRg1_e, sFrz_e, gIx_t0, gIx_t1, gIx_t2, gIx_l0, gIx_l1, gIx_l2, Option.map_some, Option.bind_some, List.set_cons_succ, List.set_cons_zero, List.getElem?_cons_succ, List.getElem?_cons_zero, Bool.not_true, Bool.not_false, Bool.false_eq_true, ↓reduceIte, List.length_cons, List.length_nil, List.map_cons, List.map_nil, Nat.reduceAdd, Nat.reduceLeDiff, Nat.reduceLT, Bool.true_and, Bool.and_true, Bool.false_and, Bool.and_false, List.length_map, Nat.zero_le, gIn_t]
theorem need_count_t {c : Nat} (h : c ≤ 8) : m_need_count [nD c] = .ok .none := by
  rw [q_need_count]
  unfold b_need_count
  have h1 : m_is_count [nD c, .int 0, .int 8] = .ok (.bool true) := by rw [is_count_i]; simp; omega
  simp only [bnd_ok, bnd_err, then_ok, then_err, fVar0, fVarS, fC_e, fOp_e, fUn_e, asB_e, asI_e, fT_e, fAnd_e, fOr_e, fNot_e, fAndV_e, fOrV_e, fNotV_e, fIf_e, fChain_e, aNil_e, aCons_e, fTup_e, fLst_e, fCall_e, dTup_e, dLst_e, gAdd_i, gSub_i, gNeg_i, gEq_i, gNe_i, gLt_i, gLe_i, gGt_i, gGe_i, gIsN_e, gNotN_e, isN_n, isN_i, isN_t, isN_l, isN_b, gIsi_e, tyD_n, tyD_i, tyD_t, tyD_l, tyD_b, tyD_s, isaT_ii, isaT_bi, isaT_ib, isaT_bb, isaT_tt, isaT_ll, isaT_tb, isaT_ti, isaT_it, isaT_bt, isaT_lt, isaT_nt, isaT_st, gLen_l, gLen_t, gOne_l, gTuple_l, gTuple_t, gInt_b, gMin2_e, gMax2_e, fIt_e, items_l, items_t, fItA_e, gEnum_e, gZip_t, gNm0, gNmS, gNil_e, gCons_e, gTp_e, wipe0, wipeS, tYesD_e, sNil_e, sExpr_e, sRet_e, sRaise_e, sIf_e, sAsg_e, asF_e, sFor_e, endF_r, endF_n, endF_x, asO_s, fRg1_e, sFrz_e, gIx_t0, gIx_t1, gIx_t2, gIx_l0, gIx_l1, gIx_l2, Option.map_some, Option.bind_some, List.set_cons_succ, List.set_cons_zero, List.getElem?_cons_succ, List.getElem?_cons_zero, Bool.not_true, Bool.not_false, Bool.false_eq_true, ↓reduceIte, List.length_cons, List.length_nil, List.map_cons, List.map_nil, Nat.reduceAdd, Nat.reduceLeDiff, Nat.reduceLT, Bool.true_and, Bool.and_true, Bool.false_and, Bool.and_false, List.length_map, Nat.zero_le, h1]
/-! ### the way of a bottle -/
def oCands (b : Belt) (ss bottle slips : List Nat) : List (Nat × Nat) := ss.filterMap fun s => if !slips.contains s && bottle.any (cSees b s) then some (sat b s, s) else none
def cOut (b : Belt) (ss ks bottle slips : List Nat) : Option (Nat × Nat) := (cMin (oCands b ss bottle slips)).bind fun p => (cFirst b ks p.1).map fun k => (p.2, k)
def oP : Option (Nat × Nat) → D
  | none => .none
  | some p => eK p
theorem isN_oP (o : Option (Nat × Nat)) : isN (oP o) = !o.isSome := by cases o <;> rfl
theorem frz_d (i : Nat) (ρ : Dl.Env) (d : D) (h : ρ[i]? = some (.dat d)) : frz i ρ = ρ := by
  unfold frz
  rw [h]
theorem out_of_e {b : Belt} {ss ks bottle slips : List Nat} (h : b.Ok) (p : PlanOk b ss ks) (hb : Rise b.F.length bottle) : m_out_of [eB b, eP ss ks, tN bottle, tN slips] = .ok (oP (cOut b ss ks bottle slips)) := by
  have s8 := h.s8; have k3 := h.k3; have f6 := h.f6
  have l1 := rise_len p.s; have l2 := rise_len p.k; have l3 := rise_len hb
  rw [q_out_of]
  unfold b_out_of
  rw [sSeq_n (h := sOwn_e _ _ (by simp))]
  obtain ⟨ρ, h1, j5, j8, rfl⟩ := for_inv nD (gt := gNm 5) (body := (sIf (fAnd (fT (fOp gNotIn (fVar 5) (fVar 3))) (fT (fCall (gOne dAny) (aCons (fLc (fIt (fVar 2)) (gNm 8) tYesD (fCall m_sees (aCons (fVar 0) (aCons (fVar 5) (aCons (fVar 8) aNil)))) [8]) aNil)))) (sApp 4 (fTup (aCons (fOp gIx (fOp gIx (fOp gIx (fVar 0) (fC (.int 1))) (fVar 5)) (fC (.int 0))) (aCons (fVar 5) aNil)))) sNil))
    (fun pre ρ => ∃ j5 j8, ρ = [.dat (eB b), .dat (eP ss ks), .dat (tN bottle), .dat (tN slips), .own ((oCands b pre bottle slips).map eK), j5, .non, .non, j8]) ss (fun pre s post ρ e ⟨j5, j8, hρ⟩ => by
      subst hρ
      have hs := p.s.1 s (by rw [e]; simp)
      obtain ⟨x, hx⟩ := get_some hs
      refine ⟨_, forOne_n (by simp only [bnd_ok, bnd_err, then_ok, then_err, fVar0, fVarS, fC_e, fOp_e, fUn_e, asB_e, asI_e, fT_e, fAnd_e, fOr_e, fNot_e, fAndV_e, fOrV_e, fNotV_e, fIf_e, fChain_e, aNil_e, aCons_e, fTup_e, fLst_e, fCall_e, dTup_e, dLst_e, gAdd_i, gSub_i, gNeg_i, gEq_i, gNe_i, gLt_i, gLe_i, gGt_i, gGe_i, gIsN_e, gNotN_e, isN_n, isN_i, isN_t, isN_l, isN_b, gIsi_e, tyD_n, tyD_i, tyD_t, tyD_l, tyD_b, tyD_s, isaT_ii, isaT_bi, isaT_ib, isaT_bb, isaT_tt, isaT_ll, isaT_tb, isaT_ti, isaT_it, isaT_bt, isaT_lt, isaT_nt, isaT_st, gLen_l, gLen_t, gOne_l, gTuple_l, gTuple_t, gInt_b, gMin2_e, gMax2_e, fIt_e, items_l, items_t, fItA_e, gEnum_e, gZip_t, gNm0, gNmS, gNil_e, gCons_e, gTp_e, wipe0, wipeS, tYesD_e, sNil_e, sExpr_e, sRet_e, sRaise_e, sIf_e, sAsg_e, asF_e, sFor_e, endF_r, endF_n, endF_x, asO_s, fRg1_e, sFrz_e, gIx_t0, gIx_t1, gIx_t2, gIx_l0, gIx_l1, gIx_l2, Option.map_some, Option.bind_some, List.set_cons_succ, List.set_cons_zero, List.getElem?_cons_succ, List.getElem?_cons_zero, Bool.not_true, Bool.not_false, Bool.false_eq_true, ↓reduceIte, List.length_cons, List.length_nil, List.map_cons, List.map_nil, Nat.reduceAdd, Nat.reduceLeDiff, Nat.reduceLT, Bool.true_and, Bool.and_true, Bool.false_and, Bool.and_false, List.length_map, Nat.zero_le]; rfl) ?_, .dat (nD s), j8, rfl⟩
      have hu : oCands b (pre ++ [s]) bottle slips = oCands b pre bottle slips ++ if !slips.contains s && bottle.any (cSees b s) then [(sat b s, s)] else [] := by
        unfold oCands
        rw [List.filterMap_append]
        congr 1
        simp only [List.filterMap_cons, List.filterMap_nil]
        split <;> rename_i h <;> split at h <;> simp_all
      have hlen : (oCands b pre bottle slips).length ≤ pre.length := List.length_filterMap_le _ _
      have hlen2 : pre.length ≤ ss.length := by rw [e]; simp
      simp only [bnd_ok, bnd_err, then_ok, then_err, fVar0, fVarS, fC_e, fOp_e, fUn_e, asB_e, asI_e, fT_e, fAnd_e, fOr_e, fNot_e, fAndV_e, fOrV_e, fNotV_e, fIf_e, fChain_e, aNil_e, aCons_e, fTup_e, fLst_e, fCall_e, dTup_e, dLst_e, gAdd_i, gSub_i, gNeg_i, gEq_i, gNe_i, gLt_i, gLe_i, gGt_i, gGe_i, gIsN_e, gNotN_e, isN_n, isN_i, isN_t, isN_l, isN_b, gIsi_e, tyD_n, tyD_i, tyD_t, tyD_l, tyD_b, tyD_s, isaT_ii, isaT_bi, isaT_ib, isaT_bb, isaT_tt, isaT_ll, isaT_tb, isaT_ti, isaT_it, isaT_bt, isaT_lt, isaT_nt, isaT_st, gLen_l, gLen_t, gOne_l, gTuple_l, gTuple_t, gInt_b, gMin2_e, gMax2_e, fIt_e, items_l, items_t, fItA_e, gEnum_e, gZip_t, gNm0, gNmS, gNil_e, gCons_e, gTp_e, wipe0, wipeS, tYesD_e, sNil_e, sExpr_e, sRet_e, sRaise_e, sIf_e, sAsg_e, asF_e, sFor_e, endF_r, endF_n, endF_x, asO_s, fRg1_e, sFrz_e, gIx_t0, gIx_t1, gIx_t2, gIx_l0, gIx_l1, gIx_l2, Option.map_some, Option.bind_some, List.set_cons_succ, List.set_cons_zero, List.getElem?_cons_succ, List.getElem?_cons_zero, Bool.not_true, Bool.not_false, Bool.false_eq_true, ↓reduceIte, List.length_cons, List.length_nil, List.map_cons, List.map_nil, Nat.reduceAdd, Nat.reduceLeDiff, Nat.reduceLT, Bool.true_and, Bool.and_true, Bool.false_and, Bool.and_false, List.length_map, Nat.zero_le, gNotIn_t]
      rw [hu]
      cases h1 : slips.contains s with
      | true => simp only [bnd_ok, bnd_err, then_ok, then_err, fVar0, fVarS, fC_e, fOp_e, fUn_e, asB_e, asI_e, fT_e, fAnd_e, fOr_e, fNot_e, fAndV_e, fOrV_e, fNotV_e, fIf_e, fChain_e, aNil_e, aCons_e, fTup_e, fLst_e, fCall_e, dTup_e, dLst_e, gAdd_i, gSub_i, gNeg_i, gEq_i, gNe_i, gLt_i, gLe_i, gGt_i, gGe_i, gIsN_e, gNotN_e, isN_n, isN_i, isN_t, isN_l, isN_b, gIsi_e, tyD_n, tyD_i, tyD_t, tyD_l, tyD_b, tyD_s, isaT_ii, isaT_bi, isaT_ib, isaT_bb, isaT_tt, isaT_ll, isaT_tb, isaT_ti, isaT_it, isaT_bt, isaT_lt, isaT_nt, isaT_st, gLen_l, gLen_t, gOne_l, gTuple_l, gTuple_t, gInt_b, gMin2_e, gMax2_e, fIt_e, items_l, items_t, fItA_e, gEnum_e, gZip_t, gNm0, gNmS, gNil_e, gCons_e, gTp_e, wipe0, wipeS, tYesD_e, sNil_e, sExpr_e, sRet_e, sRaise_e, sIf_e, sAsg_e, asF_e, sFor_e, endF_r, endF_n, endF_x, asO_s, fRg1_e, sFrz_e, gIx_t0, gIx_t1, gIx_t2, gIx_l0, gIx_l1, gIx_l2, Option.map_some, Option.bind_some, List.set_cons_succ, List.set_cons_zero, List.getElem?_cons_succ, List.getElem?_cons_zero, Bool.not_true, Bool.not_false, Bool.false_eq_true, ↓reduceIte, List.length_cons, List.length_nil, List.map_cons, List.map_nil, Nat.reduceAdd, Nat.reduceLeDiff, Nat.reduceLT, Bool.true_and, Bool.and_true, Bool.false_and, Bool.and_false, List.length_map, Nat.zero_le, List.append_nil]
      | false =>
        simp only [bnd_ok, bnd_err, then_ok, then_err, fVar0, fVarS, fC_e, fOp_e, fUn_e, asB_e, asI_e, fT_e, fAnd_e, fOr_e, fNot_e, fAndV_e, fOrV_e, fNotV_e, fIf_e, fChain_e, aNil_e, aCons_e, fTup_e, fLst_e, fCall_e, dTup_e, dLst_e, gAdd_i, gSub_i, gNeg_i, gEq_i, gNe_i, gLt_i, gLe_i, gGt_i, gGe_i, gIsN_e, gNotN_e, isN_n, isN_i, isN_t, isN_l, isN_b, gIsi_e, tyD_n, tyD_i, tyD_t, tyD_l, tyD_b, tyD_s, isaT_ii, isaT_bi, isaT_ib, isaT_bb, isaT_tt, isaT_ll, isaT_tb, isaT_ti, isaT_it, isaT_bt, isaT_lt, isaT_nt, isaT_st, gLen_l, gLen_t, gOne_l, gTuple_l, gTuple_t, gInt_b, gMin2_e, gMax2_e, fIt_e, items_l, items_t, fItA_e, gEnum_e, gZip_t, gNm0, gNmS, gNil_e, gCons_e, gTp_e, wipe0, wipeS, tYesD_e, sNil_e, sExpr_e, sRet_e, sRaise_e, sIf_e, sAsg_e, asF_e, sFor_e, endF_r, endF_n, endF_x, asO_s, fRg1_e, sFrz_e, gIx_t0, gIx_t1, gIx_t2, gIx_l0, gIx_l1, gIx_l2, Option.map_some, Option.bind_some, List.set_cons_succ, List.set_cons_zero, List.getElem?_cons_succ, List.getElem?_cons_zero, Bool.not_true, Bool.not_false, Bool.false_eq_true, ↓reduceIte, List.length_cons, List.length_nil, List.map_cons, List.map_nil, Nat.reduceAdd, Nat.reduceLeDiff, Nat.reduceLT, Bool.true_and, Bool.and_true, Bool.false_and, Bool.and_false, List.length_map, Nat.zero_le]
        rw [fLc_map nD (fun f => .bool (cSees b s f)) bottle (by simp only [bnd_ok, bnd_err, then_ok, then_err, fVar0, fVarS, fC_e, fOp_e, fUn_e, asB_e, asI_e, fT_e, fAnd_e, fOr_e, fNot_e, fAndV_e, fOrV_e, fNotV_e, fIf_e, fChain_e, aNil_e, aCons_e, fTup_e, fLst_e, fCall_e, dTup_e, dLst_e, gAdd_i, gSub_i, gNeg_i, gEq_i, gNe_i, gLt_i, gLe_i, gGt_i, gGe_i, gIsN_e, gNotN_e, isN_n, isN_i, isN_t, isN_l, isN_b, gIsi_e, tyD_n, tyD_i, tyD_t, tyD_l, tyD_b, tyD_s, isaT_ii, isaT_bi, isaT_ib, isaT_bb, isaT_tt, isaT_ll, isaT_tb, isaT_ti, isaT_it, isaT_bt, isaT_lt, isaT_nt, isaT_st, gLen_l, gLen_t, gOne_l, gTuple_l, gTuple_t, gInt_b, gMin2_e, gMax2_e, fIt_e, items_l, items_t, fItA_e, gEnum_e, gZip_t, gNm0, gNmS, gNil_e, gCons_e, gTp_e, wipe0, wipeS, tYesD_e, sNil_e, sExpr_e, sRet_e, sRaise_e, sIf_e, sAsg_e, asF_e, sFor_e, endF_r, endF_n, endF_x, asO_s, fRg1_e, sFrz_e, gIx_t0, gIx_t1, gIx_t2, gIx_l0, gIx_l1, gIx_l2, Option.map_some, Option.bind_some, List.set_cons_succ, List.set_cons_zero, List.getElem?_cons_succ, List.getElem?_cons_zero, Bool.not_true, Bool.not_false, Bool.false_eq_true, ↓reduceIte, List.length_cons, List.length_nil, List.map_cons, List.map_nil, Nat.reduceAdd, Nat.reduceLeDiff, Nat.reduceLT, Bool.true_and, Bool.and_true, Bool.false_and, Bool.and_false, List.length_map, Nat.zero_le]) (by omega) fun f hf => ?_]
        · simp only [bnd_ok, bnd_err, then_ok, then_err, fVar0, fVarS, fC_e, fOp_e, fUn_e, asB_e, asI_e, fT_e, fAnd_e, fOr_e, fNot_e, fAndV_e, fOrV_e, fNotV_e, fIf_e, fChain_e, aNil_e, aCons_e, fTup_e, fLst_e, fCall_e, dTup_e, dLst_e, gAdd_i, gSub_i, gNeg_i, gEq_i, gNe_i, gLt_i, gLe_i, gGt_i, gGe_i, gIsN_e, gNotN_e, isN_n, isN_i, isN_t, isN_l, isN_b, gIsi_e, tyD_n, tyD_i, tyD_t, tyD_l, tyD_b, tyD_s, isaT_ii, isaT_bi, isaT_ib, isaT_bb, isaT_tt, isaT_ll, isaT_tb, isaT_ti, isaT_it, isaT_bt, isaT_lt, isaT_nt, isaT_st, gLen_l, gLen_t, gOne_l, gTuple_l, gTuple_t, gInt_b, gMin2_e, gMax2_e, fIt_e, items_l, items_t, fItA_e, gEnum_e, gZip_t, gNm0, gNmS, gNil_e, gCons_e, gTp_e, wipe0, wipeS, tYesD_e, sNil_e, sExpr_e, sRet_e, sRaise_e, sIf_e, sAsg_e, asF_e, sFor_e, endF_r, endF_n, endF_x, asO_s, fRg1_e, sFrz_e, gIx_t0, gIx_t1, gIx_t2, gIx_l0, gIx_l1, gIx_l2, Option.map_some, Option.bind_some, List.set_cons_succ, List.set_cons_zero, List.getElem?_cons_succ, List.getElem?_cons_zero, Bool.not_true, Bool.not_false, Bool.false_eq_true, ↓reduceIte, List.length_cons, List.length_nil, List.map_cons, List.map_nil, Nat.reduceAdd, Nat.reduceLeDiff, Nat.reduceLT, Bool.true_and, Bool.and_true, Bool.false_and, Bool.and_false, List.length_map, Nat.zero_le, dAny_map]
          cases h2 : bottle.any (cSees b s) with
          | false => simp only [bnd_ok, bnd_err, then_ok, then_err, fVar0, fVarS, fC_e, fOp_e, fUn_e, asB_e, asI_e, fT_e, fAnd_e, fOr_e, fNot_e, fAndV_e, fOrV_e, fNotV_e, fIf_e, fChain_e, aNil_e, aCons_e, fTup_e, fLst_e, fCall_e, dTup_e, dLst_e, gAdd_i, gSub_i, gNeg_i, gEq_i, gNe_i, gLt_i, gLe_i, gGt_i, gGe_i, gIsN_e, gNotN_e, isN_n, isN_i, isN_t, isN_l, isN_b, gIsi_e, tyD_n, tyD_i, tyD_t, tyD_l, tyD_b, tyD_s, isaT_ii, isaT_bi, isaT_ib, isaT_bb, isaT_tt, isaT_ll, isaT_tb, isaT_ti, isaT_it, isaT_bt, isaT_lt, isaT_nt, isaT_st, gLen_l, gLen_t, gOne_l, gTuple_l, gTuple_t, gInt_b, gMin2_e, gMax2_e, fIt_e, items_l, items_t, fItA_e, gEnum_e, gZip_t, gNm0, gNmS, gNil_e, gCons_e, gTp_e, wipe0, wipeS, tYesD_e, sNil_e, sExpr_e, sRet_e, sRaise_e, sIf_e, sAsg_e, asF_e, sFor_e, endF_r, endF_n, endF_x, asO_s, fRg1_e, sFrz_e, gIx_t0, gIx_t1, gIx_t2, gIx_l0, gIx_l1, gIx_l2, Option.map_some, Option.bind_some, List.set_cons_succ, List.set_cons_zero, List.getElem?_cons_succ, List.getElem?_cons_zero, Bool.not_true, Bool.not_false, Bool.false_eq_true, ↓reduceIte, List.length_cons, List.length_nil, List.map_cons, List.map_nil, Nat.reduceAdd, Nat.reduceLeDiff, Nat.reduceLT, Bool.true_and, Bool.and_true, Bool.false_and, Bool.and_false, List.length_map, Nat.zero_le, List.append_nil]
          | true =>
            simp only [bnd_ok, bnd_err, then_ok, then_err, fVar0, fVarS, fC_e, fOp_e, fUn_e, asB_e, asI_e, fT_e, fAnd_e, fOr_e, fNot_e, fAndV_e, fOrV_e, fNotV_e, fIf_e, fChain_e, aNil_e, aCons_e, fTup_e, fLst_e, fCall_e, dTup_e, dLst_e, gAdd_i, gSub_i, gNeg_i, gEq_i, gNe_i, gLt_i, gLe_i, gGt_i, gGe_i, gIsN_e, gNotN_e, isN_n, isN_i, isN_t, isN_l, isN_b, gIsi_e, tyD_n, tyD_i, tyD_t, tyD_l, tyD_b, tyD_s, isaT_ii, isaT_bi, isaT_ib, isaT_bb, isaT_tt, isaT_ll, isaT_tb, isaT_ti, isaT_it, isaT_bt, isaT_lt, isaT_nt, isaT_st, gLen_l, gLen_t, gOne_l, gTuple_l, gTuple_t, gInt_b, gMin2_e, gMax2_e, fIt_e, items_l, items_t, fItA_e, gEnum_e, gZip_t, gNm0, gNmS, gNil_e, gCons_e, gTp_e, wipe0, wipeS, tYesD_e, sNil_e, sExpr_e, sRet_e, sRaise_e, sIf_e, sAsg_e, asF_e, sFor_e, endF_r, endF_n, endF_x, asO_s, fRg1_e, sFrz_e, gIx_t0, gIx_t1, gIx_t2, gIx_l0, gIx_l1, gIx_l2, Option.map_some, Option.bind_some, List.set_cons_succ, List.set_cons_zero, List.getElem?_cons_succ, List.getElem?_cons_zero, Bool.not_true, Bool.not_false, Bool.false_eq_true, ↓reduceIte, List.length_cons, List.length_nil, List.map_cons, List.map_nil, Nat.reduceAdd, Nat.reduceLeDiff, Nat.reduceLT, Bool.true_and, Bool.and_true, Bool.false_and, Bool.and_false, List.length_map, Nat.zero_le]
            rw [sApp_e (h := rfl) (hf := by simp only [bnd_ok, bnd_err, then_ok, then_err, fVar0, fVarS, fC_e, fOp_e, fUn_e, asB_e, asI_e, fT_e, fAnd_e, fOr_e, fNot_e, fAndV_e, fOrV_e, fNotV_e, fIf_e, fChain_e, aNil_e, aCons_e, fTup_e, fLst_e, fCall_e, dTup_e, dLst_e, gAdd_i, gSub_i, gNeg_i, gEq_i, gNe_i, gLt_i, gLe_i, gGt_i, gGe_i, gIsN_e, gNotN_e, isN_n, isN_i, isN_t, isN_l, isN_b, gIsi_e, tyD_n, tyD_i, tyD_t, tyD_l, tyD_b, tyD_s, isaT_ii, isaT_bi, isaT_ib, isaT_bb, isaT_tt, isaT_ll, isaT_tb, isaT_ti, isaT_it, isaT_bt, isaT_lt, isaT_nt, isaT_st, gLen_l, gLen_t, gOne_l, gTuple_l, gTuple_t, gInt_b, gMin2_e, gMax2_e, fIt_e, items_l, items_t, fItA_e, gEnum_e, gZip_t, gNm0, gNmS, gNil_e, gCons_e, gTp_e, wipe0, wipeS, tYesD_e, sNil_e, sExpr_e, sRet_e, sRaise_e, sIf_e, sAsg_e, asF_e, sFor_e, endF_r, endF_n, endF_x, asO_s, fRg1_e, sFrz_e, gIx_t0, gIx_t1, gIx_t2, gIx_l0, gIx_l1, gIx_l2, Option.map_some, Option.bind_some, List.set_cons_succ, List.set_cons_zero, List.getElem?_cons_succ, List.getElem?_cons_zero, Bool.not_true, Bool.not_false, Bool.false_eq_true, ↓reduceIte, List.length_cons, List.length_nil, List.map_cons, List.map_nil, Nat.reduceAdd, Nat.reduceLeDiff, Nat.reduceLT, Bool.true_and, Bool.and_true, Bool.false_and, Bool.and_false, List.length_map, Nat.zero_le, gIx_map eS b.S s x hx]; rfl) (hl := by rw [List.length_map]; omega)]
            simp only [bnd_ok, bnd_err, then_ok, then_err, fVar0, fVarS, fC_e, fOp_e, fUn_e, asB_e, asI_e, fT_e, fAnd_e, fOr_e, fNot_e, fAndV_e, fOrV_e, fNotV_e, fIf_e, fChain_e, aNil_e, aCons_e, fTup_e, fLst_e, fCall_e, dTup_e, dLst_e, gAdd_i, gSub_i, gNeg_i, gEq_i, gNe_i, gLt_i, gLe_i, gGt_i, gGe_i, gIsN_e, gNotN_e, isN_n, isN_i, isN_t, isN_l, isN_b, gIsi_e, tyD_n, tyD_i, tyD_t, tyD_l, tyD_b, tyD_s, isaT_ii, isaT_bi, isaT_ib, isaT_bb, isaT_tt, isaT_ll, isaT_tb, isaT_ti, isaT_it, isaT_bt, isaT_lt, isaT_nt, isaT_st, gLen_l, gLen_t, gOne_l, gTuple_l, gTuple_t, gInt_b, gMin2_e, gMax2_e, fIt_e, items_l, items_t, fItA_e, gEnum_e, gZip_t, gNm0, gNmS, gNil_e, gCons_e, gTp_e, wipe0, wipeS, tYesD_e, sNil_e, sExpr_e, sRet_e, sRaise_e, sIf_e, sAsg_e, asF_e, sFor_e, endF_r, endF_n, endF_x, asO_s, fRg1_e, sFrz_e, gIx_t0, gIx_t1, gIx_t2, gIx_l0, gIx_l1, gIx_l2, Option.map_some, Option.bind_some, List.set_cons_succ, List.set_cons_zero, List.getElem?_cons_succ, List.getElem?_cons_zero, Bool.not_true, Bool.not_false, Bool.false_eq_true, ↓reduceIte, List.length_cons, List.length_nil, List.map_cons, List.map_nil, Nat.reduceAdd, Nat.reduceLeDiff, Nat.reduceLT, Bool.true_and, Bool.and_true, Bool.false_and, Bool.and_false, List.length_map, Nat.zero_le, List.map_append, sat_e hx]
        · simp only [lcOne, bnd_ok, bnd_err, then_ok, then_err, fVar0, fVarS, fC_e, fOp_e, fUn_e, asB_e, asI_e, fT_e, fAnd_e, fOr_e, fNot_e, fAndV_e, fOrV_e, fNotV_e, fIf_e, fChain_e, aNil_e, aCons_e, fTup_e, fLst_e, fCall_e, dTup_e, dLst_e, gAdd_i, gSub_i, gNeg_i, gEq_i, gNe_i, gLt_i, gLe_i, gGt_i, gGe_i, gIsN_e, gNotN_e, isN_n, isN_i, isN_t, isN_l, isN_b, gIsi_e, tyD_n, tyD_i, tyD_t, tyD_l, tyD_b, tyD_s, isaT_ii, isaT_bi, isaT_ib, isaT_bb, isaT_tt, isaT_ll, isaT_tb, isaT_ti, isaT_it, isaT_bt, isaT_lt, isaT_nt, isaT_st, gLen_l, gLen_t, gOne_l, gTuple_l, gTuple_t, gInt_b, gMin2_e, gMax2_e, fIt_e, items_l, items_t, fItA_e, gEnum_e, gZip_t, gNm0, gNmS, gNil_e, gCons_e, gTp_e, wipe0, wipeS, tYesD_e, sNil_e, sExpr_e, sRet_e, sRaise_e, sIf_e, sAsg_e, asF_e, sFor_e, endF_r, endF_n, endF_x, asO_s, fRg1_e, sFrz_e, gIx_t0, gIx_t1, gIx_t2, gIx_l0, gIx_l1, gIx_l2, Option.map_some, Option.bind_some, List.set_cons_succ, List.set_cons_zero, List.getElem?_cons_succ, List.getElem?_cons_zero, Bool.not_true, Bool.not_false, Bool.false_eq_true, ↓reduceIte, List.length_cons, List.length_nil, List.map_cons, List.map_nil, Nat.reduceAdd, Nat.reduceLeDiff, Nat.reduceLT, Bool.true_and, Bool.and_true, Bool.false_and, Bool.and_false, List.length_map, Nat.zero_le, sees_e hs (hb.1 f hf)]) (ρ := [.dat (eB b), .dat (eP ss ks), .dat (tN bottle), .dat (tN slips), .own [], .non, .non, .non, .non]) ⟨.non, .non, rfl⟩
  rw [sSeq_n (h := by simp only [bnd_ok, bnd_err, then_ok, then_err, fVar0, fVarS, fC_e, fOp_e, fUn_e, asB_e, asI_e, fT_e, fAnd_e, fOr_e, fNot_e, fAndV_e, fOrV_e, fNotV_e, fIf_e, fChain_e, aNil_e, aCons_e, fTup_e, fLst_e, fCall_e, dTup_e, dLst_e, gAdd_i, gSub_i, gNeg_i, gEq_i, gNe_i, gLt_i, gLe_i, gGt_i, gGe_i, gIsN_e, gNotN_e, isN_n, isN_i, isN_t, isN_l, isN_b, gIsi_e, tyD_n, tyD_i, tyD_t, tyD_l, tyD_b, tyD_s, isaT_ii, isaT_bi, isaT_ib, isaT_bb, isaT_tt, isaT_ll, isaT_tb, isaT_ti, isaT_it, isaT_bt, isaT_lt, isaT_nt, isaT_st, gLen_l, gLen_t, gOne_l, gTuple_l, gTuple_t, gInt_b, gMin2_e, gMax2_e, fIt_e, items_l, items_t, fItA_e, gEnum_e, gZip_t, gNm0, gNmS, gNil_e, gCons_e, gTp_e, wipe0, wipeS, tYesD_e, sNil_e, sExpr_e, sRet_e, sRaise_e, sIf_e, sAsg_e, asF_e, sFor_e, endF_r, endF_n, endF_x, asO_s, fRg1_e, sFrz_e, gIx_t0, gIx_t1, gIx_t2, gIx_l0, gIx_l1, gIx_l2, Option.map_some, Option.bind_some, List.set_cons_succ, List.set_cons_zero, List.getElem?_cons_succ, List.getElem?_cons_zero, Bool.not_true, Bool.not_false, Bool.false_eq_true, ↓reduceIte, List.length_cons, List.length_nil, List.map_cons, List.map_nil, Nat.reduceAdd, Nat.reduceLeDiff, Nat.reduceLT, Bool.true_and, Bool.and_true, Bool.false_and, Bool.and_false, List.length_map, Nat.zero_le, h1]; rfl)]
  simp only [cOut]
  have lay := lay_map eK (oCands b ss bottle slips) fun x _ => lay_eK x
  cases hc : oCands b ss bottle slips with
  | nil =>
    rw [hc] at lay
    rw [sSeq_r (d := .none) (h := by
      rw [sFrz_e, frz_e (h := rfl)]
      simp only [bnd_ok, bnd_err, then_ok, then_err, fVar0, fVarS, fC_e, fOp_e, fUn_e, asB_e, asI_e, fT_e, fAnd_e, fOr_e, fNot_e, fAndV_e, fOrV_e, fNotV_e, fIf_e, fChain_e, aNil_e, aCons_e, fTup_e, fLst_e, fCall_e, dTup_e, dLst_e, gAdd_i, gSub_i, gNeg_i, gEq_i, gNe_i, gLt_i, gLe_i, gGt_i, gGe_i, gIsN_e, gNotN_e, isN_n, isN_i, isN_t, isN_l, isN_b, gIsi_e, tyD_n, tyD_i, tyD_t, tyD_l, tyD_b, tyD_s, isaT_ii, isaT_bi, isaT_ib, isaT_bb, isaT_tt, isaT_ll, isaT_tb, isaT_ti, isaT_it, isaT_bt, isaT_lt, isaT_nt, isaT_st, gLen_l, gLen_t, gOne_l, gTuple_l, gTuple_t, gInt_b, gMin2_e, gMax2_e, fIt_e, items_l, items_t, fItA_e, gEnum_e, gZip_t, gNm0, gNmS, gNil_e, gCons_e, gTp_e, wipe0, wipeS, tYesD_e, sNil_e, sExpr_e, sRet_e, sRaise_e, sIf_e, sAsg_e, asF_e, sFor_e, endF_r, endF_n, endF_x, asO_s, fRg1_e, sFrz_e, gIx_t0, gIx_t1, gIx_t2, gIx_l0, gIx_l1, gIx_l2, Option.map_some, Option.bind_some, List.set_cons_succ, List.set_cons_zero, List.getElem?_cons_succ, List.getElem?_cons_zero, Bool.not_true, Bool.not_false, Bool.false_eq_true, ↓reduceIte, List.length_cons, List.length_nil, List.map_cons, List.map_nil, Nat.reduceAdd, Nat.reduceLeDiff, Nat.reduceLT, Bool.true_and, Bool.and_true, Bool.false_and, Bool.and_false, List.length_map, Nat.zero_le, eq_nil lay]
      rfl)]
    rfl
  | cons x xs =>
    rw [hc, List.map_cons] at lay
    rw [sSeq_n (h := by
      rw [sFrz_e, frz_e (h := rfl)]
      simp only [bnd_ok, bnd_err, then_ok, then_err, fVar0, fVarS, fC_e, fOp_e, fUn_e, asB_e, asI_e, fT_e, fAnd_e, fOr_e, fNot_e, fAndV_e, fOrV_e, fNotV_e, fIf_e, fChain_e, aNil_e, aCons_e, fTup_e, fLst_e, fCall_e, dTup_e, dLst_e, gAdd_i, gSub_i, gNeg_i, gEq_i, gNe_i, gLt_i, gLe_i, gGt_i, gGe_i, gIsN_e, gNotN_e, isN_n, isN_i, isN_t, isN_l, isN_b, gIsi_e, tyD_n, tyD_i, tyD_t, tyD_l, tyD_b, tyD_s, isaT_ii, isaT_bi, isaT_ib, isaT_bb, isaT_tt, isaT_ll, isaT_tb, isaT_ti, isaT_it, isaT_bt, isaT_lt, isaT_nt, isaT_st, gLen_l, gLen_t, gOne_l, gTuple_l, gTuple_t, gInt_b, gMin2_e, gMax2_e, fIt_e, items_l, items_t, fItA_e, gEnum_e, gZip_t, gNm0, gNmS, gNil_e, gCons_e, gTp_e, wipe0, wipeS, tYesD_e, sNil_e, sExpr_e, sRet_e, sRaise_e, sIf_e, sAsg_e, asF_e, sFor_e, endF_r, endF_n, endF_x, asO_s, fRg1_e, sFrz_e, gIx_t0, gIx_t1, gIx_t2, gIx_l0, gIx_l1, gIx_l2, Option.map_some, Option.bind_some, List.set_cons_succ, List.set_cons_zero, List.getElem?_cons_succ, List.getElem?_cons_zero, Bool.not_true, Bool.not_false, Bool.false_eq_true, ↓reduceIte, List.length_cons, List.length_nil, List.map_cons, List.map_nil, Nat.reduceAdd, Nat.reduceLeDiff, Nat.reduceLT, Bool.true_and, Bool.and_true, Bool.false_and, Bool.and_false, List.length_map, Nat.zero_le, eq_nil lay]
      rfl)]
    rw [sSeq_n (h := by
      rw [sFrz_e, frz_d (h := rfl)]
      have := dMin_eK x xs
      simp only [List.map_cons] at this
      simp only [bnd_ok, bnd_err, then_ok, then_err, fVar0, fVarS, fC_e, fOp_e, fUn_e, asB_e, asI_e, fT_e, fAnd_e, fOr_e, fNot_e, fAndV_e, fOrV_e, fNotV_e, fIf_e, fChain_e, aNil_e, aCons_e, fTup_e, fLst_e, fCall_e, dTup_e, dLst_e, gAdd_i, gSub_i, gNeg_i, gEq_i, gNe_i, gLt_i, gLe_i, gGt_i, gGe_i, gIsN_e, gNotN_e, isN_n, isN_i, isN_t, isN_l, isN_b, gIsi_e, tyD_n, tyD_i, tyD_t, tyD_l, tyD_b, tyD_s, isaT_ii, isaT_bi, isaT_ib, isaT_bb, isaT_tt, isaT_ll, isaT_tb, isaT_ti, isaT_it, isaT_bt, isaT_lt, isaT_nt, isaT_st, gLen_l, gLen_t, gOne_l, gTuple_l, gTuple_t, gInt_b, gMin2_e, gMax2_e, fIt_e, items_l, items_t, fItA_e, gEnum_e, gZip_t, gNm0, gNmS, gNil_e, gCons_e, gTp_e, wipe0, wipeS, tYesD_e, sNil_e, sExpr_e, sRet_e, sRaise_e, sIf_e, sAsg_e, asF_e, sFor_e, endF_r, endF_n, endF_x, asO_s, fRg1_e, sFrz_e, gIx_t0, gIx_t1, gIx_t2, gIx_l0, gIx_l1, gIx_l2, Option.map_some, Option.bind_some, List.set_cons_succ, List.set_cons_zero, List.getElem?_cons_succ, List.getElem?_cons_zero, Bool.not_true, Bool.not_false, Bool.false_eq_true, ↓reduceIte, List.length_cons, List.length_nil, List.map_cons, List.map_nil, Nat.reduceAdd, Nat.reduceLeDiff, Nat.reduceLT, Bool.true_and, Bool.and_true, Bool.false_and, Bool.and_false, List.length_map, Nat.zero_le, this]
      rfl)]
    rw [sSeq_n (h := by
      simp only [bnd_ok, bnd_err, then_ok, then_err, fVar0, fVarS, fC_e, fOp_e, fUn_e, asB_e, asI_e, fT_e, fAnd_e, fOr_e, fNot_e, fAndV_e, fOrV_e, fNotV_e, fIf_e, fChain_e, aNil_e, aCons_e, fTup_e, fLst_e, fCall_e, dTup_e, dLst_e, gAdd_i, gSub_i, gNeg_i, gEq_i, gNe_i, gLt_i, gLe_i, gGt_i, gGe_i, gIsN_e, gNotN_e, isN_n, isN_i, isN_t, isN_l, isN_b, gIsi_e, tyD_n, tyD_i, tyD_t, tyD_l, tyD_b, tyD_s, isaT_ii, isaT_bi, isaT_ib, isaT_bb, isaT_tt, isaT_ll, isaT_tb, isaT_ti, isaT_it, isaT_bt, isaT_lt, isaT_nt, isaT_st, gLen_l, gLen_t, gOne_l, gTuple_l, gTuple_t, gInt_b, gMin2_e, gMax2_e, fIt_e, items_l, items_t, fItA_e, gEnum_e, gZip_t, gNm0, gNmS, gNil_e, gCons_e, gTp_e, wipe0, wipeS, tYesD_e, sNil_e, sExpr_e, sRet_e, sRaise_e, sIf_e, sAsg_e, asF_e, sFor_e, endF_r, endF_n, endF_x, asO_s, fRg1_e, sFrz_e, gIx_t0, gIx_t1, gIx_t2, gIx_l0, gIx_l1, gIx_l2, Option.map_some, Option.bind_some, List.set_cons_succ, List.set_cons_zero, List.getElem?_cons_succ, List.getElem?_cons_zero, Bool.not_true, Bool.not_false, Bool.false_eq_true, ↓reduceIte, List.length_cons, List.length_nil, List.map_cons, List.map_nil, Nat.reduceAdd, Nat.reduceLeDiff, Nat.reduceLT, Bool.true_and, Bool.and_true, Bool.false_and, Bool.and_false, List.length_map, Nat.zero_le, first_e k3 p.k.1 (by omega)]
      rfl)]
    simp only [bnd_ok, bnd_err, then_ok, then_err, fVar0, fVarS, fC_e, fOp_e, fUn_e, asB_e, asI_e, fT_e, fAnd_e, fOr_e, fNot_e, fAndV_e, fOrV_e, fNotV_e, fIf_e, fChain_e, aNil_e, aCons_e, fTup_e, fLst_e, fCall_e, dTup_e, dLst_e, gAdd_i, gSub_i, gNeg_i, gEq_i, gNe_i, gLt_i, gLe_i, gGt_i, gGe_i, gIsN_e, gNotN_e, isN_n, isN_i, isN_t, isN_l, isN_b, gIsi_e, tyD_n, tyD_i, tyD_t, tyD_l, tyD_b, tyD_s, isaT_ii, isaT_bi, isaT_ib, isaT_bb, isaT_tt, isaT_ll, isaT_tb, isaT_ti, isaT_it, isaT_bt, isaT_lt, isaT_nt, isaT_st, gLen_l, gLen_t, gOne_l, gTuple_l, gTuple_t, gInt_b, gMin2_e, gMax2_e, fIt_e, items_l, items_t, fItA_e, gEnum_e, gZip_t, gNm0, gNmS, gNil_e, gCons_e, gTp_e, wipe0, wipeS, tYesD_e, sNil_e, sExpr_e, sRet_e, sRaise_e, sIf_e, sAsg_e, asF_e, sFor_e, endF_r, endF_n, endF_x, asO_s, fRg1_e, sFrz_e, gIx_t0, gIx_t1, gIx_t2, gIx_l0, gIx_l1, gIx_l2, Option.map_some, Option.bind_some, List.set_cons_succ, List.set_cons_zero, List.getElem?_cons_succ, List.getElem?_cons_zero, Bool.not_true, Bool.not_false, Bool.false_eq_true, ↓reduceIte, List.length_cons, List.length_nil, List.map_cons, List.map_nil, Nat.reduceAdd, Nat.reduceLeDiff, Nat.reduceLT, Bool.true_and, Bool.and_true, Bool.false_and, Bool.and_false, List.length_map, Nat.zero_le, isN_oN, cMin, Option.bind_some]
    cases cFirst b ks (minP x xs).1 with
    | none => rfl
    | some k => rfl
theorem out_e {b : Belt} {ss ks : List Nat} {r : List Nat × List Nat} (h : b.Ok) (p : PlanOk b ss ks) (hb : BotOk b ss r) : m_out [eB b, eP ss ks, tN r.1, tN r.2] = .ok (oP (cOut b ss ks r.1 r.2)) := by
  rw [q_out]
  unfold b_out
  rw [sSeq_n (h := by simp only [bnd_ok, bnd_err, then_ok, then_err, fVar0, fVarS, fC_e, fOp_e, fUn_e, asB_e, asI_e, fT_e, fAnd_e, fOr_e, fNot_e, fAndV_e, fOrV_e, fNotV_e, fIf_e, fChain_e, aNil_e, aCons_e, fTup_e, fLst_e, fCall_e, dTup_e, dLst_e, gAdd_i, gSub_i, gNeg_i, gEq_i, gNe_i, gLt_i, gLe_i, gGt_i, gGe_i, gIsN_e, gNotN_e, isN_n, isN_i, isN_t, isN_l, isN_b, gIsi_e, tyD_n, tyD_i, tyD_t, tyD_l, tyD_b, tyD_s, isaT_ii, isaT_bi, isaT_ib, isaT_bb, isaT_tt, isaT_ll, isaT_tb, isaT_ti, isaT_it, isaT_bt, isaT_lt, isaT_nt, isaT_st, gLen_l, gLen_t, gOne_l, gTuple_l, gTuple_t, gInt_b, gMin2_e, gMax2_e, fIt_e, items_l, items_t, fItA_e, gEnum_e, gZip_t, gNm0, gNmS, gNil_e, gCons_e, gTp_e, wipe0, wipeS, tYesD_e, sNil_e, sExpr_e, sRet_e, sRaise_e, sIf_e, sAsg_e, asF_e, sFor_e, endF_r, endF_n, endF_x, asO_s, fRg1_e, sFrz_e, gIx_t0, gIx_t1, gIx_t2, gIx_l0, gIx_l1, gIx_l2, Option.map_some, Option.bind_some, List.set_cons_succ, List.set_cons_zero, List.getElem?_cons_succ, List.getElem?_cons_zero, Bool.not_true, Bool.not_false, Bool.false_eq_true, ↓reduceIte, List.length_cons, List.length_nil, List.map_cons, List.map_nil, Nat.reduceAdd, Nat.reduceLeDiff, Nat.reduceLT, Bool.true_and, Bool.and_true, Bool.false_and, Bool.and_false, List.length_map, Nat.zero_le, need_belt_t h]; rfl)]
  rw [sSeq_n (h := by simp only [bnd_ok, bnd_err, then_ok, then_err, fVar0, fVarS, fC_e, fOp_e, fUn_e, asB_e, asI_e, fT_e, fAnd_e, fOr_e, fNot_e, fAndV_e, fOrV_e, fNotV_e, fIf_e, fChain_e, aNil_e, aCons_e, fTup_e, fLst_e, fCall_e, dTup_e, dLst_e, gAdd_i, gSub_i, gNeg_i, gEq_i, gNe_i, gLt_i, gLe_i, gGt_i, gGe_i, gIsN_e, gNotN_e, isN_n, isN_i, isN_t, isN_l, isN_b, gIsi_e, tyD_n, tyD_i, tyD_t, tyD_l, tyD_b, tyD_s, isaT_ii, isaT_bi, isaT_ib, isaT_bb, isaT_tt, isaT_ll, isaT_tb, isaT_ti, isaT_it, isaT_bt, isaT_lt, isaT_nt, isaT_st, gLen_l, gLen_t, gOne_l, gTuple_l, gTuple_t, gInt_b, gMin2_e, gMax2_e, fIt_e, items_l, items_t, fItA_e, gEnum_e, gZip_t, gNm0, gNmS, gNil_e, gCons_e, gTp_e, wipe0, wipeS, tYesD_e, sNil_e, sExpr_e, sRet_e, sRaise_e, sIf_e, sAsg_e, asF_e, sFor_e, endF_r, endF_n, endF_x, asO_s, fRg1_e, sFrz_e, gIx_t0, gIx_t1, gIx_t2, gIx_l0, gIx_l1, gIx_l2, Option.map_some, Option.bind_some, List.set_cons_succ, List.set_cons_zero, List.getElem?_cons_succ, List.getElem?_cons_zero, Bool.not_true, Bool.not_false, Bool.false_eq_true, ↓reduceIte, List.length_cons, List.length_nil, List.map_cons, List.map_nil, Nat.reduceAdd, Nat.reduceLeDiff, Nat.reduceLT, Bool.true_and, Bool.and_true, Bool.false_and, Bool.and_false, List.length_map, Nat.zero_le, need_plan_t h p]; rfl)]
  rw [sSeq_n (h := by simp only [bnd_ok, bnd_err, then_ok, then_err, fVar0, fVarS, fC_e, fOp_e, fUn_e, asB_e, asI_e, fT_e, fAnd_e, fOr_e, fNot_e, fAndV_e, fOrV_e, fNotV_e, fIf_e, fChain_e, aNil_e, aCons_e, fTup_e, fLst_e, fCall_e, dTup_e, dLst_e, gAdd_i, gSub_i, gNeg_i, gEq_i, gNe_i, gLt_i, gLe_i, gGt_i, gGe_i, gIsN_e, gNotN_e, isN_n, isN_i, isN_t, isN_l, isN_b, gIsi_e, tyD_n, tyD_i, tyD_t, tyD_l, tyD_b, tyD_s, isaT_ii, isaT_bi, isaT_ib, isaT_bb, isaT_tt, isaT_ll, isaT_tb, isaT_ti, isaT_it, isaT_bt, isaT_lt, isaT_nt, isaT_st, gLen_l, gLen_t, gOne_l, gTuple_l, gTuple_t, gInt_b, gMin2_e, gMax2_e, fIt_e, items_l, items_t, fItA_e, gEnum_e, gZip_t, gNm0, gNmS, gNil_e, gCons_e, gTp_e, wipe0, wipeS, tYesD_e, sNil_e, sExpr_e, sRet_e, sRaise_e, sIf_e, sAsg_e, asF_e, sFor_e, endF_r, endF_n, endF_x, asO_s, fRg1_e, sFrz_e, gIx_t0, gIx_t1, gIx_t2, gIx_l0, gIx_l1, gIx_l2, Option.map_some, Option.bind_some, List.set_cons_succ, List.set_cons_zero, List.getElem?_cons_succ, List.getElem?_cons_zero, Bool.not_true, Bool.not_false, Bool.false_eq_true, ↓reduceIte, List.length_cons, List.length_nil, List.map_cons, List.map_nil, Nat.reduceAdd, Nat.reduceLeDiff, Nat.reduceLT, Bool.true_and, Bool.and_true, Bool.false_and, Bool.and_false, List.length_map, Nat.zero_le, need_bottle_t h hb]; rfl)]
  simp only [bnd_ok, bnd_err, then_ok, then_err, fVar0, fVarS, fC_e, fOp_e, fUn_e, asB_e, asI_e, fT_e, fAnd_e, fOr_e, fNot_e, fAndV_e, fOrV_e, fNotV_e, fIf_e, fChain_e, aNil_e, aCons_e, fTup_e, fLst_e, fCall_e, dTup_e, dLst_e, gAdd_i, gSub_i, gNeg_i, gEq_i, gNe_i, gLt_i, gLe_i, gGt_i, gGe_i, gIsN_e, gNotN_e, isN_n, isN_i, isN_t, isN_l, isN_b, gIsi_e, tyD_n, tyD_i, tyD_t, tyD_l, tyD_b, tyD_s, isaT_ii, isaT_bi, isaT_ib, isaT_bb, isaT_tt, isaT_ll, isaT_tb, isaT_ti, isaT_it, isaT_bt, isaT_lt, isaT_nt, isaT_st, gLen_l, gLen_t, gOne_l, gTuple_l, gTuple_t, gInt_b, gMin2_e, gMax2_e, fIt_e, items_l, items_t, fItA_e, gEnum_e, gZip_t, gNm0, gNmS, gNil_e, gCons_e, gTp_e, wipe0, wipeS, tYesD_e, sNil_e, sExpr_e, sRet_e, sRaise_e, sIf_e, sAsg_e, asF_e, sFor_e, endF_r, endF_n, endF_x, asO_s, fRg1_e, sFrz_e, gIx_t0, gIx_t1, gIx_t2, gIx_l0, gIx_l1, gIx_l2, Option.map_some, Option.bind_some, List.set_cons_succ, List.set_cons_zero, List.getElem?_cons_succ, List.getElem?_cons_zero, Bool.not_true, Bool.not_false, Bool.false_eq_true, ↓reduceIte, List.length_cons, List.length_nil, List.map_cons, List.map_nil, Nat.reduceAdd, Nat.reduceLeDiff, Nat.reduceLT, Bool.true_and, Bool.and_true, Bool.false_and, Bool.and_false, List.length_map, Nat.zero_le, out_of_e h p hb.hb]
abbrev eR (r : List Nat × List Nat) : D := .tuple [tN r.1, tN r.2]
def cRun (b : Belt) (ss ks : List Nat) (rows : List (List Nat × List Nat)) : List Nat := (rows.zipIdx.filter fun p => !p.1.1.isEmpty && !(cOut b ss ks p.1.1 p.1.2).isSome).map (·.2)
theorem enum_map {α : Type} (f : α → D) (xs : List α) : enumD (xs.map f) = xs.zipIdx.map fun p => PyData.tuple [nD p.2, f p.1] := by
  unfold enumD
  rw [List.mapIdx_eq_zipIdx_map, List.zipIdx_map, List.map_map]
  rfl
theorem run_e {b : Belt} {ss ks : List Nat} {rows : List (List Nat × List Nat)} (h : b.Ok) (p : PlanOk b ss ks) (hr : ∀ r ∈ rows, BotOk b ss r) (hl : rows.length ≤ 1000) : m_run [eB b, eP ss ks, .list (rows.map eR)] = .ok (lN (cRun b ss ks rows)) := by
  rw [q_run]
  unfold b_run
  rw [sSeq_n (h := by simp only [bnd_ok, bnd_err, then_ok, then_err, fVar0, fVarS, fC_e, fOp_e, fUn_e, asB_e, asI_e, fT_e, fAnd_e, fOr_e, fNot_e, fAndV_e, fOrV_e, fNotV_e, fIf_e, fChain_e, aNil_e, aCons_e, fTup_e, fLst_e, fCall_e, dTup_e, dLst_e, gAdd_i, gSub_i, gNeg_i, gEq_i, gNe_i, gLt_i, gLe_i, gGt_i, gGe_i, gIsN_e, gNotN_e, isN_n, isN_i, isN_t, isN_l, isN_b, gIsi_e, tyD_n, tyD_i, tyD_t, tyD_l, tyD_b, tyD_s, isaT_ii, isaT_bi, isaT_ib, isaT_bb, isaT_tt, isaT_ll, isaT_tb, isaT_ti, isaT_it, isaT_bt, isaT_lt, isaT_nt, isaT_st, gLen_l, gLen_t, gOne_l, gTuple_l, gTuple_t, gInt_b, gMin2_e, gMax2_e, fIt_e, items_l, items_t, fItA_e, gEnum_e, gZip_t, gNm0, gNmS, gNil_e, gCons_e, gTp_e, wipe0, wipeS, tYesD_e, sNil_e, sExpr_e, sRet_e, sRaise_e, sIf_e, sAsg_e, asF_e, sFor_e, endF_r, endF_n, endF_x, asO_s, fRg1_e, sFrz_e, gIx_t0, gIx_t1, gIx_t2, gIx_l0, gIx_l1, gIx_l2, Option.map_some, Option.bind_some, List.set_cons_succ, List.set_cons_zero, List.getElem?_cons_succ, List.getElem?_cons_zero, Bool.not_true, Bool.not_false, Bool.false_eq_true, ↓reduceIte, List.length_cons, List.length_nil, List.map_cons, List.map_nil, Nat.reduceAdd, Nat.reduceLeDiff, Nat.reduceLT, Bool.true_and, Bool.and_true, Bool.false_and, Bool.and_false, List.length_map, Nat.zero_le, need_belt_t h]; rfl)]
  rw [sSeq_n (h := by simp only [bnd_ok, bnd_err, then_ok, then_err, fVar0, fVarS, fC_e, fOp_e, fUn_e, asB_e, asI_e, fT_e, fAnd_e, fOr_e, fNot_e, fAndV_e, fOrV_e, fNotV_e, fIf_e, fChain_e, aNil_e, aCons_e, fTup_e, fLst_e, fCall_e, dTup_e, dLst_e, gAdd_i, gSub_i, gNeg_i, gEq_i, gNe_i, gLt_i, gLe_i, gGt_i, gGe_i, gIsN_e, gNotN_e, isN_n, isN_i, isN_t, isN_l, isN_b, gIsi_e, tyD_n, tyD_i, tyD_t, tyD_l, tyD_b, tyD_s, isaT_ii, isaT_bi, isaT_ib, isaT_bb, isaT_tt, isaT_ll, isaT_tb, isaT_ti, isaT_it, isaT_bt, isaT_lt, isaT_nt, isaT_st, gLen_l, gLen_t, gOne_l, gTuple_l, gTuple_t, gInt_b, gMin2_e, gMax2_e, fIt_e, items_l, items_t, fItA_e, gEnum_e, gZip_t, gNm0, gNmS, gNil_e, gCons_e, gTp_e, wipe0, wipeS, tYesD_e, sNil_e, sExpr_e, sRet_e, sRaise_e, sIf_e, sAsg_e, asF_e, sFor_e, endF_r, endF_n, endF_x, asO_s, fRg1_e, sFrz_e, gIx_t0, gIx_t1, gIx_t2, gIx_l0, gIx_l1, gIx_l2, Option.map_some, Option.bind_some, List.set_cons_succ, List.set_cons_zero, List.getElem?_cons_succ, List.getElem?_cons_zero, Bool.not_true, Bool.not_false, Bool.false_eq_true, ↓reduceIte, List.length_cons, List.length_nil, List.map_cons, List.map_nil, Nat.reduceAdd, Nat.reduceLeDiff, Nat.reduceLT, Bool.true_and, Bool.and_true, Bool.false_and, Bool.and_false, List.length_map, Nat.zero_le, need_plan_t h p]; rfl)]
  rw [sSeq_n (h := by
    simp only [bnd_ok, bnd_err, then_ok, then_err, fVar0, fVarS, fC_e, fOp_e, fUn_e, asB_e, asI_e, fT_e, fAnd_e, fOr_e, fNot_e, fAndV_e, fOrV_e, fNotV_e, fIf_e, fChain_e, aNil_e, aCons_e, fTup_e, fLst_e, fCall_e, dTup_e, dLst_e, gAdd_i, gSub_i, gNeg_i, gEq_i, gNe_i, gLt_i, gLe_i, gGt_i, gGe_i, gIsN_e, gNotN_e, isN_n, isN_i, isN_t, isN_l, isN_b, gIsi_e, tyD_n, tyD_i, tyD_t, tyD_l, tyD_b, tyD_s, isaT_ii, isaT_bi, isaT_ib, isaT_bb, isaT_tt, isaT_ll, isaT_tb, isaT_ti, isaT_it, isaT_bt, isaT_lt, isaT_nt, isaT_st, gLen_l, gLen_t, gOne_l, gTuple_l, gTuple_t, gInt_b, gMin2_e, gMax2_e, fIt_e, items_l, items_t, fItA_e, gEnum_e, gZip_t, gNm0, gNmS, gNil_e, gCons_e, gTp_e, wipe0, wipeS, tYesD_e, sNil_e, sExpr_e, sRet_e, sRaise_e, sIf_e, sAsg_e, asF_e, sFor_e, endF_r, endF_n, endF_x, asO_s, fRg1_e, sFrz_e, gIx_t0, gIx_t1, gIx_t2, gIx_l0, gIx_l1, gIx_l2, Option.map_some, Option.bind_some, List.set_cons_succ, List.set_cons_zero, List.getElem?_cons_succ, List.getElem?_cons_zero, Bool.not_true, Bool.not_false, Bool.false_eq_true, ↓reduceIte, List.length_cons, List.length_nil, List.map_cons, List.map_nil, Nat.reduceAdd, Nat.reduceLeDiff, Nat.reduceLT, Bool.true_and, Bool.and_true, Bool.false_and, Bool.and_false, List.length_map, Nat.zero_le]
    rw [fLc_map eR (fun x => .bool true) rows (by simp only [bnd_ok, bnd_err, then_ok, then_err, fVar0, fVarS, fC_e, fOp_e, fUn_e, asB_e, asI_e, fT_e, fAnd_e, fOr_e, fNot_e, fAndV_e, fOrV_e, fNotV_e, fIf_e, fChain_e, aNil_e, aCons_e, fTup_e, fLst_e, fCall_e, dTup_e, dLst_e, gAdd_i, gSub_i, gNeg_i, gEq_i, gNe_i, gLt_i, gLe_i, gGt_i, gGe_i, gIsN_e, gNotN_e, isN_n, isN_i, isN_t, isN_l, isN_b, gIsi_e, tyD_n, tyD_i, tyD_t, tyD_l, tyD_b, tyD_s, isaT_ii, isaT_bi, isaT_ib, isaT_bb, isaT_tt, isaT_ll, isaT_tb, isaT_ti, isaT_it, isaT_bt, isaT_lt, isaT_nt, isaT_st, gLen_l, gLen_t, gOne_l, gTuple_l, gTuple_t, gInt_b, gMin2_e, gMax2_e, fIt_e, items_l, items_t, fItA_e, gEnum_e, gZip_t, gNm0, gNmS, gNil_e, gCons_e, gTp_e, wipe0, wipeS, tYesD_e, sNil_e, sExpr_e, sRet_e, sRaise_e, sIf_e, sAsg_e, asF_e, sFor_e, endF_r, endF_n, endF_x, asO_s, fRg1_e, sFrz_e, gIx_t0, gIx_t1, gIx_t2, gIx_l0, gIx_l1, gIx_l2, Option.map_some, Option.bind_some, List.set_cons_succ, List.set_cons_zero, List.getElem?_cons_succ, List.getElem?_cons_zero, Bool.not_true, Bool.not_false, Bool.false_eq_true, ↓reduceIte, List.length_cons, List.length_nil, List.map_cons, List.map_nil, Nat.reduceAdd, Nat.reduceLeDiff, Nat.reduceLT, Bool.true_and, Bool.and_true, Bool.false_and, Bool.and_false, List.length_map, Nat.zero_le]) (by omega) fun x hx => ?_]
    · simp only [bnd_ok, bnd_err, then_ok, then_err, fVar0, fVarS, fC_e, fOp_e, fUn_e, asB_e, asI_e, fT_e, fAnd_e, fOr_e, fNot_e, fAndV_e, fOrV_e, fNotV_e, fIf_e, fChain_e, aNil_e, aCons_e, fTup_e, fLst_e, fCall_e, dTup_e, dLst_e, gAdd_i, gSub_i, gNeg_i, gEq_i, gNe_i, gLt_i, gLe_i, gGt_i, gGe_i, gIsN_e, gNotN_e, isN_n, isN_i, isN_t, isN_l, isN_b, gIsi_e, tyD_n, tyD_i, tyD_t, tyD_l, tyD_b, tyD_s, isaT_ii, isaT_bi, isaT_ib, isaT_bb, isaT_tt, isaT_ll, isaT_tb, isaT_ti, isaT_it, isaT_bt, isaT_lt, isaT_nt, isaT_st, gLen_l, gLen_t, gOne_l, gTuple_l, gTuple_t, gInt_b, gMin2_e, gMax2_e, fIt_e, items_l, items_t, fItA_e, gEnum_e, gZip_t, gNm0, gNmS, gNil_e, gCons_e, gTp_e, wipe0, wipeS, tYesD_e, sNil_e, sExpr_e, sRet_e, sRaise_e, sIf_e, sAsg_e, asF_e, sFor_e, endF_r, endF_n, endF_x, asO_s, fRg1_e, sFrz_e, gIx_t0, gIx_t1, gIx_t2, gIx_l0, gIx_l1, gIx_l2, Option.map_some, Option.bind_some, List.set_cons_succ, List.set_cons_zero, List.getElem?_cons_succ, List.getElem?_cons_zero, Bool.not_true, Bool.not_false, Bool.false_eq_true, ↓reduceIte, List.length_cons, List.length_nil, List.map_cons, List.map_nil, Nat.reduceAdd, Nat.reduceLeDiff, Nat.reduceLT, Bool.true_and, Bool.and_true, Bool.false_and, Bool.and_false, List.length_map, Nat.zero_le, all_true]
      rfl
    · simp only [lcOne, bnd_ok, bnd_err, then_ok, then_err, fVar0, fVarS, fC_e, fOp_e, fUn_e, asB_e, asI_e, fT_e, fAnd_e, fOr_e, fNot_e, fAndV_e, fOrV_e, fNotV_e, fIf_e, fChain_e, aNil_e, aCons_e, fTup_e, fLst_e, fCall_e, dTup_e, dLst_e, gAdd_i, gSub_i, gNeg_i, gEq_i, gNe_i, gLt_i, gLe_i, gGt_i, gGe_i, gIsN_e, gNotN_e, isN_n, isN_i, isN_t, isN_l, isN_b, gIsi_e, tyD_n, tyD_i, tyD_t, tyD_l, tyD_b, tyD_s, isaT_ii, isaT_bi, isaT_ib, isaT_bb, isaT_tt, isaT_ll, isaT_tb, isaT_ti, isaT_it, isaT_bt, isaT_lt, isaT_nt, isaT_st, gLen_l, gLen_t, gOne_l, gTuple_l, gTuple_t, gInt_b, gMin2_e, gMax2_e, fIt_e, items_l, items_t, fItA_e, gEnum_e, gZip_t, gNm0, gNmS, gNil_e, gCons_e, gTp_e, wipe0, wipeS, tYesD_e, sNil_e, sExpr_e, sRet_e, sRaise_e, sIf_e, sAsg_e, asF_e, sFor_e, endF_r, endF_n, endF_x, asO_s, fRg1_e, sFrz_e, gIx_t0, gIx_t1, gIx_t2, gIx_l0, gIx_l1, gIx_l2, Option.map_some, Option.bind_some, List.set_cons_succ, List.set_cons_zero, List.getElem?_cons_succ, List.getElem?_cons_zero, Bool.not_true, Bool.not_false, Bool.false_eq_true, ↓reduceIte, List.length_cons, List.length_nil, List.map_cons, List.map_nil, Nat.reduceAdd, Nat.reduceLeDiff, Nat.reduceLT, Bool.true_and, Bool.and_true, Bool.false_and, Bool.and_false, List.length_map, Nat.zero_le]
      rfl)]
  obtain ⟨ρ, h1, j3, j4, rfl⟩ := for_inv eR (gt := gTp (gCons (gNm 3) (gCons (gNm 4) gNil))) (body := (sExpr (fCall m_need_bottle (aCons (fVar 0) (aCons (fVar 1) (aCons (fVar 3) (aCons (fVar 4) aNil)))))))
    (fun pre ρ => ∃ j3 j4, ρ = [.dat (eB b), .dat (eP ss ks), .dat (.list (rows.map eR)), j3, j4, .non, .non, .non]) rows (fun pre r post ρ e ⟨j3, j4, hρ⟩ => by
      subst hρ
      refine ⟨_, forOne_n (by simp only [bnd_ok, bnd_err, then_ok, then_err, fVar0, fVarS, fC_e, fOp_e, fUn_e, asB_e, asI_e, fT_e, fAnd_e, fOr_e, fNot_e, fAndV_e, fOrV_e, fNotV_e, fIf_e, fChain_e, aNil_e, aCons_e, fTup_e, fLst_e, fCall_e, dTup_e, dLst_e, gAdd_i, gSub_i, gNeg_i, gEq_i, gNe_i, gLt_i, gLe_i, gGt_i, gGe_i, gIsN_e, gNotN_e, isN_n, isN_i, isN_t, isN_l, isN_b, gIsi_e, tyD_n, tyD_i, tyD_t, tyD_l, tyD_b, tyD_s, isaT_ii, isaT_bi, isaT_ib, isaT_bb, isaT_tt, isaT_ll, isaT_tb, isaT_ti, isaT_it, isaT_bt, isaT_lt, isaT_nt, isaT_st, gLen_l, gLen_t, gOne_l, gTuple_l, gTuple_t, gInt_b, gMin2_e, gMax2_e, fIt_e, items_l, items_t, fItA_e, gEnum_e, gZip_t, gNm0, gNmS, gNil_e, gCons_e, gTp_e, wipe0, wipeS, tYesD_e, sNil_e, sExpr_e, sRet_e, sRaise_e, sIf_e, sAsg_e, asF_e, sFor_e, endF_r, endF_n, endF_x, asO_s, fRg1_e, sFrz_e, gIx_t0, gIx_t1, gIx_t2, gIx_l0, gIx_l1, gIx_l2, Option.map_some, Option.bind_some, List.set_cons_succ, List.set_cons_zero, List.getElem?_cons_succ, List.getElem?_cons_zero, Bool.not_true, Bool.not_false, Bool.false_eq_true, ↓reduceIte, List.length_cons, List.length_nil, List.map_cons, List.map_nil, Nat.reduceAdd, Nat.reduceLeDiff, Nat.reduceLT, Bool.true_and, Bool.and_true, Bool.false_and, Bool.and_false, List.length_map, Nat.zero_le]; rfl) ?_, .dat (tN r.1), .dat (tN r.2), rfl⟩
      simp only [bnd_ok, bnd_err, then_ok, then_err, fVar0, fVarS, fC_e, fOp_e, fUn_e, asB_e, asI_e, fT_e, fAnd_e, fOr_e, fNot_e, fAndV_e, fOrV_e, fNotV_e, fIf_e, fChain_e, aNil_e, aCons_e, fTup_e, fLst_e, fCall_e, dTup_e, dLst_e, gAdd_i, gSub_i, gNeg_i, gEq_i, gNe_i, gLt_i, gLe_i, gGt_i, gGe_i, gIsN_e, gNotN_e, isN_n, isN_i, isN_t, isN_l, isN_b, gIsi_e, tyD_n, tyD_i, tyD_t, tyD_l, tyD_b, tyD_s, isaT_ii, isaT_bi, isaT_ib, isaT_bb, isaT_tt, isaT_ll, isaT_tb, isaT_ti, isaT_it, isaT_bt, isaT_lt, isaT_nt, isaT_st, gLen_l, gLen_t, gOne_l, gTuple_l, gTuple_t, gInt_b, gMin2_e, gMax2_e, fIt_e, items_l, items_t, fItA_e, gEnum_e, gZip_t, gNm0, gNmS, gNil_e, gCons_e, gTp_e, wipe0, wipeS, tYesD_e, sNil_e, sExpr_e, sRet_e, sRaise_e, sIf_e, sAsg_e, asF_e, sFor_e, endF_r, endF_n, endF_x, asO_s, fRg1_e, sFrz_e, gIx_t0, gIx_t1, gIx_t2, gIx_l0, gIx_l1, gIx_l2, Option.map_some, Option.bind_some, List.set_cons_succ, List.set_cons_zero, List.getElem?_cons_succ, List.getElem?_cons_zero, Bool.not_true, Bool.not_false, Bool.false_eq_true, ↓reduceIte, List.length_cons, List.length_nil, List.map_cons, List.map_nil, Nat.reduceAdd, Nat.reduceLeDiff, Nat.reduceLT, Bool.true_and, Bool.and_true, Bool.false_and, Bool.and_false, List.length_map, Nat.zero_le, need_bottle_t h (hr r (by rw [e]; simp))]) (ρ := [.dat (eB b), .dat (eP ss ks), .dat (.list (rows.map eR)), .non, .non, .non, .non, .non]) ⟨.non, .non, rfl⟩
  rw [sSeq_n (h := by simp only [bnd_ok, bnd_err, then_ok, then_err, fVar0, fVarS, fC_e, fOp_e, fUn_e, asB_e, asI_e, fT_e, fAnd_e, fOr_e, fNot_e, fAndV_e, fOrV_e, fNotV_e, fIf_e, fChain_e, aNil_e, aCons_e, fTup_e, fLst_e, fCall_e, dTup_e, dLst_e, gAdd_i, gSub_i, gNeg_i, gEq_i, gNe_i, gLt_i, gLe_i, gGt_i, gGe_i, gIsN_e, gNotN_e, isN_n, isN_i, isN_t, isN_l, isN_b, gIsi_e, tyD_n, tyD_i, tyD_t, tyD_l, tyD_b, tyD_s, isaT_ii, isaT_bi, isaT_ib, isaT_bb, isaT_tt, isaT_ll, isaT_tb, isaT_ti, isaT_it, isaT_bt, isaT_lt, isaT_nt, isaT_st, gLen_l, gLen_t, gOne_l, gTuple_l, gTuple_t, gInt_b, gMin2_e, gMax2_e, fIt_e, items_l, items_t, fItA_e, gEnum_e, gZip_t, gNm0, gNmS, gNil_e, gCons_e, gTp_e, wipe0, wipeS, tYesD_e, sNil_e, sExpr_e, sRet_e, sRaise_e, sIf_e, sAsg_e, asF_e, sFor_e, endF_r, endF_n, endF_x, asO_s, fRg1_e, sFrz_e, gIx_t0, gIx_t1, gIx_t2, gIx_l0, gIx_l1, gIx_l2, Option.map_some, Option.bind_some, List.set_cons_succ, List.set_cons_zero, List.getElem?_cons_succ, List.getElem?_cons_zero, Bool.not_true, Bool.not_false, Bool.false_eq_true, ↓reduceIte, List.length_cons, List.length_nil, List.map_cons, List.map_nil, Nat.reduceAdd, Nat.reduceLeDiff, Nat.reduceLT, Bool.true_and, Bool.and_true, Bool.false_and, Bool.and_false, List.length_map, Nat.zero_le, h1]; rfl)]
  rw [sSeq_n (h := sOwn_e _ _ (by simp))]
  obtain ⟨ρ, h1, j3, j4, j6, rfl⟩ := for_inv (fun p : (List Nat × List Nat) × Nat => PyData.tuple [nD p.2, eR p.1]) (gt := (gTp (gCons (gNm 6) (gCons (gTp (gCons (gNm 3) (gCons (gNm 4) gNil))) gNil)))) (body := (sIf (fAnd (fT (fOp gNe (fVar 3) (fTup aNil))) (fT (fOp gIsN (fCall m_out_of (aCons (fVar 0) (aCons (fVar 1) (aCons (fVar 3) (aCons (fVar 4) aNil))))) (fC .none)))) (sApp 5 (fVar 6)) sNil))
    (fun pre ρ => ∃ j3 j4 j6, ρ = [.dat (eB b), .dat (eP ss ks), .dat (.list (rows.map eR)), j3, j4, .own (((pre.filter fun p => !p.1.1.isEmpty && !(cOut b ss ks p.1.1 p.1.2).isSome).map (·.2)).map nD), j6, .non]) rows.zipIdx (fun pre r post ρ e ⟨j3, j4, j6, hρ⟩ => by
      subst hρ
      refine ⟨_, forOne_n (by simp only [bnd_ok, bnd_err, then_ok, then_err, fVar0, fVarS, fC_e, fOp_e, fUn_e, asB_e, asI_e, fT_e, fAnd_e, fOr_e, fNot_e, fAndV_e, fOrV_e, fNotV_e, fIf_e, fChain_e, aNil_e, aCons_e, fTup_e, fLst_e, fCall_e, dTup_e, dLst_e, gAdd_i, gSub_i, gNeg_i, gEq_i, gNe_i, gLt_i, gLe_i, gGt_i, gGe_i, gIsN_e, gNotN_e, isN_n, isN_i, isN_t, isN_l, isN_b, gIsi_e, tyD_n, tyD_i, tyD_t, tyD_l, tyD_b, tyD_s, isaT_ii, isaT_bi, isaT_ib, isaT_bb, isaT_tt, isaT_ll, isaT_tb, isaT_ti, isaT_it, isaT_bt, isaT_lt, isaT_nt, isaT_st, gLen_l, gLen_t, gOne_l, gTuple_l, gTuple_t, gInt_b, gMin2_e, gMax2_e, fIt_e, items_l, items_t, fItA_e, gEnum_e, gZip_t, gNm0, gNmS, gNil_e, gCons_e, gTp_e, wipe0, wipeS, tYesD_e, sNil_e, sExpr_e, sRet_e, sRaise_e, sIf_e, sAsg_e, asF_e, sFor_e, endF_r, endF_n, endF_x, asO_s, fRg1_e, sFrz_e, gIx_t0, gIx_t1, gIx_t2, gIx_l0, gIx_l1, gIx_l2, Option.map_some, Option.bind_some, List.set_cons_succ, List.set_cons_zero, List.getElem?_cons_succ, List.getElem?_cons_zero, Bool.not_true, Bool.not_false, Bool.false_eq_true, ↓reduceIte, List.length_cons, List.length_nil, List.map_cons, List.map_nil, Nat.reduceAdd, Nat.reduceLeDiff, Nat.reduceLT, Bool.true_and, Bool.and_true, Bool.false_and, Bool.and_false, List.length_map, Nat.zero_le]; rfl) ?_, .dat (tN r.1.1), .dat (tN r.1.2), .dat (nD r.2), rfl⟩
      have hm : r.1 ∈ rows := by
        have : r ∈ rows.zipIdx := by rw [e]; simp
        exact List.fst_mem_of_mem_zipIdx this
      have hb := (hr r.1 hm).hb
      have hlen : (pre.filter fun p => !p.1.1.isEmpty && !(cOut b ss ks p.1.1 p.1.2).isSome).length ≤ pre.length := List.length_filter_le _ _
      have hlen2 : pre.length ≤ rows.length := by
        have : pre.length ≤ rows.zipIdx.length := by rw [e]; simp
        rwa [List.length_zipIdx] at this
      rw [List.filter_append, List.filter_cons]
      simp only [bnd_ok, bnd_err, then_ok, then_err, fVar0, fVarS, fC_e, fOp_e, fUn_e, asB_e, asI_e, fT_e, fAnd_e, fOr_e, fNot_e, fAndV_e, fOrV_e, fNotV_e, fIf_e, fChain_e, aNil_e, aCons_e, fTup_e, fLst_e, fCall_e, dTup_e, dLst_e, gAdd_i, gSub_i, gNeg_i, gEq_i, gNe_i, gLt_i, gLe_i, gGt_i, gGe_i, gIsN_e, gNotN_e, isN_n, isN_i, isN_t, isN_l, isN_b, gIsi_e, tyD_n, tyD_i, tyD_t, tyD_l, tyD_b, tyD_s, isaT_ii, isaT_bi, isaT_ib, isaT_bb, isaT_tt, isaT_ll, isaT_tb, isaT_ti, isaT_it, isaT_bt, isaT_lt, isaT_nt, isaT_st, gLen_l, gLen_t, gOne_l, gTuple_l, gTuple_t, gInt_b, gMin2_e, gMax2_e, fIt_e, items_l, items_t, fItA_e, gEnum_e, gZip_t, gNm0, gNmS, gNil_e, gCons_e, gTp_e, wipe0, wipeS, tYesD_e, sNil_e, sExpr_e, sRet_e, sRaise_e, sIf_e, sAsg_e, asF_e, sFor_e, endF_r, endF_n, endF_x, asO_s, fRg1_e, sFrz_e, gIx_t0, gIx_t1, gIx_t2, gIx_l0, gIx_l1, gIx_l2, Option.map_some, Option.bind_some, List.set_cons_succ, List.set_cons_zero, List.getElem?_cons_succ, List.getElem?_cons_zero, Bool.not_true, Bool.not_false, Bool.false_eq_true, ↓reduceIte, List.length_cons, List.length_nil, List.map_cons, List.map_nil, Nat.reduceAdd, Nat.reduceLeDiff, Nat.reduceLT, Bool.true_and, Bool.and_true, Bool.false_and, Bool.and_false, List.length_map, Nat.zero_le, ne_nilt (lay_ns r.1.1), List.isEmpty_map]
      cases h1 : r.1.1.isEmpty with
      | true => simp only [bnd_ok, bnd_err, then_ok, then_err, fVar0, fVarS, fC_e, fOp_e, fUn_e, asB_e, asI_e, fT_e, fAnd_e, fOr_e, fNot_e, fAndV_e, fOrV_e, fNotV_e, fIf_e, fChain_e, aNil_e, aCons_e, fTup_e, fLst_e, fCall_e, dTup_e, dLst_e, gAdd_i, gSub_i, gNeg_i, gEq_i, gNe_i, gLt_i, gLe_i, gGt_i, gGe_i, gIsN_e, gNotN_e, isN_n, isN_i, isN_t, isN_l, isN_b, gIsi_e, tyD_n, tyD_i, tyD_t, tyD_l, tyD_b, tyD_s, isaT_ii, isaT_bi, isaT_ib, isaT_bb, isaT_tt, isaT_ll, isaT_tb, isaT_ti, isaT_it, isaT_bt, isaT_lt, isaT_nt, isaT_st, gLen_l, gLen_t, gOne_l, gTuple_l, gTuple_t, gInt_b, gMin2_e, gMax2_e, fIt_e, items_l, items_t, fItA_e, gEnum_e, gZip_t, gNm0, gNmS, gNil_e, gCons_e, gTp_e, wipe0, wipeS, tYesD_e, sNil_e, sExpr_e, sRet_e, sRaise_e, sIf_e, sAsg_e, asF_e, sFor_e, endF_r, endF_n, endF_x, asO_s, fRg1_e, sFrz_e, gIx_t0, gIx_t1, gIx_t2, gIx_l0, gIx_l1, gIx_l2, Option.map_some, Option.bind_some, List.set_cons_succ, List.set_cons_zero, List.getElem?_cons_succ, List.getElem?_cons_zero, Bool.not_true, Bool.not_false, Bool.false_eq_true, ↓reduceIte, List.length_cons, List.length_nil, List.map_cons, List.map_nil, Nat.reduceAdd, Nat.reduceLeDiff, Nat.reduceLT, Bool.true_and, Bool.and_true, Bool.false_and, Bool.and_false, List.length_map, Nat.zero_le, List.filter_nil, List.append_nil]
      | false =>
        simp only [bnd_ok, bnd_err, then_ok, then_err, fVar0, fVarS, fC_e, fOp_e, fUn_e, asB_e, asI_e, fT_e, fAnd_e, fOr_e, fNot_e, fAndV_e, fOrV_e, fNotV_e, fIf_e, fChain_e, aNil_e, aCons_e, fTup_e, fLst_e, fCall_e, dTup_e, dLst_e, gAdd_i, gSub_i, gNeg_i, gEq_i, gNe_i, gLt_i, gLe_i, gGt_i, gGe_i, gIsN_e, gNotN_e, isN_n, isN_i, isN_t, isN_l, isN_b, gIsi_e, tyD_n, tyD_i, tyD_t, tyD_l, tyD_b, tyD_s, isaT_ii, isaT_bi, isaT_ib, isaT_bb, isaT_tt, isaT_ll, isaT_tb, isaT_ti, isaT_it, isaT_bt, isaT_lt, isaT_nt, isaT_st, gLen_l, gLen_t, gOne_l, gTuple_l, gTuple_t, gInt_b, gMin2_e, gMax2_e, fIt_e, items_l, items_t, fItA_e, gEnum_e, gZip_t, gNm0, gNmS, gNil_e, gCons_e, gTp_e, wipe0, wipeS, tYesD_e, sNil_e, sExpr_e, sRet_e, sRaise_e, sIf_e, sAsg_e, asF_e, sFor_e, endF_r, endF_n, endF_x, asO_s, fRg1_e, sFrz_e, gIx_t0, gIx_t1, gIx_t2, gIx_l0, gIx_l1, gIx_l2, Option.map_some, Option.bind_some, List.set_cons_succ, List.set_cons_zero, List.getElem?_cons_succ, List.getElem?_cons_zero, Bool.not_true, Bool.not_false, Bool.false_eq_true, ↓reduceIte, List.length_cons, List.length_nil, List.map_cons, List.map_nil, Nat.reduceAdd, Nat.reduceLeDiff, Nat.reduceLT, Bool.true_and, Bool.and_true, Bool.false_and, Bool.and_false, List.length_map, Nat.zero_le, out_of_e h p hb, isN_oP]
        cases h2 : (cOut b ss ks r.1.1 r.1.2).isSome with
        | true => simp only [bnd_ok, bnd_err, then_ok, then_err, fVar0, fVarS, fC_e, fOp_e, fUn_e, asB_e, asI_e, fT_e, fAnd_e, fOr_e, fNot_e, fAndV_e, fOrV_e, fNotV_e, fIf_e, fChain_e, aNil_e, aCons_e, fTup_e, fLst_e, fCall_e, dTup_e, dLst_e, gAdd_i, gSub_i, gNeg_i, gEq_i, gNe_i, gLt_i, gLe_i, gGt_i, gGe_i, gIsN_e, gNotN_e, isN_n, isN_i, isN_t, isN_l, isN_b, gIsi_e, tyD_n, tyD_i, tyD_t, tyD_l, tyD_b, tyD_s, isaT_ii, isaT_bi, isaT_ib, isaT_bb, isaT_tt, isaT_ll, isaT_tb, isaT_ti, isaT_it, isaT_bt, isaT_lt, isaT_nt, isaT_st, gLen_l, gLen_t, gOne_l, gTuple_l, gTuple_t, gInt_b, gMin2_e, gMax2_e, fIt_e, items_l, items_t, fItA_e, gEnum_e, gZip_t, gNm0, gNmS, gNil_e, gCons_e, gTp_e, wipe0, wipeS, tYesD_e, sNil_e, sExpr_e, sRet_e, sRaise_e, sIf_e, sAsg_e, asF_e, sFor_e, endF_r, endF_n, endF_x, asO_s, fRg1_e, sFrz_e, gIx_t0, gIx_t1, gIx_t2, gIx_l0, gIx_l1, gIx_l2, Option.map_some, Option.bind_some, List.set_cons_succ, List.set_cons_zero, List.getElem?_cons_succ, List.getElem?_cons_zero, Bool.not_true, Bool.not_false, Bool.false_eq_true, ↓reduceIte, List.length_cons, List.length_nil, List.map_cons, List.map_nil, Nat.reduceAdd, Nat.reduceLeDiff, Nat.reduceLT, Bool.true_and, Bool.and_true, Bool.false_and, Bool.and_false, List.length_map, Nat.zero_le, List.filter_nil, List.append_nil]
        | false =>
          simp only [bnd_ok, bnd_err, then_ok, then_err, fVar0, fVarS, fC_e, fOp_e, fUn_e, asB_e, asI_e, fT_e, fAnd_e, fOr_e, fNot_e, fAndV_e, fOrV_e, fNotV_e, fIf_e, fChain_e, aNil_e, aCons_e, fTup_e, fLst_e, fCall_e, dTup_e, dLst_e, gAdd_i, gSub_i, gNeg_i, gEq_i, gNe_i, gLt_i, gLe_i, gGt_i, gGe_i, gIsN_e, gNotN_e, isN_n, isN_i, isN_t, isN_l, isN_b, gIsi_e, tyD_n, tyD_i, tyD_t, tyD_l, tyD_b, tyD_s, isaT_ii, isaT_bi, isaT_ib, isaT_bb, isaT_tt, isaT_ll, isaT_tb, isaT_ti, isaT_it, isaT_bt, isaT_lt, isaT_nt, isaT_st, gLen_l, gLen_t, gOne_l, gTuple_l, gTuple_t, gInt_b, gMin2_e, gMax2_e, fIt_e, items_l, items_t, fItA_e, gEnum_e, gZip_t, gNm0, gNmS, gNil_e, gCons_e, gTp_e, wipe0, wipeS, tYesD_e, sNil_e, sExpr_e, sRet_e, sRaise_e, sIf_e, sAsg_e, asF_e, sFor_e, endF_r, endF_n, endF_x, asO_s, fRg1_e, sFrz_e, gIx_t0, gIx_t1, gIx_t2, gIx_l0, gIx_l1, gIx_l2, Option.map_some, Option.bind_some, List.set_cons_succ, List.set_cons_zero, List.getElem?_cons_succ, List.getElem?_cons_zero, Bool.not_true, Bool.not_false, Bool.false_eq_true, ↓reduceIte, List.length_cons, List.length_nil, List.map_cons, List.map_nil, Nat.reduceAdd, Nat.reduceLeDiff, Nat.reduceLT, Bool.true_and, Bool.and_true, Bool.false_and, Bool.and_false, List.length_map, Nat.zero_le]
          rw [sApp_e (h := rfl) (hf := rfl) (hl := by rw [List.length_map, List.length_map]; omega)]
          simp only [bnd_ok, bnd_err, then_ok, then_err, fVar0, fVarS, fC_e, fOp_e, fUn_e, asB_e, asI_e, fT_e, fAnd_e, fOr_e, fNot_e, fAndV_e, fOrV_e, fNotV_e, fIf_e, fChain_e, aNil_e, aCons_e, fTup_e, fLst_e, fCall_e, dTup_e, dLst_e, gAdd_i, gSub_i, gNeg_i, gEq_i, gNe_i, gLt_i, gLe_i, gGt_i, gGe_i, gIsN_e, gNotN_e, isN_n, isN_i, isN_t, isN_l, isN_b, gIsi_e, tyD_n, tyD_i, tyD_t, tyD_l, tyD_b, tyD_s, isaT_ii, isaT_bi, isaT_ib, isaT_bb, isaT_tt, isaT_ll, isaT_tb, isaT_ti, isaT_it, isaT_bt, isaT_lt, isaT_nt, isaT_st, gLen_l, gLen_t, gOne_l, gTuple_l, gTuple_t, gInt_b, gMin2_e, gMax2_e, fIt_e, items_l, items_t, fItA_e, gEnum_e, gZip_t, gNm0, gNmS, gNil_e, gCons_e, gTp_e, wipe0, wipeS, tYesD_e, sNil_e, sExpr_e, sRet_e, sRaise_e, sIf_e, sAsg_e, asF_e, sFor_e, endF_r, endF_n, endF_x, asO_s, fRg1_e, sFrz_e, gIx_t0, gIx_t1, gIx_t2, gIx_l0, gIx_l1, gIx_l2, Option.map_some, Option.bind_some, List.set_cons_succ, List.set_cons_zero, List.getElem?_cons_succ, List.getElem?_cons_zero, Bool.not_true, Bool.not_false, Bool.false_eq_true, ↓reduceIte, List.length_cons, List.length_nil, List.map_cons, List.map_nil, Nat.reduceAdd, Nat.reduceLeDiff, Nat.reduceLT, Bool.true_and, Bool.and_true, Bool.false_and, Bool.and_false, List.length_map, Nat.zero_le, List.map_append, List.filter_nil]) (ρ := [.dat (eB b), .dat (eP ss ks), .dat (.list (rows.map eR)), j3, j4, .own [], .non, .non]) ⟨_, _, .non, rfl⟩
  rw [sSeq_n (h := by simp only [bnd_ok, bnd_err, then_ok, then_err, fVar0, fVarS, fC_e, fOp_e, fUn_e, asB_e, asI_e, fT_e, fAnd_e, fOr_e, fNot_e, fAndV_e, fOrV_e, fNotV_e, fIf_e, fChain_e, aNil_e, aCons_e, fTup_e, fLst_e, fCall_e, dTup_e, dLst_e, gAdd_i, gSub_i, gNeg_i, gEq_i, gNe_i, gLt_i, gLe_i, gGt_i, gGe_i, gIsN_e, gNotN_e, isN_n, isN_i, isN_t, isN_l, isN_b, gIsi_e, tyD_n, tyD_i, tyD_t, tyD_l, tyD_b, tyD_s, isaT_ii, isaT_bi, isaT_ib, isaT_bb, isaT_tt, isaT_ll, isaT_tb, isaT_ti, isaT_it, isaT_bt, isaT_lt, isaT_nt, isaT_st, gLen_l, gLen_t, gOne_l, gTuple_l, gTuple_t, gInt_b, gMin2_e, gMax2_e, fIt_e, items_l, items_t, fItA_e, gEnum_e, gZip_t, gNm0, gNmS, gNil_e, gCons_e, gTp_e, wipe0, wipeS, tYesD_e, sNil_e, sExpr_e, sRet_e, sRaise_e, sIf_e, sAsg_e, asF_e, sFor_e, endF_r, endF_n, endF_x, asO_s, fRg1_e, sFrz_e, gIx_t0, gIx_t1, gIx_t2, gIx_l0, gIx_l1, gIx_l2, Option.map_some, Option.bind_some, List.set_cons_succ, List.set_cons_zero, List.getElem?_cons_succ, List.getElem?_cons_zero, Bool.not_true, Bool.not_false, Bool.false_eq_true, ↓reduceIte, List.length_cons, List.length_nil, List.map_cons, List.map_nil, Nat.reduceAdd, Nat.reduceLeDiff, Nat.reduceLT, Bool.true_and, Bool.and_true, Bool.false_and, Bool.and_false, List.length_map, Nat.zero_le, enum_map, h1]; rfl)]
  simp only [bnd_ok, bnd_err, then_ok, then_err, fVar0, fVarS, fC_e, fOp_e, fUn_e, asB_e, asI_e, fT_e, fAnd_e, fOr_e, fNot_e, fAndV_e, fOrV_e, fNotV_e, fIf_e, fChain_e, aNil_e, aCons_e, fTup_e, fLst_e, fCall_e, dTup_e, dLst_e, gAdd_i, gSub_i, gNeg_i, gEq_i, gNe_i, gLt_i, gLe_i, gGt_i, gGe_i, gIsN_e, gNotN_e, isN_n, isN_i, isN_t, isN_l, isN_b, gIsi_e, tyD_n, tyD_i, tyD_t, tyD_l, tyD_b, tyD_s, isaT_ii, isaT_bi, isaT_ib, isaT_bb, isaT_tt, isaT_ll, isaT_tb, isaT_ti, isaT_it, isaT_bt, isaT_lt, isaT_nt, isaT_st, gLen_l, gLen_t, gOne_l, gTuple_l, gTuple_t, gInt_b, gMin2_e, gMax2_e, fIt_e, items_l, items_t, fItA_e, gEnum_e, gZip_t, gNm0, gNmS, gNil_e, gCons_e, gTp_e, wipe0, wipeS, tYesD_e, sNil_e, sExpr_e, sRet_e, sRaise_e, sIf_e, sAsg_e, asF_e, sFor_e, endF_r, endF_n, endF_x, asO_s, fRg1_e, sFrz_e, gIx_t0, gIx_t1, gIx_t2, gIx_l0, gIx_l1, gIx_l2, Option.map_some, Option.bind_some, List.set_cons_succ, List.set_cons_zero, List.getElem?_cons_succ, List.getElem?_cons_zero, Bool.not_true, Bool.not_false, Bool.false_eq_true, ↓reduceIte, List.length_cons, List.length_nil, List.map_cons, List.map_nil, Nat.reduceAdd, Nat.reduceLeDiff, Nat.reduceLT, Bool.true_and, Bool.and_true, Bool.false_and, Bool.and_false, List.length_map, Nat.zero_le]
  rw [frz_e (h := rfl)]
  simp only [bnd_ok, bnd_err, then_ok, then_err, fVar0, fVarS, fC_e, fOp_e, fUn_e, asB_e, asI_e, fT_e, fAnd_e, fOr_e, fNot_e, fAndV_e, fOrV_e, fNotV_e, fIf_e, fChain_e, aNil_e, aCons_e, fTup_e, fLst_e, fCall_e, dTup_e, dLst_e, gAdd_i, gSub_i, gNeg_i, gEq_i, gNe_i, gLt_i, gLe_i, gGt_i, gGe_i, gIsN_e, gNotN_e, isN_n, isN_i, isN_t, isN_l, isN_b, gIsi_e, tyD_n, tyD_i, tyD_t, tyD_l, tyD_b, tyD_s, isaT_ii, isaT_bi, isaT_ib, isaT_bb, isaT_tt, isaT_ll, isaT_tb, isaT_ti, isaT_it, isaT_bt, isaT_lt, isaT_nt, isaT_st, gLen_l, gLen_t, gOne_l, gTuple_l, gTuple_t, gInt_b, gMin2_e, gMax2_e, fIt_e, items_l, items_t, fItA_e, gEnum_e, gZip_t, gNm0, gNmS, gNil_e, gCons_e, gTp_e, wipe0, wipeS, tYesD_e, sNil_e, sExpr_e, sRet_e, sRaise_e, sIf_e, sAsg_e, asF_e, sFor_e, endF_r, endF_n, endF_x, asO_s, fRg1_e, sFrz_e, gIx_t0, gIx_t1, gIx_t2, gIx_l0, gIx_l1, gIx_l2, Option.map_some, Option.bind_some, List.set_cons_succ, List.set_cons_zero, List.getElem?_cons_succ, List.getElem?_cons_zero, Bool.not_true, Bool.not_false, Bool.false_eq_true, ↓reduceIte, List.length_cons, List.length_nil, List.map_cons, List.map_nil, Nat.reduceAdd, Nat.reduceLeDiff, Nat.reduceLT, Bool.true_and, Bool.and_true, Bool.false_and, Bool.and_false, List.length_map, Nat.zero_le]
  rfl
def cCost (b : Belt) (ss ks : List Nat) : Nat := (ss.map (scost b)).sum + (ks.map (kcost b)).sum
theorem cost_of_e {b : Belt} {ss ks : List Nat} (h : b.Ok) (p : PlanOk b ss ks) : m_cost_of [eB b, eP ss ks] = .ok (nD (cCost b ss ks)) := by
  have s8 := h.s8; have k3 := h.k3
  have l1 := rise_len p.s; have l2 := rise_len p.k
  rw [q_cost_of]
  unfold b_cost_of cCost
  simp only [bnd_ok, bnd_err, then_ok, then_err, fVar0, fVarS, fC_e, fOp_e, fUn_e, asB_e, asI_e, fT_e, fAnd_e, fOr_e, fNot_e, fAndV_e, fOrV_e, fNotV_e, fIf_e, fChain_e, aNil_e, aCons_e, fTup_e, fLst_e, fCall_e, dTup_e, dLst_e, gAdd_i, gSub_i, gNeg_i, gEq_i, gNe_i, gLt_i, gLe_i, gGt_i, gGe_i, gIsN_e, gNotN_e, isN_n, isN_i, isN_t, isN_l, isN_b, gIsi_e, tyD_n, tyD_i, tyD_t, tyD_l, tyD_b, tyD_s, isaT_ii, isaT_bi, isaT_ib, isaT_bb, isaT_tt, isaT_ll, isaT_tb, isaT_ti, isaT_it, isaT_bt, isaT_lt, isaT_nt, isaT_st, gLen_l, gLen_t, gOne_l, gTuple_l, gTuple_t, gInt_b, gMin2_e, gMax2_e, fIt_e, items_l, items_t, fItA_e, gEnum_e, gZip_t, gNm0, gNmS, gNil_e, gCons_e, gTp_e, wipe0, wipeS, tYesD_e, sNil_e, sExpr_e, sRet_e, sRaise_e, sIf_e, sAsg_e, asF_e, sFor_e, endF_r, endF_n, endF_x, asO_s, fRg1_e, sFrz_e, gIx_t0, gIx_t1, gIx_t2, gIx_l0, gIx_l1, gIx_l2, Option.map_some, Option.bind_some, List.set_cons_succ, List.set_cons_zero, List.getElem?_cons_succ, List.getElem?_cons_zero, Bool.not_true, Bool.not_false, Bool.false_eq_true, ↓reduceIte, List.length_cons, List.length_nil, List.map_cons, List.map_nil, Nat.reduceAdd, Nat.reduceLeDiff, Nat.reduceLT, Bool.true_and, Bool.and_true, Bool.false_and, Bool.and_false, List.length_map, Nat.zero_le]
  rw [fLc_map nD (fun s => nD (scost b s)) ss (by simp only [bnd_ok, bnd_err, then_ok, then_err, fVar0, fVarS, fC_e, fOp_e, fUn_e, asB_e, asI_e, fT_e, fAnd_e, fOr_e, fNot_e, fAndV_e, fOrV_e, fNotV_e, fIf_e, fChain_e, aNil_e, aCons_e, fTup_e, fLst_e, fCall_e, dTup_e, dLst_e, gAdd_i, gSub_i, gNeg_i, gEq_i, gNe_i, gLt_i, gLe_i, gGt_i, gGe_i, gIsN_e, gNotN_e, isN_n, isN_i, isN_t, isN_l, isN_b, gIsi_e, tyD_n, tyD_i, tyD_t, tyD_l, tyD_b, tyD_s, isaT_ii, isaT_bi, isaT_ib, isaT_bb, isaT_tt, isaT_ll, isaT_tb, isaT_ti, isaT_it, isaT_bt, isaT_lt, isaT_nt, isaT_st, gLen_l, gLen_t, gOne_l, gTuple_l, gTuple_t, gInt_b, gMin2_e, gMax2_e, fIt_e, items_l, items_t, fItA_e, gEnum_e, gZip_t, gNm0, gNmS, gNil_e, gCons_e, gTp_e, wipe0, wipeS, tYesD_e, sNil_e, sExpr_e, sRet_e, sRaise_e, sIf_e, sAsg_e, asF_e, sFor_e, endF_r, endF_n, endF_x, asO_s, fRg1_e, sFrz_e, gIx_t0, gIx_t1, gIx_t2, gIx_l0, gIx_l1, gIx_l2, Option.map_some, Option.bind_some, List.set_cons_succ, List.set_cons_zero, List.getElem?_cons_succ, List.getElem?_cons_zero, Bool.not_true, Bool.not_false, Bool.false_eq_true, ↓reduceIte, List.length_cons, List.length_nil, List.map_cons, List.map_nil, Nat.reduceAdd, Nat.reduceLeDiff, Nat.reduceLT, Bool.true_and, Bool.and_true, Bool.false_and, Bool.and_false, List.length_map, Nat.zero_le]) (by omega) fun s hs => ?_]
  · rw [fLc_map nD (fun s => nD (kcost b s)) ks (by simp only [bnd_ok, bnd_err, then_ok, then_err, fVar0, fVarS, fC_e, fOp_e, fUn_e, asB_e, asI_e, fT_e, fAnd_e, fOr_e, fNot_e, fAndV_e, fOrV_e, fNotV_e, fIf_e, fChain_e, aNil_e, aCons_e, fTup_e, fLst_e, fCall_e, dTup_e, dLst_e, gAdd_i, gSub_i, gNeg_i, gEq_i, gNe_i, gLt_i, gLe_i, gGt_i, gGe_i, gIsN_e, gNotN_e, isN_n, isN_i, isN_t, isN_l, isN_b, gIsi_e, tyD_n, tyD_i, tyD_t, tyD_l, tyD_b, tyD_s, isaT_ii, isaT_bi, isaT_ib, isaT_bb, isaT_tt, isaT_ll, isaT_tb, isaT_ti, isaT_it, isaT_bt, isaT_lt, isaT_nt, isaT_st, gLen_l, gLen_t, gOne_l, gTuple_l, gTuple_t, gInt_b, gMin2_e, gMax2_e, fIt_e, items_l, items_t, fItA_e, gEnum_e, gZip_t, gNm0, gNmS, gNil_e, gCons_e, gTp_e, wipe0, wipeS, tYesD_e, sNil_e, sExpr_e, sRet_e, sRaise_e, sIf_e, sAsg_e, asF_e, sFor_e, endF_r, endF_n, endF_x, asO_s, fRg1_e, sFrz_e, gIx_t0, gIx_t1, gIx_t2, gIx_l0, gIx_l1, gIx_l2, Option.map_some, Option.bind_some, List.set_cons_succ, List.set_cons_zero, List.getElem?_cons_succ, List.getElem?_cons_zero, Bool.not_true, Bool.not_false, Bool.false_eq_true, ↓reduceIte, List.length_cons, List.length_nil, List.map_cons, List.map_nil, Nat.reduceAdd, Nat.reduceLeDiff, Nat.reduceLT, Bool.true_and, Bool.and_true, Bool.false_and, Bool.and_false, List.length_map, Nat.zero_le]) (by omega) fun s hs => ?_]
    · simp only [bnd_ok, bnd_err, then_ok, then_err, fVar0, fVarS, fC_e, fOp_e, fUn_e, asB_e, asI_e, fT_e, fAnd_e, fOr_e, fNot_e, fAndV_e, fOrV_e, fNotV_e, fIf_e, fChain_e, aNil_e, aCons_e, fTup_e, fLst_e, fCall_e, dTup_e, dLst_e, gAdd_i, gSub_i, gNeg_i, gEq_i, gNe_i, gLt_i, gLe_i, gGt_i, gGe_i, gIsN_e, gNotN_e, isN_n, isN_i, isN_t, isN_l, isN_b, gIsi_e, tyD_n, tyD_i, tyD_t, tyD_l, tyD_b, tyD_s, isaT_ii, isaT_bi, isaT_ib, isaT_bb, isaT_tt, isaT_ll, isaT_tb, isaT_ti, isaT_it, isaT_bt, isaT_lt, isaT_nt, isaT_st, gLen_l, gLen_t, gOne_l, gTuple_l, gTuple_t, gInt_b, gMin2_e, gMax2_e, fIt_e, items_l, items_t, fItA_e, gEnum_e, gZip_t, gNm0, gNmS, gNil_e, gCons_e, gTp_e, wipe0, wipeS, tYesD_e, sNil_e, sExpr_e, sRet_e, sRaise_e, sIf_e, sAsg_e, asF_e, sFor_e, endF_r, endF_n, endF_x, asO_s, fRg1_e, sFrz_e, gIx_t0, gIx_t1, gIx_t2, gIx_l0, gIx_l1, gIx_l2, Option.map_some, Option.bind_some, List.set_cons_succ, List.set_cons_zero, List.getElem?_cons_succ, List.getElem?_cons_zero, Bool.not_true, Bool.not_false, Bool.false_eq_true, ↓reduceIte, List.length_cons, List.length_nil, List.map_cons, List.map_nil, Nat.reduceAdd, Nat.reduceLeDiff, Nat.reduceLT, Bool.true_and, Bool.and_true, Bool.false_and, Bool.and_false, List.length_map, Nat.zero_le, dSum_nat]
      simp
    · obtain ⟨x, hx⟩ := get_some (p.k.1 s hs)
      simp only [lcOne, bnd_ok, bnd_err, then_ok, then_err, fVar0, fVarS, fC_e, fOp_e, fUn_e, asB_e, asI_e, fT_e, fAnd_e, fOr_e, fNot_e, fAndV_e, fOrV_e, fNotV_e, fIf_e, fChain_e, aNil_e, aCons_e, fTup_e, fLst_e, fCall_e, dTup_e, dLst_e, gAdd_i, gSub_i, gNeg_i, gEq_i, gNe_i, gLt_i, gLe_i, gGt_i, gGe_i, gIsN_e, gNotN_e, isN_n, isN_i, isN_t, isN_l, isN_b, gIsi_e, tyD_n, tyD_i, tyD_t, tyD_l, tyD_b, tyD_s, isaT_ii, isaT_bi, isaT_ib, isaT_bb, isaT_tt, isaT_ll, isaT_tb, isaT_ti, isaT_it, isaT_bt, isaT_lt, isaT_nt, isaT_st, gLen_l, gLen_t, gOne_l, gTuple_l, gTuple_t, gInt_b, gMin2_e, gMax2_e, fIt_e, items_l, items_t, fItA_e, gEnum_e, gZip_t, gNm0, gNmS, gNil_e, gCons_e, gTp_e, wipe0, wipeS, tYesD_e, sNil_e, sExpr_e, sRet_e, sRaise_e, sIf_e, sAsg_e, asF_e, sFor_e, endF_r, endF_n, endF_x, asO_s, fRg1_e, sFrz_e, gIx_t0, gIx_t1, gIx_t2, gIx_l0, gIx_l1, gIx_l2, Option.map_some, Option.bind_some, List.set_cons_succ, List.set_cons_zero, List.getElem?_cons_succ, List.getElem?_cons_zero, Bool.not_true, Bool.not_false, Bool.false_eq_true, ↓reduceIte, List.length_cons, List.length_nil, List.map_cons, List.map_nil, Nat.reduceAdd, Nat.reduceLeDiff, Nat.reduceLT, Bool.true_and, Bool.and_true, Bool.false_and, Bool.and_false, List.length_map, Nat.zero_le, gIx_map eK b.K s x hx, kcost_e hx]
  · obtain ⟨x, hx⟩ := get_some (p.s.1 s hs)
    simp only [lcOne, bnd_ok, bnd_err, then_ok, then_err, fVar0, fVarS, fC_e, fOp_e, fUn_e, asB_e, asI_e, fT_e, fAnd_e, fOr_e, fNot_e, fAndV_e, fOrV_e, fNotV_e, fIf_e, fChain_e, aNil_e, aCons_e, fTup_e, fLst_e, fCall_e, dTup_e, dLst_e, gAdd_i, gSub_i, gNeg_i, gEq_i, gNe_i, gLt_i, gLe_i, gGt_i, gGe_i, gIsN_e, gNotN_e, isN_n, isN_i, isN_t, isN_l, isN_b, gIsi_e, tyD_n, tyD_i, tyD_t, tyD_l, tyD_b, tyD_s, isaT_ii, isaT_bi, isaT_ib, isaT_bb, isaT_tt, isaT_ll, isaT_tb, isaT_ti, isaT_it, isaT_bt, isaT_lt, isaT_nt, isaT_st, gLen_l, gLen_t, gOne_l, gTuple_l, gTuple_t, gInt_b, gMin2_e, gMax2_e, fIt_e, items_l, items_t, fItA_e, gEnum_e, gZip_t, gNm0, gNmS, gNil_e, gCons_e, gTp_e, wipe0, wipeS, tYesD_e, sNil_e, sExpr_e, sRet_e, sRaise_e, sIf_e, sAsg_e, asF_e, sFor_e, endF_r, endF_n, endF_x, asO_s, fRg1_e, sFrz_e, gIx_t0, gIx_t1, gIx_t2, gIx_l0, gIx_l1, gIx_l2, Option.map_some, Option.bind_some, List.set_cons_succ, List.set_cons_zero, List.getElem?_cons_succ, List.getElem?_cons_zero, Bool.not_true, Bool.not_false, Bool.false_eq_true, ↓reduceIte, List.length_cons, List.length_nil, List.map_cons, List.map_nil, Nat.reduceAdd, Nat.reduceLeDiff, Nat.reduceLT, Bool.true_and, Bool.and_true, Bool.false_and, Bool.and_false, List.length_map, Nat.zero_le, gIx_map eS b.S s x hx, scost_e hx]
theorem cost_e {b : Belt} {ss ks : List Nat} (h : b.Ok) (p : PlanOk b ss ks) : m_cost [eB b, eP ss ks] = .ok (nD (cCost b ss ks)) := by
  rw [q_cost]
  unfold b_cost
  rw [sSeq_n (h := by simp only [bnd_ok, bnd_err, then_ok, then_err, fVar0, fVarS, fC_e, fOp_e, fUn_e, asB_e, asI_e, fT_e, fAnd_e, fOr_e, fNot_e, fAndV_e, fOrV_e, fNotV_e, fIf_e, fChain_e, aNil_e, aCons_e, fTup_e, fLst_e, fCall_e, dTup_e, dLst_e, gAdd_i, gSub_i, gNeg_i, gEq_i, gNe_i, gLt_i, gLe_i, gGt_i, gGe_i, gIsN_e, gNotN_e, isN_n, isN_i, isN_t, isN_l, isN_b, gIsi_e, tyD_n, tyD_i, tyD_t, tyD_l, tyD_b, tyD_s, isaT_ii, isaT_bi, isaT_ib, isaT_bb, isaT_tt, isaT_ll, isaT_tb, isaT_ti, isaT_it, isaT_bt, isaT_lt, isaT_nt, isaT_st, gLen_l, gLen_t, gOne_l, gTuple_l, gTuple_t, gInt_b, gMin2_e, gMax2_e, fIt_e, items_l, items_t, fItA_e, gEnum_e, gZip_t, gNm0, gNmS, gNil_e, gCons_e, gTp_e, wipe0, wipeS, tYesD_e, sNil_e, sExpr_e, sRet_e, sRaise_e, sIf_e, sAsg_e, asF_e, sFor_e, endF_r, endF_n, endF_x, asO_s, fRg1_e, sFrz_e, gIx_t0, gIx_t1, gIx_t2, gIx_l0, gIx_l1, gIx_l2, Option.map_some, Option.bind_some, List.set_cons_succ, List.set_cons_zero, List.getElem?_cons_succ, List.getElem?_cons_zero, Bool.not_true, Bool.not_false, Bool.false_eq_true, ↓reduceIte, List.length_cons, List.length_nil, List.map_cons, List.map_nil, Nat.reduceAdd, Nat.reduceLeDiff, Nat.reduceLT, Bool.true_and, Bool.and_true, Bool.false_and, Bool.and_false, List.length_map, Nat.zero_le, need_belt_t h]; rfl)]
  rw [sSeq_n (h := by simp only [bnd_ok, bnd_err, then_ok, then_err, fVar0, fVarS, fC_e, fOp_e, fUn_e, asB_e, asI_e, fT_e, fAnd_e, fOr_e, fNot_e, fAndV_e, fOrV_e, fNotV_e, fIf_e, fChain_e, aNil_e, aCons_e, fTup_e, fLst_e, fCall_e, dTup_e, dLst_e, gAdd_i, gSub_i, gNeg_i, gEq_i, gNe_i, gLt_i, gLe_i, gGt_i, gGe_i, gIsN_e, gNotN_e, isN_n, isN_i, isN_t, isN_l, isN_b, gIsi_e, tyD_n, tyD_i, tyD_t, tyD_l, tyD_b, tyD_s, isaT_ii, isaT_bi, isaT_ib, isaT_bb, isaT_tt, isaT_ll, isaT_tb, isaT_ti, isaT_it, isaT_bt, isaT_lt, isaT_nt, isaT_st, gLen_l, gLen_t, gOne_l, gTuple_l, gTuple_t, gInt_b, gMin2_e, gMax2_e, fIt_e, items_l, items_t, fItA_e, gEnum_e, gZip_t, gNm0, gNmS, gNil_e, gCons_e, gTp_e, wipe0, wipeS, tYesD_e, sNil_e, sExpr_e, sRet_e, sRaise_e, sIf_e, sAsg_e, asF_e, sFor_e, endF_r, endF_n, endF_x, asO_s, fRg1_e, sFrz_e, gIx_t0, gIx_t1, gIx_t2, gIx_l0, gIx_l1, gIx_l2, Option.map_some, Option.bind_some, List.set_cons_succ, List.set_cons_zero, List.getElem?_cons_succ, List.getElem?_cons_zero, Bool.not_true, Bool.not_false, Bool.false_eq_true, ↓reduceIte, List.length_cons, List.length_nil, List.map_cons, List.map_nil, Nat.reduceAdd, Nat.reduceLeDiff, Nat.reduceLT, Bool.true_and, Bool.and_true, Bool.false_and, Bool.and_false, List.length_map, Nat.zero_le, need_plan_t h p]; rfl)]
  simp only [bnd_ok, bnd_err, then_ok, then_err, fVar0, fVarS, fC_e, fOp_e, fUn_e, asB_e, asI_e, fT_e, fAnd_e, fOr_e, fNot_e, fAndV_e, fOrV_e, fNotV_e, fIf_e, fChain_e, aNil_e, aCons_e, fTup_e, fLst_e, fCall_e, dTup_e, dLst_e, gAdd_i, gSub_i, gNeg_i, gEq_i, gNe_i, gLt_i, gLe_i, gGt_i, gGe_i, gIsN_e, gNotN_e, isN_n, isN_i, isN_t, isN_l, isN_b, gIsi_e, tyD_n, tyD_i, tyD_t, tyD_l, tyD_b, tyD_s, isaT_ii, isaT_bi, isaT_ib, isaT_bb, isaT_tt, isaT_ll, isaT_tb, isaT_ti, isaT_it, isaT_bt, isaT_lt, isaT_nt, isaT_st, gLen_l, gLen_t, gOne_l, gTuple_l, gTuple_t, gInt_b, gMin2_e, gMax2_e, fIt_e, items_l, items_t, fItA_e, gEnum_e, gZip_t, gNm0, gNmS, gNil_e, gCons_e, gTp_e, wipe0, wipeS, tYesD_e, sNil_e, sExpr_e, sRet_e, sRaise_e, sIf_e, sAsg_e, asF_e, sFor_e, endF_r, endF_n, endF_x, asO_s, fRg1_e, sFrz_e, gIx_t0, gIx_t1, gIx_t2, gIx_l0, gIx_l1, gIx_l2, Option.map_some, Option.bind_some, List.set_cons_succ, List.set_cons_zero, List.getElem?_cons_succ, List.getElem?_cons_zero, Bool.not_true, Bool.not_false, Bool.false_eq_true, ↓reduceIte, List.length_cons, List.length_nil, List.map_cons, List.map_nil, Nat.reduceAdd, Nat.reduceLeDiff, Nat.reduceLT, Bool.true_and, Bool.and_true, Bool.false_and, Bool.and_false, List.length_map, Nat.zero_le, cost_of_e h p]
end Bl
namespace Bl
open PySem L2 Dl
def minL : List Nat → Nat
  | [] => 0
  | x :: xs => xs.foldl min x
theorem fold_cast (x : Nat) : ∀ xs : List Nat, (xs.map fun x : Nat => (x : Int)).foldl min (x : Int) = (xs.foldl min x : Nat) := by
  intro xs
  induction xs generalizing x with
  | nil => rfl
  | cons y ys ih =>
    rw [List.map_cons, List.foldl_cons, List.foldl_cons, ← ih]
    congr 1
    omega
theorem dMin_nat {α : Type} (f : α → Nat) (xs : List α) (h : xs ≠ []) : dMin (xs.map fun x => nD (f x)) = .ok (nD (minL (xs.map f))) := by
  unfold dMin
  rw [asInts_nat]
  cases xs with
  | nil => exact absurd rfl h
  | cons x xs =>
    show R.ok (PyData.int ((xs.map fun x => (f x : Int)).foldl min (f x : Int))) = _
    rw [show (xs.map fun x => (f x : Int)) = (xs.map f).map fun x : Nat => (x : Int) by rw [List.map_map]; rfl, fold_cast]
    rfl
def cLeast (b : Belt) (ss ks : List Nat) : Nat := minL ((List.range b.F.length).map fun f => (cUse b ss ks f).length)
theorem least_seen_e {b : Belt} {ss ks : List Nat} (h : b.Ok) (p : PlanOk b ss ks) : m_least_seen [eB b, eP ss ks] = .ok (nD (cLeast b ss ks)) := by
  have s8 := h.s8; have k3 := h.k3; have f6 := h.f6; have f1 := h.f1
  have l1 := rise_len p.s; have l2 := rise_len p.k
  rw [q_least_seen]
  unfold b_least_seen cLeast
  simp only [bnd_ok, bnd_err, then_ok, then_err, fVar0, fVarS, fC_e, fOp_e, fUn_e, asB_e, asI_e, fT_e, fAnd_e, fOr_e, fNot_e, fAndV_e, fOrV_e, fNotV_e, fIf_e, fChain_e, aNil_e, aCons_e, fTup_e, fLst_e, fCall_e, dTup_e, dLst_e, gAdd_i, gSub_i, gNeg_i, gEq_i, gNe_i, gLt_i, gLe_i, gGt_i, gGe_i, gIsN_e, gNotN_e, isN_n, isN_i, isN_t, isN_l, isN_b, gIsi_e, tyD_n, tyD_i, tyD_t, tyD_l, tyD_b, tyD_s, isaT_ii, isaT_bi, isaT_ib, isaT_bb, isaT_tt, isaT_ll, isaT_tb, isaT_ti, isaT_it, isaT_bt, isaT_lt, isaT_nt, isaT_st, gLen_l, gLen_t, gOne_l, gTuple_l, gTuple_t, gInt_b, gMin2_e, gMax2_e, fIt_e, items_l, items_t, fItA_e, gEnum_e, gZip_t, gNm0, gNmS, gNil_e, gCons_e, gTp_e, wipe0, wipeS, tYesD_e, sNil_e, sExpr_e, sRet_e, sRaise_e, sIf_e, sAsg_e, asF_e, sFor_e, endF_r, endF_n, endF_x, asO_s, fRg1_e, sFrz_e, gIx_t0, gIx_t1, gIx_t2, gIx_l0, gIx_l1, gIx_l2, Option.map_some, Option.bind_some, List.set_cons_succ, List.set_cons_zero, List.getElem?_cons_succ, List.getElem?_cons_zero, Bool.not_true, Bool.not_false, Bool.false_eq_true, ↓reduceIte, List.length_cons, List.length_nil, List.map_cons, List.map_nil, Nat.reduceAdd, Nat.reduceLeDiff, Nat.reduceLT, Bool.true_and, Bool.and_true, Bool.false_and, Bool.and_false, List.length_map, Nat.zero_le]
  rw [fLc_map nD (fun f => nD (cUse b ss ks f).length) (List.range b.F.length) (by simp only [bnd_ok, bnd_err, then_ok, then_err, fVar0, fVarS, fC_e, fOp_e, fUn_e, asB_e, asI_e, fT_e, fAnd_e, fOr_e, fNot_e, fAndV_e, fOrV_e, fNotV_e, fIf_e, fChain_e, aNil_e, aCons_e, fTup_e, fLst_e, fCall_e, dTup_e, dLst_e, gAdd_i, gSub_i, gNeg_i, gEq_i, gNe_i, gLt_i, gLe_i, gGt_i, gGe_i, gIsN_e, gNotN_e, isN_n, isN_i, isN_t, isN_l, isN_b, gIsi_e, tyD_n, tyD_i, tyD_t, tyD_l, tyD_b, tyD_s, isaT_ii, isaT_bi, isaT_ib, isaT_bb, isaT_tt, isaT_ll, isaT_tb, isaT_ti, isaT_it, isaT_bt, isaT_lt, isaT_nt, isaT_st, gLen_l, gLen_t, gOne_l, gTuple_l, gTuple_t, gInt_b, gMin2_e, gMax2_e, fIt_e, items_l, items_t, fItA_e, gEnum_e, gZip_t, gNm0, gNmS, gNil_e, gCons_e, gTp_e, wipe0, wipeS, tYesD_e, sNil_e, sExpr_e, sRet_e, sRaise_e, sIf_e, sAsg_e, asF_e, sFor_e, endF_r, endF_n, endF_x, asO_s, fRg1_e, sFrz_e, gIx_t0, gIx_t1, gIx_t2, gIx_l0, gIx_l1, gIx_l2, Option.map_some, Option.bind_some, List.set_cons_succ, List.set_cons_zero, List.getElem?_cons_succ, List.getElem?_cons_zero, Bool.not_true, Bool.not_false, Bool.false_eq_true, ↓reduceIte, List.length_cons, List.length_nil, List.map_cons, List.map_nil, Nat.reduceAdd, Nat.reduceLeDiff, Nat.reduceLT, Bool.true_and, Bool.and_true, Bool.false_and, Bool.and_false, List.length_map, Nat.zero_le, rng_e b.F.length (by omega)]) (by simp; omega) fun f hf => ?_]
  · simp only [bnd_ok, bnd_err, then_ok, then_err, fVar0, fVarS, fC_e, fOp_e, fUn_e, asB_e, asI_e, fT_e, fAnd_e, fOr_e, fNot_e, fAndV_e, fOrV_e, fNotV_e, fIf_e, fChain_e, aNil_e, aCons_e, fTup_e, fLst_e, fCall_e, dTup_e, dLst_e, gAdd_i, gSub_i, gNeg_i, gEq_i, gNe_i, gLt_i, gLe_i, gGt_i, gGe_i, gIsN_e, gNotN_e, isN_n, isN_i, isN_t, isN_l, isN_b, gIsi_e, tyD_n, tyD_i, tyD_t, tyD_l, tyD_b, tyD_s, isaT_ii, isaT_bi, isaT_ib, isaT_bb, isaT_tt, isaT_ll, isaT_tb, isaT_ti, isaT_it, isaT_bt, isaT_lt, isaT_nt, isaT_st, gLen_l, gLen_t, gOne_l, gTuple_l, gTuple_t, gInt_b, gMin2_e, gMax2_e, fIt_e, items_l, items_t, fItA_e, gEnum_e, gZip_t, gNm0, gNmS, gNil_e, gCons_e, gTp_e, wipe0, wipeS, tYesD_e, sNil_e, sExpr_e, sRet_e, sRaise_e, sIf_e, sAsg_e, asF_e, sFor_e, endF_r, endF_n, endF_x, asO_s, fRg1_e, sFrz_e, gIx_t0, gIx_t1, gIx_t2, gIx_l0, gIx_l1, gIx_l2, Option.map_some, Option.bind_some, List.set_cons_succ, List.set_cons_zero, List.getElem?_cons_succ, List.getElem?_cons_zero, Bool.not_true, Bool.not_false, Bool.false_eq_true, ↓reduceIte, List.length_cons, List.length_nil, List.map_cons, List.map_nil, Nat.reduceAdd, Nat.reduceLeDiff, Nat.reduceLT, Bool.true_and, Bool.and_true, Bool.false_and, Bool.and_false, List.length_map, Nat.zero_le]
    have hne : List.range b.F.length ≠ [] := by
      intro z
      have := congrArg List.length z
      rw [List.length_range] at this
      simp at this
      rw [this] at f1
      simp at f1
    rw [dMin_nat _ _ hne]
    simp only [bnd_ok, bnd_err, then_ok, then_err, fVar0, fVarS, fC_e, fOp_e, fUn_e, asB_e, asI_e, fT_e, fAnd_e, fOr_e, fNot_e, fAndV_e, fOrV_e, fNotV_e, fIf_e, fChain_e, aNil_e, aCons_e, fTup_e, fLst_e, fCall_e, dTup_e, dLst_e, gAdd_i, gSub_i, gNeg_i, gEq_i, gNe_i, gLt_i, gLe_i, gGt_i, gGe_i, gIsN_e, gNotN_e, isN_n, isN_i, isN_t, isN_l, isN_b, gIsi_e, tyD_n, tyD_i, tyD_t, tyD_l, tyD_b, tyD_s, isaT_ii, isaT_bi, isaT_ib, isaT_bb, isaT_tt, isaT_ll, isaT_tb, isaT_ti, isaT_it, isaT_bt, isaT_lt, isaT_nt, isaT_st, gLen_l, gLen_t, gOne_l, gTuple_l, gTuple_t, gInt_b, gMin2_e, gMax2_e, fIt_e, items_l, items_t, fItA_e, gEnum_e, gZip_t, gNm0, gNmS, gNil_e, gCons_e, gTp_e, wipe0, wipeS, tYesD_e, sNil_e, sExpr_e, sRet_e, sRaise_e, sIf_e, sAsg_e, asF_e, sFor_e, endF_r, endF_n, endF_x, asO_s, fRg1_e, sFrz_e, gIx_t0, gIx_t1, gIx_t2, gIx_l0, gIx_l1, gIx_l2, Option.map_some, Option.bind_some, List.set_cons_succ, List.set_cons_zero, List.getElem?_cons_succ, List.getElem?_cons_zero, Bool.not_true, Bool.not_false, Bool.false_eq_true, ↓reduceIte, List.length_cons, List.length_nil, List.map_cons, List.map_nil, Nat.reduceAdd, Nat.reduceLeDiff, Nat.reduceLT, Bool.true_and, Bool.and_true, Bool.false_and, Bool.and_false, List.length_map, Nat.zero_le]
  · have hf := List.mem_range.mp hf
    simp only [lcOne, bnd_ok, bnd_err, then_ok, then_err, fVar0, fVarS, fC_e, fOp_e, fUn_e, asB_e, asI_e, fT_e, fAnd_e, fOr_e, fNot_e, fAndV_e, fOrV_e, fNotV_e, fIf_e, fChain_e, aNil_e, aCons_e, fTup_e, fLst_e, fCall_e, dTup_e, dLst_e, gAdd_i, gSub_i, gNeg_i, gEq_i, gNe_i, gLt_i, gLe_i, gGt_i, gGe_i, gIsN_e, gNotN_e, isN_n, isN_i, isN_t, isN_l, isN_b, gIsi_e, tyD_n, tyD_i, tyD_t, tyD_l, tyD_b, tyD_s, isaT_ii, isaT_bi, isaT_ib, isaT_bb, isaT_tt, isaT_ll, isaT_tb, isaT_ti, isaT_it, isaT_bt, isaT_lt, isaT_nt, isaT_st, gLen_l, gLen_t, gOne_l, gTuple_l, gTuple_t, gInt_b, gMin2_e, gMax2_e, fIt_e, items_l, items_t, fItA_e, gEnum_e, gZip_t, gNm0, gNmS, gNil_e, gCons_e, gTp_e, wipe0, wipeS, tYesD_e, sNil_e, sExpr_e, sRet_e, sRaise_e, sIf_e, sAsg_e, asF_e, sFor_e, endF_r, endF_n, endF_x, asO_s, fRg1_e, sFrz_e, gIx_t0, gIx_t1, gIx_t2, gIx_l0, gIx_l1, gIx_l2, Option.map_some, Option.bind_some, List.set_cons_succ, List.set_cons_zero, List.getElem?_cons_succ, List.getElem?_cons_zero, Bool.not_true, Bool.not_false, Bool.false_eq_true, ↓reduceIte, List.length_cons, List.length_nil, List.map_cons, List.map_nil, Nat.reduceAdd, Nat.reduceLeDiff, Nat.reduceLT, Bool.true_and, Bool.and_true, Bool.false_and, Bool.and_false, List.length_map, Nat.zero_le, useful_e k3 p.s.1 p.k.1 hf (Nat.le_trans l2 (by omega)) (Nat.le_trans l1 (by omega))]
def cBorne (b : Belt) (ss ks : List Nat) : Option Nat := if 0 < cLeast b ss ks then some (cLeast b ss ks - 1) else none
theorem borne_e {b : Belt} {ss ks : List Nat} (h : b.Ok) (p : PlanOk b ss ks) : m_borne [eB b, eP ss ks] = .ok (oN (cBorne b ss ks)) := by
  rw [q_borne]
  unfold b_borne cBorne
  rw [sSeq_n (h := by simp only [bnd_ok, bnd_err, then_ok, then_err, fVar0, fVarS, fC_e, fOp_e, fUn_e, asB_e, asI_e, fT_e, fAnd_e, fOr_e, fNot_e, fAndV_e, fOrV_e, fNotV_e, fIf_e, fChain_e, aNil_e, aCons_e, fTup_e, fLst_e, fCall_e, dTup_e, dLst_e, gAdd_i, gSub_i, gNeg_i, gEq_i, gNe_i, gLt_i, gLe_i, gGt_i, gGe_i, gIsN_e, gNotN_e, isN_n, isN_i, isN_t, isN_l, isN_b, gIsi_e, tyD_n, tyD_i, tyD_t, tyD_l, tyD_b, tyD_s, isaT_ii, isaT_bi, isaT_ib, isaT_bb, isaT_tt, isaT_ll, isaT_tb, isaT_ti, isaT_it, isaT_bt, isaT_lt, isaT_nt, isaT_st, gLen_l, gLen_t, gOne_l, gTuple_l, gTuple_t, gInt_b, gMin2_e, gMax2_e, fIt_e, items_l, items_t, fItA_e, gEnum_e, gZip_t, gNm0, gNmS, gNil_e, gCons_e, gTp_e, wipe0, wipeS, tYesD_e, sNil_e, sExpr_e, sRet_e, sRaise_e, sIf_e, sAsg_e, asF_e, sFor_e, endF_r, endF_n, endF_x, asO_s, fRg1_e, sFrz_e, gIx_t0, gIx_t1, gIx_t2, gIx_l0, gIx_l1, gIx_l2, Option.map_some, Option.bind_some, List.set_cons_succ, List.set_cons_zero, List.getElem?_cons_succ, List.getElem?_cons_zero, Bool.not_true, Bool.not_false, Bool.false_eq_true, ↓reduceIte, List.length_cons, List.length_nil, List.map_cons, List.map_nil, Nat.reduceAdd, Nat.reduceLeDiff, Nat.reduceLT, Bool.true_and, Bool.and_true, Bool.false_and, Bool.and_false, List.length_map, Nat.zero_le, need_belt_t h]; rfl)]
  rw [sSeq_n (h := by simp only [bnd_ok, bnd_err, then_ok, then_err, fVar0, fVarS, fC_e, fOp_e, fUn_e, asB_e, asI_e, fT_e, fAnd_e, fOr_e, fNot_e, fAndV_e, fOrV_e, fNotV_e, fIf_e, fChain_e, aNil_e, aCons_e, fTup_e, fLst_e, fCall_e, dTup_e, dLst_e, gAdd_i, gSub_i, gNeg_i, gEq_i, gNe_i, gLt_i, gLe_i, gGt_i, gGe_i, gIsN_e, gNotN_e, isN_n, isN_i, isN_t, isN_l, isN_b, gIsi_e, tyD_n, tyD_i, tyD_t, tyD_l, tyD_b, tyD_s, isaT_ii, isaT_bi, isaT_ib, isaT_bb, isaT_tt, isaT_ll, isaT_tb, isaT_ti, isaT_it, isaT_bt, isaT_lt, isaT_nt, isaT_st, gLen_l, gLen_t, gOne_l, gTuple_l, gTuple_t, gInt_b, gMin2_e, gMax2_e, fIt_e, items_l, items_t, fItA_e, gEnum_e, gZip_t, gNm0, gNmS, gNil_e, gCons_e, gTp_e, wipe0, wipeS, tYesD_e, sNil_e, sExpr_e, sRet_e, sRaise_e, sIf_e, sAsg_e, asF_e, sFor_e, endF_r, endF_n, endF_x, asO_s, fRg1_e, sFrz_e, gIx_t0, gIx_t1, gIx_t2, gIx_l0, gIx_l1, gIx_l2, Option.map_some, Option.bind_some, List.set_cons_succ, List.set_cons_zero, List.getElem?_cons_succ, List.getElem?_cons_zero, Bool.not_true, Bool.not_false, Bool.false_eq_true, ↓reduceIte, List.length_cons, List.length_nil, List.map_cons, List.map_nil, Nat.reduceAdd, Nat.reduceLeDiff, Nat.reduceLT, Bool.true_and, Bool.and_true, Bool.false_and, Bool.and_false, List.length_map, Nat.zero_le, need_plan_t h p]; rfl)]
  rw [sSeq_n (h := by simp only [bnd_ok, bnd_err, then_ok, then_err, fVar0, fVarS, fC_e, fOp_e, fUn_e, asB_e, asI_e, fT_e, fAnd_e, fOr_e, fNot_e, fAndV_e, fOrV_e, fNotV_e, fIf_e, fChain_e, aNil_e, aCons_e, fTup_e, fLst_e, fCall_e, dTup_e, dLst_e, gAdd_i, gSub_i, gNeg_i, gEq_i, gNe_i, gLt_i, gLe_i, gGt_i, gGe_i, gIsN_e, gNotN_e, isN_n, isN_i, isN_t, isN_l, isN_b, gIsi_e, tyD_n, tyD_i, tyD_t, tyD_l, tyD_b, tyD_s, isaT_ii, isaT_bi, isaT_ib, isaT_bb, isaT_tt, isaT_ll, isaT_tb, isaT_ti, isaT_it, isaT_bt, isaT_lt, isaT_nt, isaT_st, gLen_l, gLen_t, gOne_l, gTuple_l, gTuple_t, gInt_b, gMin2_e, gMax2_e, fIt_e, items_l, items_t, fItA_e, gEnum_e, gZip_t, gNm0, gNmS, gNil_e, gCons_e, gTp_e, wipe0, wipeS, tYesD_e, sNil_e, sExpr_e, sRet_e, sRaise_e, sIf_e, sAsg_e, asF_e, sFor_e, endF_r, endF_n, endF_x, asO_s, fRg1_e, sFrz_e, gIx_t0, gIx_t1, gIx_t2, gIx_l0, gIx_l1, gIx_l2, Option.map_some, Option.bind_some, List.set_cons_succ, List.set_cons_zero, List.getElem?_cons_succ, List.getElem?_cons_zero, Bool.not_true, Bool.not_false, Bool.false_eq_true, ↓reduceIte, List.length_cons, List.length_nil, List.map_cons, List.map_nil, Nat.reduceAdd, Nat.reduceLeDiff, Nat.reduceLT, Bool.true_and, Bool.and_true, Bool.false_and, Bool.and_false, List.length_map, Nat.zero_le, least_seen_e h p]; rfl)]
  by_cases hc : 0 < cLeast b ss ks
  · have : decide ((0 : Int) < (cLeast b ss ks : Int)) = true := by simp; omega
    simp only [bnd_ok, bnd_err, then_ok, then_err, fVar0, fVarS, fC_e, fOp_e, fUn_e, asB_e, asI_e, fT_e, fAnd_e, fOr_e, fNot_e, fAndV_e, fOrV_e, fNotV_e, fIf_e, fChain_e, aNil_e, aCons_e, fTup_e, fLst_e, fCall_e, dTup_e, dLst_e, gAdd_i, gSub_i, gNeg_i, gEq_i, gNe_i, gLt_i, gLe_i, gGt_i, gGe_i, gIsN_e, gNotN_e, isN_n, isN_i, isN_t, isN_l, isN_b, gIsi_e, tyD_n, tyD_i, tyD_t, tyD_l, tyD_b, tyD_s, isaT_ii, isaT_bi, isaT_ib, isaT_bb, isaT_tt, isaT_ll, isaT_tb, isaT_ti, isaT_it, isaT_bt, isaT_lt, isaT_nt, isaT_st, gLen_l, gLen_t, gOne_l, gTuple_l, gTuple_t, gInt_b, gMin2_e, gMax2_e, fIt_e, items_l, items_t, fItA_e, gEnum_e, gZip_t, gNm0, gNmS, gNil_e, gCons_e, gTp_e, wipe0, wipeS, tYesD_e, sNil_e, sExpr_e, sRet_e, sRaise_e, sIf_e, sAsg_e, asF_e, sFor_e, endF_r, endF_n, endF_x, asO_s, fRg1_e, sFrz_e, gIx_t0, gIx_t1, gIx_t2, gIx_l0, gIx_l1, gIx_l2, Option.map_some, Option.bind_some, List.set_cons_succ, List.set_cons_zero, List.getElem?_cons_succ, List.getElem?_cons_zero, Bool.not_true, Bool.not_false, Bool.false_eq_true, ↓reduceIte, List.length_cons, List.length_nil, List.map_cons, List.map_nil, Nat.reduceAdd, Nat.reduceLeDiff, Nat.reduceLT, Bool.true_and, Bool.and_true, Bool.false_and, Bool.and_false, List.length_map, Nat.zero_le, this, if_pos hc, oN]
    congr 2
    omega
  · have : decide ((0 : Int) < (cLeast b ss ks : Int)) = false := by simp; omega
    simp only [bnd_ok, bnd_err, then_ok, then_err, fVar0, fVarS, fC_e, fOp_e, fUn_e, asB_e, asI_e, fT_e, fAnd_e, fOr_e, fNot_e, fAndV_e, fOrV_e, fNotV_e, fIf_e, fChain_e, aNil_e, aCons_e, fTup_e, fLst_e, fCall_e, dTup_e, dLst_e, gAdd_i, gSub_i, gNeg_i, gEq_i, gNe_i, gLt_i, gLe_i, gGt_i, gGe_i, gIsN_e, gNotN_e, isN_n, isN_i, isN_t, isN_l, isN_b, gIsi_e, tyD_n, tyD_i, tyD_t, tyD_l, tyD_b, tyD_s, isaT_ii, isaT_bi, isaT_ib, isaT_bb, isaT_tt, isaT_ll, isaT_tb, isaT_ti, isaT_it, isaT_bt, isaT_lt, isaT_nt, isaT_st, gLen_l, gLen_t, gOne_l, gTuple_l, gTuple_t, gInt_b, gMin2_e, gMax2_e, fIt_e, items_l, items_t, fItA_e, gEnum_e, gZip_t, gNm0, gNmS, gNil_e, gCons_e, gTp_e, wipe0, wipeS, tYesD_e, sNil_e, sExpr_e, sRet_e, sRaise_e, sIf_e, sAsg_e, asF_e, sFor_e, endF_r, endF_n, endF_x, asO_s, fRg1_e, sFrz_e, gIx_t0, gIx_t1, gIx_t2, gIx_l0, gIx_l1, gIx_l2, Option.map_some, Option.bind_some, List.set_cons_succ, List.set_cons_zero, List.getElem?_cons_succ, List.getElem?_cons_zero, Bool.not_true, Bool.not_false, Bool.false_eq_true, ↓reduceIte, List.length_cons, List.length_nil, List.map_cons, List.map_nil, Nat.reduceAdd, Nat.reduceLeDiff, Nat.reduceLT, Bool.true_and, Bool.and_true, Bool.false_and, Bool.and_false, List.length_map, Nat.zero_le, this, if_neg hc, oN]
def cLet1 (b : Belt) (ss ks : List Nat) (c f : Nat) : Option D := if (cUse b ss ks f).length ≤ c then some (.tuple [tN [f], tN (cUse b ss ks f)]) else none
def cLets (b : Belt) (ss ks : List Nat) (c : Nat) : D := ((List.range b.F.length).findSome? (cLet1 b ss ks c)).getD .none
theorem lets_e {b : Belt} {ss ks : List Nat} {c : Nat} (h : b.Ok) (p : PlanOk b ss ks) (hc : c ≤ 8) : m_lets [eB b, eP ss ks, nD c] = .ok (cLets b ss ks c) := by
  have s8 := h.s8; have k3 := h.k3; have f6 := h.f6; have f1 := h.f1
  have l1 := rise_len p.s; have l2 := rise_len p.k
  rw [q_lets]
  unfold b_lets cLets
  rw [sSeq_n (h := by simp only [bnd_ok, bnd_err, then_ok, then_err, fVar0, fVarS, fC_e, fOp_e, fUn_e, asB_e, asI_e, fT_e, fAnd_e, fOr_e, fNot_e, fAndV_e, fOrV_e, fNotV_e, fIf_e, fChain_e, aNil_e, aCons_e, fTup_e, fLst_e, fCall_e, dTup_e, dLst_e, gAdd_i, gSub_i, gNeg_i, gEq_i, gNe_i, gLt_i, gLe_i, gGt_i, gGe_i, gIsN_e, gNotN_e, isN_n, isN_i, isN_t, isN_l, isN_b, gIsi_e, tyD_n, tyD_i, tyD_t, tyD_l, tyD_b, tyD_s, isaT_ii, isaT_bi, isaT_ib, isaT_bb, isaT_tt, isaT_ll, isaT_tb, isaT_ti, isaT_it, isaT_bt, isaT_lt, isaT_nt, isaT_st, gLen_l, gLen_t, gOne_l, gTuple_l, gTuple_t, gInt_b, gMin2_e, gMax2_e, fIt_e, items_l, items_t, fItA_e, gEnum_e, gZip_t, gNm0, gNmS, gNil_e, gCons_e, gTp_e, wipe0, wipeS, tYesD_e, sNil_e, sExpr_e, sRet_e, sRaise_e, sIf_e, sAsg_e, asF_e, sFor_e, endF_r, endF_n, endF_x, asO_s, fRg1_e, sFrz_e, gIx_t0, gIx_t1, gIx_t2, gIx_l0, gIx_l1, gIx_l2, Option.map_some, Option.bind_some, List.set_cons_succ, List.set_cons_zero, List.getElem?_cons_succ, List.getElem?_cons_zero, Bool.not_true, Bool.not_false, Bool.false_eq_true, ↓reduceIte, List.length_cons, List.length_nil, List.map_cons, List.map_nil, Nat.reduceAdd, Nat.reduceLeDiff, Nat.reduceLT, Bool.true_and, Bool.and_true, Bool.false_and, Bool.and_false, List.length_map, Nat.zero_le, need_belt_t h]; rfl)]
  rw [sSeq_n (h := by simp only [bnd_ok, bnd_err, then_ok, then_err, fVar0, fVarS, fC_e, fOp_e, fUn_e, asB_e, asI_e, fT_e, fAnd_e, fOr_e, fNot_e, fAndV_e, fOrV_e, fNotV_e, fIf_e, fChain_e, aNil_e, aCons_e, fTup_e, fLst_e, fCall_e, dTup_e, dLst_e, gAdd_i, gSub_i, gNeg_i, gEq_i, gNe_i, gLt_i, gLe_i, gGt_i, gGe_i, gIsN_e, gNotN_e, isN_n, isN_i, isN_t, isN_l, isN_b, gIsi_e, tyD_n, tyD_i, tyD_t, tyD_l, tyD_b, tyD_s, isaT_ii, isaT_bi, isaT_ib, isaT_bb, isaT_tt, isaT_ll, isaT_tb, isaT_ti, isaT_it, isaT_bt, isaT_lt, isaT_nt, isaT_st, gLen_l, gLen_t, gOne_l, gTuple_l, gTuple_t, gInt_b, gMin2_e, gMax2_e, fIt_e, items_l, items_t, fItA_e, gEnum_e, gZip_t, gNm0, gNmS, gNil_e, gCons_e, gTp_e, wipe0, wipeS, tYesD_e, sNil_e, sExpr_e, sRet_e, sRaise_e, sIf_e, sAsg_e, asF_e, sFor_e, endF_r, endF_n, endF_x, asO_s, fRg1_e, sFrz_e, gIx_t0, gIx_t1, gIx_t2, gIx_l0, gIx_l1, gIx_l2, Option.map_some, Option.bind_some, List.set_cons_succ, List.set_cons_zero, List.getElem?_cons_succ, List.getElem?_cons_zero, Bool.not_true, Bool.not_false, Bool.false_eq_true, ↓reduceIte, List.length_cons, List.length_nil, List.map_cons, List.map_nil, Nat.reduceAdd, Nat.reduceLeDiff, Nat.reduceLT, Bool.true_and, Bool.and_true, Bool.false_and, Bool.and_false, List.length_map, Nat.zero_le, need_plan_t h p]; rfl)]
  rw [sSeq_n (h := by simp only [bnd_ok, bnd_err, then_ok, then_err, fVar0, fVarS, fC_e, fOp_e, fUn_e, asB_e, asI_e, fT_e, fAnd_e, fOr_e, fNot_e, fAndV_e, fOrV_e, fNotV_e, fIf_e, fChain_e, aNil_e, aCons_e, fTup_e, fLst_e, fCall_e, dTup_e, dLst_e, gAdd_i, gSub_i, gNeg_i, gEq_i, gNe_i, gLt_i, gLe_i, gGt_i, gGe_i, gIsN_e, gNotN_e, isN_n, isN_i, isN_t, isN_l, isN_b, gIsi_e, tyD_n, tyD_i, tyD_t, tyD_l, tyD_b, tyD_s, isaT_ii, isaT_bi, isaT_ib, isaT_bb, isaT_tt, isaT_ll, isaT_tb, isaT_ti, isaT_it, isaT_bt, isaT_lt, isaT_nt, isaT_st, gLen_l, gLen_t, gOne_l, gTuple_l, gTuple_t, gInt_b, gMin2_e, gMax2_e, fIt_e, items_l, items_t, fItA_e, gEnum_e, gZip_t, gNm0, gNmS, gNil_e, gCons_e, gTp_e, wipe0, wipeS, tYesD_e, sNil_e, sExpr_e, sRet_e, sRaise_e, sIf_e, sAsg_e, asF_e, sFor_e, endF_r, endF_n, endF_x, asO_s, fRg1_e, sFrz_e, gIx_t0, gIx_t1, gIx_t2, gIx_l0, gIx_l1, gIx_l2, Option.map_some, Option.bind_some, List.set_cons_succ, List.set_cons_zero, List.getElem?_cons_succ, List.getElem?_cons_zero, Bool.not_true, Bool.not_false, Bool.false_eq_true, ↓reduceIte, List.length_cons, List.length_nil, List.map_cons, List.map_nil, Nat.reduceAdd, Nat.reduceLeDiff, Nat.reduceLT, Bool.true_and, Bool.and_true, Bool.false_and, Bool.and_false, List.length_map, Nat.zero_le, need_count_t hc]; rfl)]
  have L := for_find nD (gt := gNm 3) (body := (sSeq (sAsg (fCall m_useful (aCons (fVar 0) (aCons (fOp gIx (fVar 1) (fC (.int 0))) (aCons (fOp gIx (fVar 1) (fC (.int 1))) (aCons (fVar 3) aNil))))) (gNm 4))
    (sIf (fT (fOp gLe (fCall gLen (aCons (fVar 4) aNil)) (fVar 2))) (sRet (fTup (aCons (fTup (aCons (fVar 3) aNil)) (aCons (fCall gTuple (aCons (fVar 4) aNil)) aNil)))) sNil)))
    (fun ρ => ∃ j3 j4, ρ = [.dat (eB b), .dat (eP ss ks), .dat (nD c), j3, j4]) (cLet1 b ss ks c) (List.range b.F.length) (fun f hf ρ ⟨j3, j4, hρ⟩ => by
      subst hρ
      have hf := List.mem_range.mp hf
      unfold cLet1
      by_cases hc : (cUse b ss ks f).length ≤ c
      · rw [if_pos hc]
        have : decide ((((cUse b ss ks f).length : Nat) : Int) ≤ (c : Int)) = true := by simp; omega
        refine forOne_r (by simp only [bnd_ok, bnd_err, then_ok, then_err, fVar0, fVarS, fC_e, fOp_e, fUn_e, asB_e, asI_e, fT_e, fAnd_e, fOr_e, fNot_e, fAndV_e, fOrV_e, fNotV_e, fIf_e, fChain_e, aNil_e, aCons_e, fTup_e, fLst_e, fCall_e, dTup_e, dLst_e, gAdd_i, gSub_i, gNeg_i, gEq_i, gNe_i, gLt_i, gLe_i, gGt_i, gGe_i, gIsN_e, gNotN_e, isN_n, isN_i, isN_t, isN_l, isN_b, gIsi_e, tyD_n, tyD_i, tyD_t, tyD_l, tyD_b, tyD_s, isaT_ii, isaT_bi, isaT_ib, isaT_bb, isaT_tt, isaT_ll, isaT_tb, isaT_ti, isaT_it, isaT_bt, isaT_lt, isaT_nt, isaT_st, gLen_l, gLen_t, gOne_l, gTuple_l, gTuple_t, gInt_b, gMin2_e, gMax2_e, fIt_e, items_l, items_t, fItA_e, gEnum_e, gZip_t, gNm0, gNmS, gNil_e, gCons_e, gTp_e, wipe0, wipeS, tYesD_e, sNil_e, sExpr_e, sRet_e, sRaise_e, sIf_e, sAsg_e, asF_e, sFor_e, endF_r, endF_n, endF_x, asO_s, fRg1_e, sFrz_e, gIx_t0, gIx_t1, gIx_t2, gIx_l0, gIx_l1, gIx_l2, Option.map_some, Option.bind_some, List.set_cons_succ, List.set_cons_zero, List.getElem?_cons_succ, List.getElem?_cons_zero, Bool.not_true, Bool.not_false, Bool.false_eq_true, ↓reduceIte, List.length_cons, List.length_nil, List.map_cons, List.map_nil, Nat.reduceAdd, Nat.reduceLeDiff, Nat.reduceLT, Bool.true_and, Bool.and_true, Bool.false_and, Bool.and_false, List.length_map, Nat.zero_le]; rfl) ?_
        rw [sSeq_n (h := by simp only [bnd_ok, bnd_err, then_ok, then_err, fVar0, fVarS, fC_e, fOp_e, fUn_e, asB_e, asI_e, fT_e, fAnd_e, fOr_e, fNot_e, fAndV_e, fOrV_e, fNotV_e, fIf_e, fChain_e, aNil_e, aCons_e, fTup_e, fLst_e, fCall_e, dTup_e, dLst_e, gAdd_i, gSub_i, gNeg_i, gEq_i, gNe_i, gLt_i, gLe_i, gGt_i, gGe_i, gIsN_e, gNotN_e, isN_n, isN_i, isN_t, isN_l, isN_b, gIsi_e, tyD_n, tyD_i, tyD_t, tyD_l, tyD_b, tyD_s, isaT_ii, isaT_bi, isaT_ib, isaT_bb, isaT_tt, isaT_ll, isaT_tb, isaT_ti, isaT_it, isaT_bt, isaT_lt, isaT_nt, isaT_st, gLen_l, gLen_t, gOne_l, gTuple_l, gTuple_t, gInt_b, gMin2_e, gMax2_e, fIt_e, items_l, items_t, fItA_e, gEnum_e, gZip_t, gNm0, gNmS, gNil_e, gCons_e, gTp_e, wipe0, wipeS, tYesD_e, sNil_e, sExpr_e, sRet_e, sRaise_e, sIf_e, sAsg_e, asF_e, sFor_e, endF_r, endF_n, endF_x, asO_s, fRg1_e, sFrz_e, gIx_t0, gIx_t1, gIx_t2, gIx_l0, gIx_l1, gIx_l2, Option.map_some, Option.bind_some, List.set_cons_succ, List.set_cons_zero, List.getElem?_cons_succ, List.getElem?_cons_zero, Bool.not_true, Bool.not_false, Bool.false_eq_true, ↓reduceIte, List.length_cons, List.length_nil, List.map_cons, List.map_nil, Nat.reduceAdd, Nat.reduceLeDiff, Nat.reduceLT, Bool.true_and, Bool.and_true, Bool.false_and, Bool.and_false, List.length_map, Nat.zero_le, useful_e k3 p.s.1 p.k.1 hf (Nat.le_trans l2 (by omega)) (Nat.le_trans l1 (by omega))]; rfl)]
        simp only [bnd_ok, bnd_err, then_ok, then_err, fVar0, fVarS, fC_e, fOp_e, fUn_e, asB_e, asI_e, fT_e, fAnd_e, fOr_e, fNot_e, fAndV_e, fOrV_e, fNotV_e, fIf_e, fChain_e, aNil_e, aCons_e, fTup_e, fLst_e, fCall_e, dTup_e, dLst_e, gAdd_i, gSub_i, gNeg_i, gEq_i, gNe_i, gLt_i, gLe_i, gGt_i, gGe_i, gIsN_e, gNotN_e, isN_n, isN_i, isN_t, isN_l, isN_b, gIsi_e, tyD_n, tyD_i, tyD_t, tyD_l, tyD_b, tyD_s, isaT_ii, isaT_bi, isaT_ib, isaT_bb, isaT_tt, isaT_ll, isaT_tb, isaT_ti, isaT_it, isaT_bt, isaT_lt, isaT_nt, isaT_st, gLen_l, gLen_t, gOne_l, gTuple_l, gTuple_t, gInt_b, gMin2_e, gMax2_e, fIt_e, items_l, items_t, fItA_e, gEnum_e, gZip_t, gNm0, gNmS, gNil_e, gCons_e, gTp_e, wipe0, wipeS, tYesD_e, sNil_e, sExpr_e, sRet_e, sRaise_e, sIf_e, sAsg_e, asF_e, sFor_e, endF_r, endF_n, endF_x, asO_s, fRg1_e, sFrz_e, gIx_t0, gIx_t1, gIx_t2, gIx_l0, gIx_l1, gIx_l2, Option.map_some, Option.bind_some, List.set_cons_succ, List.set_cons_zero, List.getElem?_cons_succ, List.getElem?_cons_zero, Bool.not_true, Bool.not_false, Bool.false_eq_true, ↓reduceIte, List.length_cons, List.length_nil, List.map_cons, List.map_nil, Nat.reduceAdd, Nat.reduceLeDiff, Nat.reduceLT, Bool.true_and, Bool.and_true, Bool.false_and, Bool.and_false, List.length_map, Nat.zero_le, this]
        simp
      · rw [if_neg hc]
        have : decide ((((cUse b ss ks f).length : Nat) : Int) ≤ (c : Int)) = false := by simp; omega
        refine ⟨_, forOne_n (by simp only [bnd_ok, bnd_err, then_ok, then_err, fVar0, fVarS, fC_e, fOp_e, fUn_e, asB_e, asI_e, fT_e, fAnd_e, fOr_e, fNot_e, fAndV_e, fOrV_e, fNotV_e, fIf_e, fChain_e, aNil_e, aCons_e, fTup_e, fLst_e, fCall_e, dTup_e, dLst_e, gAdd_i, gSub_i, gNeg_i, gEq_i, gNe_i, gLt_i, gLe_i, gGt_i, gGe_i, gIsN_e, gNotN_e, isN_n, isN_i, isN_t, isN_l, isN_b, gIsi_e, tyD_n, tyD_i, tyD_t, tyD_l, tyD_b, tyD_s, isaT_ii, isaT_bi, isaT_ib, isaT_bb, isaT_tt, isaT_ll, isaT_tb, isaT_ti, isaT_it, isaT_bt, isaT_lt, isaT_nt, isaT_st, gLen_l, gLen_t, gOne_l, gTuple_l, gTuple_t, gInt_b, gMin2_e, gMax2_e, fIt_e, items_l, items_t, fItA_e, gEnum_e, gZip_t, gNm0, gNmS, gNil_e, gCons_e, gTp_e, wipe0, wipeS, tYesD_e, sNil_e, sExpr_e, sRet_e, sRaise_e, sIf_e, sAsg_e, asF_e, sFor_e, endF_r, endF_n, endF_x, asO_s, fRg1_e, sFrz_e, gIx_t0, gIx_t1, gIx_t2, gIx_l0, gIx_l1, gIx_l2, Option.map_some, Option.bind_some, List.set_cons_succ, List.set_cons_zero, List.getElem?_cons_succ, List.getElem?_cons_zero, Bool.not_true, Bool.not_false, Bool.false_eq_true, ↓reduceIte, List.length_cons, List.length_nil, List.map_cons, List.map_nil, Nat.reduceAdd, Nat.reduceLeDiff, Nat.reduceLT, Bool.true_and, Bool.and_true, Bool.false_and, Bool.and_false, List.length_map, Nat.zero_le]; rfl) ?_, .dat (nD f), .dat (lN (cUse b ss ks f)), rfl⟩
        rw [sSeq_n (h := by simp only [bnd_ok, bnd_err, then_ok, then_err, fVar0, fVarS, fC_e, fOp_e, fUn_e, asB_e, asI_e, fT_e, fAnd_e, fOr_e, fNot_e, fAndV_e, fOrV_e, fNotV_e, fIf_e, fChain_e, aNil_e, aCons_e, fTup_e, fLst_e, fCall_e, dTup_e, dLst_e, gAdd_i, gSub_i, gNeg_i, gEq_i, gNe_i, gLt_i, gLe_i, gGt_i, gGe_i, gIsN_e, gNotN_e, isN_n, isN_i, isN_t, isN_l, isN_b, gIsi_e, tyD_n, tyD_i, tyD_t, tyD_l, tyD_b, tyD_s, isaT_ii, isaT_bi, isaT_ib, isaT_bb, isaT_tt, isaT_ll, isaT_tb, isaT_ti, isaT_it, isaT_bt, isaT_lt, isaT_nt, isaT_st, gLen_l, gLen_t, gOne_l, gTuple_l, gTuple_t, gInt_b, gMin2_e, gMax2_e, fIt_e, items_l, items_t, fItA_e, gEnum_e, gZip_t, gNm0, gNmS, gNil_e, gCons_e, gTp_e, wipe0, wipeS, tYesD_e, sNil_e, sExpr_e, sRet_e, sRaise_e, sIf_e, sAsg_e, asF_e, sFor_e, endF_r, endF_n, endF_x, asO_s, fRg1_e, sFrz_e, gIx_t0, gIx_t1, gIx_t2, gIx_l0, gIx_l1, gIx_l2, Option.map_some, Option.bind_some, List.set_cons_succ, List.set_cons_zero, List.getElem?_cons_succ, List.getElem?_cons_zero, Bool.not_true, Bool.not_false, Bool.false_eq_true, ↓reduceIte, List.length_cons, List.length_nil, List.map_cons, List.map_nil, Nat.reduceAdd, Nat.reduceLeDiff, Nat.reduceLT, Bool.true_and, Bool.and_true, Bool.false_and, Bool.and_false, List.length_map, Nat.zero_le, useful_e k3 p.s.1 p.k.1 hf (Nat.le_trans l2 (by omega)) (Nat.le_trans l1 (by omega))]; rfl)]
        simp only [bnd_ok, bnd_err, then_ok, then_err, fVar0, fVarS, fC_e, fOp_e, fUn_e, asB_e, asI_e, fT_e, fAnd_e, fOr_e, fNot_e, fAndV_e, fOrV_e, fNotV_e, fIf_e, fChain_e, aNil_e, aCons_e, fTup_e, fLst_e, fCall_e, dTup_e, dLst_e, gAdd_i, gSub_i, gNeg_i, gEq_i, gNe_i, gLt_i, gLe_i, gGt_i, gGe_i, gIsN_e, gNotN_e, isN_n, isN_i, isN_t, isN_l, isN_b, gIsi_e, tyD_n, tyD_i, tyD_t, tyD_l, tyD_b, tyD_s, isaT_ii, isaT_bi, isaT_ib, isaT_bb, isaT_tt, isaT_ll, isaT_tb, isaT_ti, isaT_it, isaT_bt, isaT_lt, isaT_nt, isaT_st, gLen_l, gLen_t, gOne_l, gTuple_l, gTuple_t, gInt_b, gMin2_e, gMax2_e, fIt_e, items_l, items_t, fItA_e, gEnum_e, gZip_t, gNm0, gNmS, gNil_e, gCons_e, gTp_e, wipe0, wipeS, tYesD_e, sNil_e, sExpr_e, sRet_e, sRaise_e, sIf_e, sAsg_e, asF_e, sFor_e, endF_r, endF_n, endF_x, asO_s, fRg1_e, sFrz_e, gIx_t0, gIx_t1, gIx_t2, gIx_l0, gIx_l1, gIx_l2, Option.map_some, Option.bind_some, List.set_cons_succ, List.set_cons_zero, List.getElem?_cons_succ, List.getElem?_cons_zero, Bool.not_true, Bool.not_false, Bool.false_eq_true, ↓reduceIte, List.length_cons, List.length_nil, List.map_cons, List.map_nil, Nat.reduceAdd, Nat.reduceLeDiff, Nat.reduceLT, Bool.true_and, Bool.and_true, Bool.false_and, Bool.and_false, List.length_map, Nat.zero_le, this]) (ρ := [.dat (eB b), .dat (eP ss ks), .dat (nD c), .non, .non]) ⟨_, _, rfl⟩
  cases hx : (List.range b.F.length).findSome? (cLet1 b ss ks c) with
  | some d =>
    rw [hx] at L
    have L : forLoop _ _ _ _ = .ret d := L
    rw [sSeq_r (d := d) (h := by simp only [bnd_ok, bnd_err, then_ok, then_err, fVar0, fVarS, fC_e, fOp_e, fUn_e, asB_e, asI_e, fT_e, fAnd_e, fOr_e, fNot_e, fAndV_e, fOrV_e, fNotV_e, fIf_e, fChain_e, aNil_e, aCons_e, fTup_e, fLst_e, fCall_e, dTup_e, dLst_e, gAdd_i, gSub_i, gNeg_i, gEq_i, gNe_i, gLt_i, gLe_i, gGt_i, gGe_i, gIsN_e, gNotN_e, isN_n, isN_i, isN_t, isN_l, isN_b, gIsi_e, tyD_n, tyD_i, tyD_t, tyD_l, tyD_b, tyD_s, isaT_ii, isaT_bi, isaT_ib, isaT_bb, isaT_tt, isaT_ll, isaT_tb, isaT_ti, isaT_it, isaT_bt, isaT_lt, isaT_nt, isaT_st, gLen_l, gLen_t, gOne_l, gTuple_l, gTuple_t, gInt_b, gMin2_e, gMax2_e, fIt_e, items_l, items_t, fItA_e, gEnum_e, gZip_t, gNm0, gNmS, gNil_e, gCons_e, gTp_e, wipe0, wipeS, tYesD_e, sNil_e, sExpr_e, sRet_e, sRaise_e, sIf_e, sAsg_e, asF_e, sFor_e, endF_r, endF_n, endF_x, asO_s, fRg1_e, sFrz_e, gIx_t0, gIx_t1, gIx_t2, gIx_l0, gIx_l1, gIx_l2, Option.map_some, Option.bind_some, List.set_cons_succ, List.set_cons_zero, List.getElem?_cons_succ, List.getElem?_cons_zero, Bool.not_true, Bool.not_false, Bool.false_eq_true, ↓reduceIte, List.length_cons, List.length_nil, List.map_cons, List.map_nil, Nat.reduceAdd, Nat.reduceLeDiff, Nat.reduceLT, Bool.true_and, Bool.and_true, Bool.false_and, Bool.and_false, List.length_map, Nat.zero_le, rng_e b.F.length (by omega)]; exact L)]
    rfl
  | none =>
    rw [hx] at L
    obtain ⟨ρ', L, j3, j4, rfl⟩ := L
    rw [sSeq_n (h := by simp only [bnd_ok, bnd_err, then_ok, then_err, fVar0, fVarS, fC_e, fOp_e, fUn_e, asB_e, asI_e, fT_e, fAnd_e, fOr_e, fNot_e, fAndV_e, fOrV_e, fNotV_e, fIf_e, fChain_e, aNil_e, aCons_e, fTup_e, fLst_e, fCall_e, dTup_e, dLst_e, gAdd_i, gSub_i, gNeg_i, gEq_i, gNe_i, gLt_i, gLe_i, gGt_i, gGe_i, gIsN_e, gNotN_e, isN_n, isN_i, isN_t, isN_l, isN_b, gIsi_e, tyD_n, tyD_i, tyD_t, tyD_l, tyD_b, tyD_s, isaT_ii, isaT_bi, isaT_ib, isaT_bb, isaT_tt, isaT_ll, isaT_tb, isaT_ti, isaT_it, isaT_bt, isaT_lt, isaT_nt, isaT_st, gLen_l, gLen_t, gOne_l, gTuple_l, gTuple_t, gInt_b, gMin2_e, gMax2_e, fIt_e, items_l, items_t, fItA_e, gEnum_e, gZip_t, gNm0, gNmS, gNil_e, gCons_e, gTp_e, wipe0, wipeS, tYesD_e, sNil_e, sExpr_e, sRet_e, sRaise_e, sIf_e, sAsg_e, asF_e, sFor_e, endF_r, endF_n, endF_x, asO_s, fRg1_e, sFrz_e, gIx_t0, gIx_t1, gIx_t2, gIx_l0, gIx_l1, gIx_l2, Option.map_some, Option.bind_some, List.set_cons_succ, List.set_cons_zero, List.getElem?_cons_succ, List.getElem?_cons_zero, Bool.not_true, Bool.not_false, Bool.false_eq_true, ↓reduceIte, List.length_cons, List.length_nil, List.map_cons, List.map_nil, Nat.reduceAdd, Nat.reduceLeDiff, Nat.reduceLT, Bool.true_and, Bool.and_true, Bool.false_and, Bool.and_false, List.length_map, Nat.zero_le, rng_e b.F.length (by omega)]; exact L)]
    simp only [bnd_ok, bnd_err, then_ok, then_err, fVar0, fVarS, fC_e, fOp_e, fUn_e, asB_e, asI_e, fT_e, fAnd_e, fOr_e, fNot_e, fAndV_e, fOrV_e, fNotV_e, fIf_e, fChain_e, aNil_e, aCons_e, fTup_e, fLst_e, fCall_e, dTup_e, dLst_e, gAdd_i, gSub_i, gNeg_i, gEq_i, gNe_i, gLt_i, gLe_i, gGt_i, gGe_i, gIsN_e, gNotN_e, isN_n, isN_i, isN_t, isN_l, isN_b, gIsi_e, tyD_n, tyD_i, tyD_t, tyD_l, tyD_b, tyD_s, isaT_ii, isaT_bi, isaT_ib, isaT_bb, isaT_tt, isaT_ll, isaT_tb, isaT_ti, isaT_it, isaT_bt, isaT_lt, isaT_nt, isaT_st, gLen_l, gLen_t, gOne_l, gTuple_l, gTuple_t, gInt_b, gMin2_e, gMax2_e, fIt_e, items_l, items_t, fItA_e, gEnum_e, gZip_t, gNm0, gNmS, gNil_e, gCons_e, gTp_e, wipe0, wipeS, tYesD_e, sNil_e, sExpr_e, sRet_e, sRaise_e, sIf_e, sAsg_e, asF_e, sFor_e, endF_r, endF_n, endF_x, asO_s, fRg1_e, sFrz_e, gIx_t0, gIx_t1, gIx_t2, gIx_l0, gIx_l1, gIx_l2, Option.map_some, Option.bind_some, List.set_cons_succ, List.set_cons_zero, List.getElem?_cons_succ, List.getElem?_cons_zero, Bool.not_true, Bool.not_false, Bool.false_eq_true, ↓reduceIte, List.length_cons, List.length_nil, List.map_cons, List.map_nil, Nat.reduceAdd, Nat.reduceLeDiff, Nat.reduceLT, Bool.true_and, Bool.and_true, Bool.false_and, Bool.and_false, List.length_map, Nat.zero_le]
    rfl
end Bl
namespace Bl
open PySem L2 Dl
theorem fd (i j : Int) (h : (decide (0 < j) && decide (j ≤ 18446744073709551616)) = true) : gFdiv (.int i) (.int j) = .ok (.int (i / j)) := by
  simp only [Bool.and_eq_true, decide_eq_true_eq] at h
  refine gFdiv_i i j h.1 (Nat.lt_of_le_of_lt (m := 18446744073709551616) (by omega) (by decide))
theorem md (i j : Int) (h : decide (0 < j) = true) : gMod (.int i) (.int j) = .ok (.int (i % j)) := gMod_i i j (of_decide_eq_true h)
theorem small64 {i : Int} (h : i.natAbs < 18446744073709551616) : i.natAbs < 2 ^ 64 := Nat.lt_of_lt_of_le h (by decide)
theorem mulR (i j : Int) (h : decide (j.natAbs < 18446744073709551616) = true) : gMul (.int i) (.int j) = .ok (.int (i * j)) := gMul_i i j (.inl (.inr (small64 (of_decide_eq_true h))))
theorem mulL (i j : Int) (h : i.natAbs < 18446744073709551616) : gMul (.int i) (.int j) = .ok (.int (i * j)) := gMul_i i j (.inl (.inl (small64 h)))
theorem mulB (i j : Int) (hi : 0 ≤ i) (hi' : i < 2 ^ 999) (hj : 0 ≤ j) (hj' : j < 2 ^ 999) : gMul (.int i) (.int j) = .ok (.int (i * j)) := by
  refine gMul_i i j (.inr ⟨?_, ?_⟩)
  · have : (i.natAbs : Int) < ((2 ^ 1000 : Nat) : Int) := by rw [Int.natAbs_of_nonneg hi]; exact Int.lt_of_lt_of_le hi' (by decide +kernel)
    exact Int.ofNat_lt.mp this
  · have : (j.natAbs : Int) < ((2 ^ 1000 : Nat) : Int) := by rw [Int.natAbs_of_nonneg hj]; exact Int.lt_of_lt_of_le hj' (by decide +kernel)
    exact Int.ofNat_lt.mp this
def dr1 (c k : Int) : Int := (c * 6364136223846793005 + (k + 1) * 1442695040888963407) % 340282366920938463463374607431768211507
def dr2 (a : Int) : Int := a * a % 340282366920938463463374607431768211297
def drawn (c k : Int) : Int := ((dr2 (dr1 c k) % 18446744073709551557 + 1) * (dr2 (dr1 c k) / 18446744073709551557 + 1) * dr2 (dr1 c k)) % 340282366920938463463374607431768211507
theorem drawn_nonneg (c k : Int) : 0 ≤ drawn c k := Int.emod_nonneg _ (by decide)
theorem drawn_e (c k : Int) : m_law_drawn [.int c, .int k] = .ok (.int (drawn c k)) := by
  rw [q_law_drawn]
  unfold b_law_drawn
  have a0 : 0 ≤ dr1 c k := Int.emod_nonneg _ (by decide)
  have a1 : dr1 c k < 340282366920938463463374607431768211507 := Int.emod_lt_of_pos _ (by decide)
  have b0 : 0 ≤ dr2 (dr1 c k) := Int.emod_nonneg _ (by decide)
  have b1 : dr2 (dr1 c k) < 340282366920938463463374607431768211297 := Int.emod_lt_of_pos _ (by decide)
  rw [sSeq_n (h := by
    simp only [bnd_ok, bnd_err, then_ok, then_err, fVar0, fVarS, fC_e, fOp_e, fUn_e, asB_e, asI_e, fT_e, fAnd_e, fOr_e, fNot_e, fAndV_e, fOrV_e, fNotV_e, fIf_e, fChain_e, aNil_e, aCons_e, fTup_e, fLst_e, fCall_e, dTup_e, dLst_e, gAdd_i, gSub_i, gNeg_i, gEq_i, gNe_i, gLt_i, gLe_i, gGt_i, gGe_i, gIsN_e, gNotN_e, isN_n, isN_i, isN_t, isN_l, isN_b, gIsi_e, tyD_n, tyD_i, tyD_t, tyD_l, tyD_b, tyD_s, isaT_ii, isaT_bi, isaT_ib, isaT_bb, isaT_tt, isaT_ll, isaT_tb, isaT_ti, isaT_it, isaT_bt, isaT_lt, isaT_nt, isaT_st, gLen_l, gLen_t, gOne_l, gTuple_l, gTuple_t, gInt_b, gMin2_e, gMax2_e, fIt_e, items_l, items_t, fItA_e, gEnum_e, gZip_t, gNm0, gNmS, gNil_e, gCons_e, gTp_e, wipe0, wipeS, tYesD_e, sNil_e, sExpr_e, sRet_e, sRaise_e, sIf_e, sAsg_e, asF_e, sFor_e, endF_r, endF_n, endF_x, asO_s, fRg1_e, sFrz_e, gIx_t0, gIx_t1, gIx_t2, gIx_l0, gIx_l1, gIx_l2, Option.map_some, Option.bind_some, List.set_cons_succ, List.set_cons_zero, List.getElem?_cons_succ, List.getElem?_cons_zero, Bool.not_true, Bool.not_false, Bool.false_eq_true, ↓reduceIte, List.length_cons, List.length_nil, List.map_cons, List.map_nil, Nat.reduceAdd, Nat.reduceLeDiff, Nat.reduceLT, Bool.true_and, Bool.and_true, Bool.false_and, Bool.and_false, List.length_map, Nat.zero_le, mulR _ 6364136223846793005 rfl, mulR _ 1442695040888963407 rfl, md _ 340282366920938463463374607431768211507 rfl]
    rfl)]
  change endF (sSeq _ _ [_, _, .dat (.int (dr1 c k))]) = _
  rw [sSeq_n (h := by
    simp only [bnd_ok, bnd_err, then_ok, then_err, fVar0, fVarS, fC_e, fOp_e, fUn_e, asB_e, asI_e, fT_e, fAnd_e, fOr_e, fNot_e, fAndV_e, fOrV_e, fNotV_e, fIf_e, fChain_e, aNil_e, aCons_e, fTup_e, fLst_e, fCall_e, dTup_e, dLst_e, gAdd_i, gSub_i, gNeg_i, gEq_i, gNe_i, gLt_i, gLe_i, gGt_i, gGe_i, gIsN_e, gNotN_e, isN_n, isN_i, isN_t, isN_l, isN_b, gIsi_e, tyD_n, tyD_i, tyD_t, tyD_l, tyD_b, tyD_s, isaT_ii, isaT_bi, isaT_ib, isaT_bb, isaT_tt, isaT_ll, isaT_tb, isaT_ti, isaT_it, isaT_bt, isaT_lt, isaT_nt, isaT_st, gLen_l, gLen_t, gOne_l, gTuple_l, gTuple_t, gInt_b, gMin2_e, gMax2_e, fIt_e, items_l, items_t, fItA_e, gEnum_e, gZip_t, gNm0, gNmS, gNil_e, gCons_e, gTp_e, wipe0, wipeS, tYesD_e, sNil_e, sExpr_e, sRet_e, sRaise_e, sIf_e, sAsg_e, asF_e, sFor_e, endF_r, endF_n, endF_x, asO_s, fRg1_e, sFrz_e, gIx_t0, gIx_t1, gIx_t2, gIx_l0, gIx_l1, gIx_l2, Option.map_some, Option.bind_some, List.set_cons_succ, List.set_cons_zero, List.getElem?_cons_succ, List.getElem?_cons_zero, Bool.not_true, Bool.not_false, Bool.false_eq_true, ↓reduceIte, List.length_cons, List.length_nil, List.map_cons, List.map_nil, Nat.reduceAdd, Nat.reduceLeDiff, Nat.reduceLT, Bool.true_and, Bool.and_true, Bool.false_and, Bool.and_false, List.length_map, Nat.zero_le, mulB _ _ a0 (Int.lt_of_lt_of_le a1 (by decide +kernel)) a0 (Int.lt_of_lt_of_le a1 (by decide +kernel)), md _ 340282366920938463463374607431768211297 rfl]
    rfl)]
  change endF (sSeq _ _ [_, _, .dat (.int (dr2 (dr1 c k)))]) = _
  unfold drawn
  revert b0 b1
  generalize dr2 (dr1 c k) = m
  intro b0 b1
  have c1 : 0 ≤ m % 18446744073709551557 + 1 := by omega
  have c2 : m % 18446744073709551557 + 1 ≤ 18446744073709551557 := by omega
  have c3 : 0 ≤ m / 18446744073709551557 + 1 := by omega
  have c4 : m / 18446744073709551557 + 1 ≤ 36893488147419103232 := by omega
  have c5 : 0 ≤ (m % 18446744073709551557 + 1) * (m / 18446744073709551557 + 1) := Int.mul_nonneg c1 c3
  have c6 : (m % 18446744073709551557 + 1) * (m / 18446744073709551557 + 1) ≤ 18446744073709551557 * 36893488147419103232 := Int.mul_le_mul c2 c4 c3 (by decide)
  rw [sSeq_n (h := by
    simp only [bnd_ok, bnd_err, then_ok, then_err, fVar0, fVarS, fC_e, fOp_e, fUn_e, asB_e, asI_e, fT_e, fAnd_e, fOr_e, fNot_e, fAndV_e, fOrV_e, fNotV_e, fIf_e, fChain_e, aNil_e, aCons_e, fTup_e, fLst_e, fCall_e, dTup_e, dLst_e, gAdd_i, gSub_i, gNeg_i, gEq_i, gNe_i, gLt_i, gLe_i, gGt_i, gGe_i, gIsN_e, gNotN_e, isN_n, isN_i, isN_t, isN_l, isN_b, gIsi_e, tyD_n, tyD_i, tyD_t, tyD_l, tyD_b, tyD_s, isaT_ii, isaT_bi, isaT_ib, isaT_bb, isaT_tt, isaT_ll, isaT_tb, isaT_ti, isaT_it, isaT_bt, isaT_lt, isaT_nt, isaT_st, gLen_l, gLen_t, gOne_l, gTuple_l, gTuple_t, gInt_b, gMin2_e, gMax2_e, fIt_e, items_l, items_t, fItA_e, gEnum_e, gZip_t, gNm0, gNmS, gNil_e, gCons_e, gTp_e, wipe0, wipeS, tYesD_e, sNil_e, sExpr_e, sRet_e, sRaise_e, sIf_e, sAsg_e, asF_e, sFor_e, endF_r, endF_n, endF_x, asO_s, fRg1_e, sFrz_e, gIx_t0, gIx_t1, gIx_t2, gIx_l0, gIx_l1, gIx_l2, Option.map_some, Option.bind_some, List.set_cons_succ, List.set_cons_zero, List.getElem?_cons_succ, List.getElem?_cons_zero, Bool.not_true, Bool.not_false, Bool.false_eq_true, ↓reduceIte, List.length_cons, List.length_nil, List.map_cons, List.map_nil, Nat.reduceAdd, Nat.reduceLeDiff, Nat.reduceLT, Bool.true_and, Bool.and_true, Bool.false_and, Bool.and_false, List.length_map, Nat.zero_le, md _ 18446744073709551557 rfl, fd _ 18446744073709551557 rfl, mulL _ _ (show (m % 18446744073709551557 + 1).natAbs < 18446744073709551616 by omega), mulB _ _ c5 (Int.lt_of_le_of_lt c6 (by decide +kernel)) b0 (Int.lt_of_lt_of_le b1 (by decide +kernel))]
    rfl)]
  simp only [bnd_ok, bnd_err, then_ok, then_err, fVar0, fVarS, fC_e, fOp_e, fUn_e, asB_e, asI_e, fT_e, fAnd_e, fOr_e, fNot_e, fAndV_e, fOrV_e, fNotV_e, fIf_e, fChain_e, aNil_e, aCons_e, fTup_e, fLst_e, fCall_e, dTup_e, dLst_e, gAdd_i, gSub_i, gNeg_i, gEq_i, gNe_i, gLt_i, gLe_i, gGt_i, gGe_i, gIsN_e, gNotN_e, isN_n, isN_i, isN_t, isN_l, isN_b, gIsi_e, tyD_n, tyD_i, tyD_t, tyD_l, tyD_b, tyD_s, isaT_ii, isaT_bi, isaT_ib, isaT_bb, isaT_tt, isaT_ll, isaT_tb, isaT_ti, isaT_it, isaT_bt, isaT_lt, isaT_nt, isaT_st, gLen_l, gLen_t, gOne_l, gTuple_l, gTuple_t, gInt_b, gMin2_e, gMax2_e, fIt_e, items_l, items_t, fItA_e, gEnum_e, gZip_t, gNm0, gNmS, gNil_e, gCons_e, gTp_e, wipe0, wipeS, tYesD_e, sNil_e, sExpr_e, sRet_e, sRaise_e, sIf_e, sAsg_e, asF_e, sFor_e, endF_r, endF_n, endF_x, asO_s, fRg1_e, sFrz_e, gIx_t0, gIx_t1, gIx_t2, gIx_l0, gIx_l1, gIx_l2, Option.map_some, Option.bind_some, List.set_cons_succ, List.set_cons_zero, List.getElem?_cons_succ, List.getElem?_cons_zero, Bool.not_true, Bool.not_false, Bool.false_eq_true, ↓reduceIte, List.length_cons, List.length_nil, List.map_cons, List.map_nil, Nat.reduceAdd, Nat.reduceLeDiff, Nat.reduceLT, Bool.true_and, Bool.and_true, Bool.false_and, Bool.and_false, List.length_map, Nat.zero_le, md _ 340282366920938463463374607431768211507 rfl]
theorem cell_e (ns : List Int) (k : Nat) (hl : ns.length ≤ 63) : ∃ c, m_law_cell [.list (ns.map PyData.int), nD k] = .ok (.int c) := by
  rw [q_law_cell]
  unfold b_law_cell
  have lay : PyData.canLayAll0 (ns.map PyData.int) = true := lay_map _ _ fun x _ => by simp [PyData.canLay0]
  cases ns with
  | nil =>
    rw [sSeq_r (h := by
      simp only [bnd_ok, bnd_err, then_ok, then_err, fVar0, fVarS, fC_e, fOp_e, fUn_e, asB_e, asI_e, fT_e, fAnd_e, fOr_e, fNot_e, fAndV_e, fOrV_e, fNotV_e, fIf_e, fChain_e, aNil_e, aCons_e, fTup_e, fLst_e, fCall_e, dTup_e, dLst_e, gAdd_i, gSub_i, gNeg_i, gEq_i, gNe_i, gLt_i, gLe_i, gGt_i, gGe_i, gIsN_e, gNotN_e, isN_n, isN_i, isN_t, isN_l, isN_b, gIsi_e, tyD_n, tyD_i, tyD_t, tyD_l, tyD_b, tyD_s, isaT_ii, isaT_bi, isaT_ib, isaT_bb, isaT_tt, isaT_ll, isaT_tb, isaT_ti, isaT_it, isaT_bt, isaT_lt, isaT_nt, isaT_st, gLen_l, gLen_t, gOne_l, gTuple_l, gTuple_t, gInt_b, gMin2_e, gMax2_e, fIt_e, items_l, items_t, fItA_e, gEnum_e, gZip_t, gNm0, gNmS, gNil_e, gCons_e, gTp_e, wipe0, wipeS, tYesD_e, sNil_e, sExpr_e, sRet_e, sRaise_e, sIf_e, sAsg_e, asF_e, sFor_e, endF_r, endF_n, endF_x, asO_s, fRg1_e, sFrz_e, gIx_t0, gIx_t1, gIx_t2, gIx_l0, gIx_l1, gIx_l2, Option.map_some, Option.bind_some, List.set_cons_succ, List.set_cons_zero, List.getElem?_cons_succ, List.getElem?_cons_zero, Bool.not_true, Bool.not_false, Bool.false_eq_true, ↓reduceIte, List.length_cons, List.length_nil, List.map_cons, List.map_nil, Nat.reduceAdd, Nat.reduceLeDiff, Nat.reduceLT, Bool.true_and, Bool.and_true, Bool.false_and, Bool.and_false, List.length_map, Nat.zero_le, eq_nil lay, List.isEmpty_nil, mulR _ 7919 rfl]
      rfl)]
    exact ⟨_, rfl⟩
  | cons n ns =>
    rw [List.map_cons] at lay
    rw [sSeq_n (h := by
      simp only [bnd_ok, bnd_err, then_ok, then_err, fVar0, fVarS, fC_e, fOp_e, fUn_e, asB_e, asI_e, fT_e, fAnd_e, fOr_e, fNot_e, fAndV_e, fOrV_e, fNotV_e, fIf_e, fChain_e, aNil_e, aCons_e, fTup_e, fLst_e, fCall_e, dTup_e, dLst_e, gAdd_i, gSub_i, gNeg_i, gEq_i, gNe_i, gLt_i, gLe_i, gGt_i, gGe_i, gIsN_e, gNotN_e, isN_n, isN_i, isN_t, isN_l, isN_b, gIsi_e, tyD_n, tyD_i, tyD_t, tyD_l, tyD_b, tyD_s, isaT_ii, isaT_bi, isaT_ib, isaT_bb, isaT_tt, isaT_ll, isaT_tb, isaT_ti, isaT_it, isaT_bt, isaT_lt, isaT_nt, isaT_st, gLen_l, gLen_t, gOne_l, gTuple_l, gTuple_t, gInt_b, gMin2_e, gMax2_e, fIt_e, items_l, items_t, fItA_e, gEnum_e, gZip_t, gNm0, gNmS, gNil_e, gCons_e, gTp_e, wipe0, wipeS, tYesD_e, sNil_e, sExpr_e, sRet_e, sRaise_e, sIf_e, sAsg_e, asF_e, sFor_e, endF_r, endF_n, endF_x, asO_s, fRg1_e, sFrz_e, gIx_t0, gIx_t1, gIx_t2, gIx_l0, gIx_l1, gIx_l2, Option.map_some, Option.bind_some, List.set_cons_succ, List.set_cons_zero, List.getElem?_cons_succ, List.getElem?_cons_zero, Bool.not_true, Bool.not_false, Bool.false_eq_true, ↓reduceIte, List.length_cons, List.length_nil, List.map_cons, List.map_nil, Nat.reduceAdd, Nat.reduceLeDiff, Nat.reduceLT, Bool.true_and, Bool.and_true, Bool.false_and, Bool.and_false, List.length_map, Nat.zero_le, eq_nil lay, List.isEmpty_cons]
      rfl)]
    have hp : 0 < ((ns.length + 1 : Nat) : Int) := by omega
    have e1 : ((k : Int) % ((ns.length + 1 : Nat) : Int)) = ((k % (ns.length + 1) : Nat) : Int) := by omega
    obtain ⟨x, hx⟩ := get_some (xs := n :: ns) (n := k % (ns.length + 1)) (Nat.mod_lt _ (by simp))
    have e2 := gIx_mapl PyData.int (n :: ns) _ x hx
    rw [List.map_cons] at e2
    refine ⟨x + (k : Int) / ((ns.length + 1 : Nat) : Int) * 104729, ?_⟩
    simp only [bnd_ok, bnd_err, then_ok, then_err, fVar0, fVarS, fC_e, fOp_e, fUn_e, asB_e, asI_e, fT_e, fAnd_e, fOr_e, fNot_e, fAndV_e, fOrV_e, fNotV_e, fIf_e, fChain_e, aNil_e, aCons_e, fTup_e, fLst_e, fCall_e, dTup_e, dLst_e, gAdd_i, gSub_i, gNeg_i, gEq_i, gNe_i, gLt_i, gLe_i, gGt_i, gGe_i, gIsN_e, gNotN_e, isN_n, isN_i, isN_t, isN_l, isN_b, gIsi_e, tyD_n, tyD_i, tyD_t, tyD_l, tyD_b, tyD_s, isaT_ii, isaT_bi, isaT_ib, isaT_bb, isaT_tt, isaT_ll, isaT_tb, isaT_ti, isaT_it, isaT_bt, isaT_lt, isaT_nt, isaT_st, gLen_l, gLen_t, gOne_l, gTuple_l, gTuple_t, gInt_b, gMin2_e, gMax2_e, fIt_e, items_l, items_t, fItA_e, gEnum_e, gZip_t, gNm0, gNmS, gNil_e, gCons_e, gTp_e, wipe0, wipeS, tYesD_e, sNil_e, sExpr_e, sRet_e, sRaise_e, sIf_e, sAsg_e, asF_e, sFor_e, endF_r, endF_n, endF_x, asO_s, fRg1_e, sFrz_e, gIx_t0, gIx_t1, gIx_t2, gIx_l0, gIx_l1, gIx_l2, Option.map_some, Option.bind_some, List.set_cons_succ, List.set_cons_zero, List.getElem?_cons_succ, List.getElem?_cons_zero, Bool.not_true, Bool.not_false, Bool.false_eq_true, ↓reduceIte, List.length_cons, List.length_nil, List.map_cons, List.map_nil, Nat.reduceAdd, Nat.reduceLeDiff, Nat.reduceLT, Bool.true_and, Bool.and_true, Bool.false_and, Bool.and_false, List.length_map, Nat.zero_le, gMod_i _ _ hp, e1]
    simp only [e2, bnd_ok, bnd_err, then_ok, then_err, fVar0, fVarS, fC_e, fOp_e, fUn_e, asB_e, asI_e, fT_e, fAnd_e, fOr_e, fNot_e, fAndV_e, fOrV_e, fNotV_e, fIf_e, fChain_e, aNil_e, aCons_e, fTup_e, fLst_e, fCall_e, dTup_e, dLst_e, gAdd_i, gSub_i, gNeg_i, gEq_i, gNe_i, gLt_i, gLe_i, gGt_i, gGe_i, gIsN_e, gNotN_e, isN_n, isN_i, isN_t, isN_l, isN_b, gIsi_e, tyD_n, tyD_i, tyD_t, tyD_l, tyD_b, tyD_s, isaT_ii, isaT_bi, isaT_ib, isaT_bb, isaT_tt, isaT_ll, isaT_tb, isaT_ti, isaT_it, isaT_bt, isaT_lt, isaT_nt, isaT_st, gLen_l, gLen_t, gOne_l, gTuple_l, gTuple_t, gInt_b, gMin2_e, gMax2_e, fIt_e, items_l, items_t, fItA_e, gEnum_e, gZip_t, gNm0, gNmS, gNil_e, gCons_e, gTp_e, wipe0, wipeS, tYesD_e, sNil_e, sExpr_e, sRet_e, sRaise_e, sIf_e, sAsg_e, asF_e, sFor_e, endF_r, endF_n, endF_x, asO_s, fRg1_e, sFrz_e, gIx_t0, gIx_t1, gIx_t2, gIx_l0, gIx_l1, gIx_l2, Option.map_some, Option.bind_some, List.set_cons_succ, List.set_cons_zero, List.getElem?_cons_succ, List.getElem?_cons_zero, Bool.not_true, Bool.not_false, Bool.false_eq_true, ↓reduceIte, List.length_cons, List.length_nil, List.map_cons, List.map_nil, Nat.reduceAdd, Nat.reduceLeDiff, Nat.reduceLT, Bool.true_and, Bool.and_true, Bool.false_and, Bool.and_false, List.length_map, Nat.zero_le, gFdiv_i _ _ hp (Nat.lt_of_le_of_lt (m := 64) (by simp at hl; omega) (by decide)), mulR _ 104729 rfl]
theorem nat_of {i : Int} (h : 0 ≤ i) : PyData.int i = nD i.toNat := by
  show _ = PyData.int _
  congr 1
  omega
def cSome (more : Int) (many : Nat) (by_ : Int) : List Nat := (List.range many).filter fun n => decide (0 < drawn more (500 + (n : Int)) / 16 % by_)
theorem some_e (more : Int) (many : Nat) (by_ : Int) (hb : 0 < by_) (hm : many ≤ 1000) : m_law_some [.int more, nD many, .int by_] = .ok (tN (cSome more many by_)) := by
  rw [q_law_some]
  unfold b_law_some cSome
  simp only [bnd_ok, bnd_err, then_ok, then_err, fVar0, fVarS, fC_e, fOp_e, fUn_e, asB_e, asI_e, fT_e, fAnd_e, fOr_e, fNot_e, fAndV_e, fOrV_e, fNotV_e, fIf_e, fChain_e, aNil_e, aCons_e, fTup_e, fLst_e, fCall_e, dTup_e, dLst_e, gAdd_i, gSub_i, gNeg_i, gEq_i, gNe_i, gLt_i, gLe_i, gGt_i, gGe_i, gIsN_e, gNotN_e, isN_n, isN_i, isN_t, isN_l, isN_b, gIsi_e, tyD_n, tyD_i, tyD_t, tyD_l, tyD_b, tyD_s, isaT_ii, isaT_bi, isaT_ib, isaT_bb, isaT_tt, isaT_ll, isaT_tb, isaT_ti, isaT_it, isaT_bt, isaT_lt, isaT_nt, isaT_st, gLen_l, gLen_t, gOne_l, gTuple_l, gTuple_t, gInt_b, gMin2_e, gMax2_e, fIt_e, items_l, items_t, fItA_e, gEnum_e, gZip_t, gNm0, gNmS, gNil_e, gCons_e, gTp_e, wipe0, wipeS, tYesD_e, sNil_e, sExpr_e, sRet_e, sRaise_e, sIf_e, sAsg_e, asF_e, sFor_e, endF_r, endF_n, endF_x, asO_s, fRg1_e, sFrz_e, gIx_t0, gIx_t1, gIx_t2, gIx_l0, gIx_l1, gIx_l2, Option.map_some, Option.bind_some, List.set_cons_succ, List.set_cons_zero, List.getElem?_cons_succ, List.getElem?_cons_zero, Bool.not_true, Bool.not_false, Bool.false_eq_true, ↓reduceIte, List.length_cons, List.length_nil, List.map_cons, List.map_nil, Nat.reduceAdd, Nat.reduceLeDiff, Nat.reduceLT, Bool.true_and, Bool.and_true, Bool.false_and, Bool.and_false, List.length_map, Nat.zero_le]
  rw [fLc_eq nD (fun n => if decide (0 < drawn more (500 + (n : Int)) / 16 % by_) then some (nD n) else none) (List.range many) (by simp only [bnd_ok, bnd_err, then_ok, then_err, fVar0, fVarS, fC_e, fOp_e, fUn_e, asB_e, asI_e, fT_e, fAnd_e, fOr_e, fNot_e, fAndV_e, fOrV_e, fNotV_e, fIf_e, fChain_e, aNil_e, aCons_e, fTup_e, fLst_e, fCall_e, dTup_e, dLst_e, gAdd_i, gSub_i, gNeg_i, gEq_i, gNe_i, gLt_i, gLe_i, gGt_i, gGe_i, gIsN_e, gNotN_e, isN_n, isN_i, isN_t, isN_l, isN_b, gIsi_e, tyD_n, tyD_i, tyD_t, tyD_l, tyD_b, tyD_s, isaT_ii, isaT_bi, isaT_ib, isaT_bb, isaT_tt, isaT_ll, isaT_tb, isaT_ti, isaT_it, isaT_bt, isaT_lt, isaT_nt, isaT_st, gLen_l, gLen_t, gOne_l, gTuple_l, gTuple_t, gInt_b, gMin2_e, gMax2_e, fIt_e, items_l, items_t, fItA_e, gEnum_e, gZip_t, gNm0, gNmS, gNil_e, gCons_e, gTp_e, wipe0, wipeS, tYesD_e, sNil_e, sExpr_e, sRet_e, sRaise_e, sIf_e, sAsg_e, asF_e, sFor_e, endF_r, endF_n, endF_x, asO_s, fRg1_e, sFrz_e, gIx_t0, gIx_t1, gIx_t2, gIx_l0, gIx_l1, gIx_l2, Option.map_some, Option.bind_some, List.set_cons_succ, List.set_cons_zero, List.getElem?_cons_succ, List.getElem?_cons_zero, Bool.not_true, Bool.not_false, Bool.false_eq_true, ↓reduceIte, List.length_cons, List.length_nil, List.map_cons, List.map_nil, Nat.reduceAdd, Nat.reduceLeDiff, Nat.reduceLT, Bool.true_and, Bool.and_true, Bool.false_and, Bool.and_false, List.length_map, Nat.zero_le, rng_e many hm]) (by simp; omega) fun n hn => ?_]
  · simp only [bnd_ok, bnd_err, then_ok, then_err, fVar0, fVarS, fC_e, fOp_e, fUn_e, asB_e, asI_e, fT_e, fAnd_e, fOr_e, fNot_e, fAndV_e, fOrV_e, fNotV_e, fIf_e, fChain_e, aNil_e, aCons_e, fTup_e, fLst_e, fCall_e, dTup_e, dLst_e, gAdd_i, gSub_i, gNeg_i, gEq_i, gNe_i, gLt_i, gLe_i, gGt_i, gGe_i, gIsN_e, gNotN_e, isN_n, isN_i, isN_t, isN_l, isN_b, gIsi_e, tyD_n, tyD_i, tyD_t, tyD_l, tyD_b, tyD_s, isaT_ii, isaT_bi, isaT_ib, isaT_bb, isaT_tt, isaT_ll, isaT_tb, isaT_ti, isaT_it, isaT_bt, isaT_lt, isaT_nt, isaT_st, gLen_l, gLen_t, gOne_l, gTuple_l, gTuple_t, gInt_b, gMin2_e, gMax2_e, fIt_e, items_l, items_t, fItA_e, gEnum_e, gZip_t, gNm0, gNmS, gNil_e, gCons_e, gTp_e, wipe0, wipeS, tYesD_e, sNil_e, sExpr_e, sRet_e, sRaise_e, sIf_e, sAsg_e, asF_e, sFor_e, endF_r, endF_n, endF_x, asO_s, fRg1_e, sFrz_e, gIx_t0, gIx_t1, gIx_t2, gIx_l0, gIx_l1, gIx_l2, Option.map_some, Option.bind_some, List.set_cons_succ, List.set_cons_zero, List.getElem?_cons_succ, List.getElem?_cons_zero, Bool.not_true, Bool.not_false, Bool.false_eq_true, ↓reduceIte, List.length_cons, List.length_nil, List.map_cons, List.map_nil, Nat.reduceAdd, Nat.reduceLeDiff, Nat.reduceLT, Bool.true_and, Bool.and_true, Bool.false_and, Bool.and_false, List.length_map, Nat.zero_le]
    congr 2
    induction List.range many with
    | nil => rfl
    | cons n ns ih =>
      rw [List.filterMap_cons, List.filter_cons, ih]
      cases decide (0 < drawn more (500 + (n : Int)) / 16 % by_) <;> rfl
  · simp only [lcOne, bnd_ok, bnd_err, then_ok, then_err, fVar0, fVarS, fC_e, fOp_e, fUn_e, asB_e, asI_e, fT_e, fAnd_e, fOr_e, fNot_e, fAndV_e, fOrV_e, fNotV_e, fIf_e, fChain_e, aNil_e, aCons_e, fTup_e, fLst_e, fCall_e, dTup_e, dLst_e, gAdd_i, gSub_i, gNeg_i, gEq_i, gNe_i, gLt_i, gLe_i, gGt_i, gGe_i, gIsN_e, gNotN_e, isN_n, isN_i, isN_t, isN_l, isN_b, gIsi_e, tyD_n, tyD_i, tyD_t, tyD_l, tyD_b, tyD_s, isaT_ii, isaT_bi, isaT_ib, isaT_bb, isaT_tt, isaT_ll, isaT_tb, isaT_ti, isaT_it, isaT_bt, isaT_lt, isaT_nt, isaT_st, gLen_l, gLen_t, gOne_l, gTuple_l, gTuple_t, gInt_b, gMin2_e, gMax2_e, fIt_e, items_l, items_t, fItA_e, gEnum_e, gZip_t, gNm0, gNmS, gNil_e, gCons_e, gTp_e, wipe0, wipeS, tYesD_e, sNil_e, sExpr_e, sRet_e, sRaise_e, sIf_e, sAsg_e, asF_e, sFor_e, endF_r, endF_n, endF_x, asO_s, fRg1_e, sFrz_e, gIx_t0, gIx_t1, gIx_t2, gIx_l0, gIx_l1, gIx_l2, Option.map_some, Option.bind_some, List.set_cons_succ, List.set_cons_zero, List.getElem?_cons_succ, List.getElem?_cons_zero, Bool.not_true, Bool.not_false, Bool.false_eq_true, ↓reduceIte, List.length_cons, List.length_nil, List.map_cons, List.map_nil, Nat.reduceAdd, Nat.reduceLeDiff, Nat.reduceLT, Bool.true_and, Bool.and_true, Bool.false_and, Bool.and_false, List.length_map, Nat.zero_le, drawn_e, fd _ 16 rfl, gMod_i _ _ hb]
    cases decide (0 < drawn more (500 + (n : Int)) / 16 % by_) <;> rfl
theorem rise_range (n : Nat) : (List.range n).Pairwise (· < ·) := List.pairwise_lt_range
theorem some_rise (more : Int) (many : Nat) (by_ : Int) : Rise many (cSome more many by_) :=
  ⟨fun x hx => List.mem_range.mp (List.mem_filter.mp hx).1, (rise_range many).filter _⟩
theorem rng_i (x : Int) (h : 0 ≤ x) (h' : x ≤ 1000) : gRng1 [.int x] = .ok ((List.range x.toNat).map nD) := by
  rw [nat_of h]
  exact rng_e _ (by omega)
theorem pick3 (a b c : D) (x : Int) (h : 0 ≤ x) (h' : x < 3) : ∃ w, (w = a ∨ w = b ∨ w = c) ∧ gIx (.list [a, b, c]) (.int x) = .ok w := by
  have : x = 0 ∨ x = 1 ∨ x = 2 := by omega
  rcases this with rfl | rfl | rfl
  · exact ⟨a, .inl rfl, rfl⟩
  · exact ⟨b, .inr (.inl rfl), rfl⟩
  · exact ⟨c, .inr (.inr rfl), rfl⟩
theorem pick2 (a b : D) (x : Int) (h : 0 ≤ x) (h' : x < 2) : ∃ w, (w = a ∨ w = b) ∧ gIx (.list [a, b]) (.int x) = .ok w := by
  have : x = 0 ∨ x = 1 := by omega
  rcases this with rfl | rfl
  · exact ⟨a, .inl rfl, rfl⟩
  · exact ⟨b, .inr rfl, rfl⟩
theorem pow_e (j : Nat) (h : j ≤ 1000) : gPow (.int 2) (nD j) = .ok (.int (2 ^ j)) := by
  show (if _ then _ else _) = _
  rw [if_pos ⟨by omega, by omega, by decide⟩]
  rfl
theorem plan_e {b : Belt} (h : b.Ok) (m : Int) : ∃ ss ks, PlanOk b ss ks ∧ m_law_plan [.int m, eB b] = .ok (eP ss ks) := by
  have s8 := h.s8; have k3 := h.k3
  rw [q_law_plan]
  unfold b_law_plan
  obtain ⟨w, hw, e⟩ := pick3 (.int 2) (.int 9) (.int 3) (m / 8 % 3) (by omega) (by omega)
  obtain ⟨v, rfl, hv⟩ : ∃ v : Int, w = .int v ∧ 0 < v := by
    rcases hw with rfl | rfl | rfl
    · exact ⟨_, rfl, by decide⟩
    · exact ⟨_, rfl, by decide⟩
    · exact ⟨_, rfl, by decide⟩
  rw [sSeq_n (h := by simp only [bnd_ok, bnd_err, then_ok, then_err, fVar0, fVarS, fC_e, fOp_e, fUn_e, asB_e, asI_e, fT_e, fAnd_e, fOr_e, fNot_e, fAndV_e, fOrV_e, fNotV_e, fIf_e, fChain_e, aNil_e, aCons_e, fTup_e, fLst_e, fCall_e, dTup_e, dLst_e, gAdd_i, gSub_i, gNeg_i, gEq_i, gNe_i, gLt_i, gLe_i, gGt_i, gGe_i, gIsN_e, gNotN_e, isN_n, isN_i, isN_t, isN_l, isN_b, gIsi_e, tyD_n, tyD_i, tyD_t, tyD_l, tyD_b, tyD_s, isaT_ii, isaT_bi, isaT_ib, isaT_bb, isaT_tt, isaT_ll, isaT_tb, isaT_ti, isaT_it, isaT_bt, isaT_lt, isaT_nt, isaT_st, gLen_l, gLen_t, gOne_l, gTuple_l, gTuple_t, gInt_b, gMin2_e, gMax2_e, fIt_e, items_l, items_t, fItA_e, gEnum_e, gZip_t, gNm0, gNmS, gNil_e, gCons_e, gTp_e, wipe0, wipeS, tYesD_e, sNil_e, sExpr_e, sRet_e, sRaise_e, sIf_e, sAsg_e, asF_e, sFor_e, endF_r, endF_n, endF_x, asO_s, fRg1_e, sFrz_e, gIx_t0, gIx_t1, gIx_t2, gIx_l0, gIx_l1, gIx_l2, Option.map_some, Option.bind_some, List.set_cons_succ, List.set_cons_zero, List.getElem?_cons_succ, List.getElem?_cons_zero, Bool.not_true, Bool.not_false, Bool.false_eq_true, ↓reduceIte, List.length_cons, List.length_nil, List.map_cons, List.map_nil, Nat.reduceAdd, Nat.reduceLeDiff, Nat.reduceLT, Bool.true_and, Bool.and_true, Bool.false_and, Bool.and_false, List.length_map, Nat.zero_le, fd _ 8 rfl, md _ 3 rfl, e]; rfl)]
  refine ⟨cSome (drawn m 1) b.S.length v, cSome (drawn m 2) b.K.length v, ⟨some_rise _ _ _, some_rise _ _ _⟩, ?_⟩
  simp only [bnd_ok, bnd_err, then_ok, then_err, fVar0, fVarS, fC_e, fOp_e, fUn_e, asB_e, asI_e, fT_e, fAnd_e, fOr_e, fNot_e, fAndV_e, fOrV_e, fNotV_e, fIf_e, fChain_e, aNil_e, aCons_e, fTup_e, fLst_e, fCall_e, dTup_e, dLst_e, gAdd_i, gSub_i, gNeg_i, gEq_i, gNe_i, gLt_i, gLe_i, gGt_i, gGe_i, gIsN_e, gNotN_e, isN_n, isN_i, isN_t, isN_l, isN_b, gIsi_e, tyD_n, tyD_i, tyD_t, tyD_l, tyD_b, tyD_s, isaT_ii, isaT_bi, isaT_ib, isaT_bb, isaT_tt, isaT_ll, isaT_tb, isaT_ti, isaT_it, isaT_bt, isaT_lt, isaT_nt, isaT_st, gLen_l, gLen_t, gOne_l, gTuple_l, gTuple_t, gInt_b, gMin2_e, gMax2_e, fIt_e, items_l, items_t, fItA_e, gEnum_e, gZip_t, gNm0, gNmS, gNil_e, gCons_e, gTp_e, wipe0, wipeS, tYesD_e, sNil_e, sExpr_e, sRet_e, sRaise_e, sIf_e, sAsg_e, asF_e, sFor_e, endF_r, endF_n, endF_x, asO_s, fRg1_e, sFrz_e, gIx_t0, gIx_t1, gIx_t2, gIx_l0, gIx_l1, gIx_l2, Option.map_some, Option.bind_some, List.set_cons_succ, List.set_cons_zero, List.getElem?_cons_succ, List.getElem?_cons_zero, Bool.not_true, Bool.not_false, Bool.false_eq_true, ↓reduceIte, List.length_cons, List.length_nil, List.map_cons, List.map_nil, Nat.reduceAdd, Nat.reduceLeDiff, Nat.reduceLT, Bool.true_and, Bool.and_true, Bool.false_and, Bool.and_false, List.length_map, Nat.zero_le, drawn_e, some_e _ _ _ hv (Nat.le_trans s8 (by decide)), some_e _ _ _ hv (Nat.le_trans k3 (by decide))]
theorem belt_e (m : Int) (hm : 0 ≤ m) (most : Nat) (hmost : most ≤ 8) : ∃ b : Belt, b.Ok ∧ b.S.length ≤ most ∧ m_law_belt [.int m, nD most] = .ok (eB b) := by
  rw [q_law_belt]
  unfold b_law_belt
  obtain ⟨w, hw, e⟩ := pick3 (.int 100) (.int 10) (.int 4) (m / 16 % 3) (by omega) (by omega)
  obtain ⟨v, rfl, hv, hv'⟩ : ∃ v : Int, w = .int v ∧ 4 ≤ v ∧ v ≤ 100 := by
    rcases hw with rfl | rfl | rfl
    · exact ⟨_, rfl, by decide, by decide⟩
    · exact ⟨_, rfl, by decide, by decide⟩
    · exact ⟨_, rfl, by decide, by decide⟩
  have hv0 : 0 < v := by omega
  rw [sSeq_n (h := by simp only [bnd_ok, bnd_err, then_ok, then_err, fVar0, fVarS, fC_e, fOp_e, fUn_e, asB_e, asI_e, fT_e, fAnd_e, fOr_e, fNot_e, fAndV_e, fOrV_e, fNotV_e, fIf_e, fChain_e, aNil_e, aCons_e, fTup_e, fLst_e, fCall_e, dTup_e, dLst_e, gAdd_i, gSub_i, gNeg_i, gEq_i, gNe_i, gLt_i, gLe_i, gGt_i, gGe_i, gIsN_e, gNotN_e, isN_n, isN_i, isN_t, isN_l, isN_b, gIsi_e, tyD_n, tyD_i, tyD_t, tyD_l, tyD_b, tyD_s, isaT_ii, isaT_bi, isaT_ib, isaT_bb, isaT_tt, isaT_ll, isaT_tb, isaT_ti, isaT_it, isaT_bt, isaT_lt, isaT_nt, isaT_st, gLen_l, gLen_t, gOne_l, gTuple_l, gTuple_t, gInt_b, gMin2_e, gMax2_e, fIt_e, items_l, items_t, fItA_e, gEnum_e, gZip_t, gNm0, gNmS, gNil_e, gCons_e, gTp_e, wipe0, wipeS, tYesD_e, sNil_e, sExpr_e, sRet_e, sRaise_e, sIf_e, sAsg_e, asF_e, sFor_e, endF_r, endF_n, endF_x, asO_s, fRg1_e, sFrz_e, gIx_t0, gIx_t1, gIx_t2, gIx_l0, gIx_l1, gIx_l2, Option.map_some, Option.bind_some, List.set_cons_succ, List.set_cons_zero, List.getElem?_cons_succ, List.getElem?_cons_zero, Bool.not_true, Bool.not_false, Bool.false_eq_true, ↓reduceIte, List.length_cons, List.length_nil, List.map_cons, List.map_nil, Nat.reduceAdd, Nat.reduceLeDiff, Nat.reduceLT, Bool.true_and, Bool.and_true, Bool.false_and, Bool.and_false, List.length_map, Nat.zero_le, fd _ 16 rfl, md _ 3 rfl, e]; rfl)]
  obtain ⟨w, hw, e2⟩ := pick2 (.int 6) (.int 3) (m / 8 % 2) (by omega) (by omega)
  obtain ⟨u, rfl, hu, hu'⟩ : ∃ v : Int, w = .int v ∧ 0 < v ∧ v ≤ 6 := by
    rcases hw with rfl | rfl
    · exact ⟨_, rfl, by decide, by decide⟩
    · exact ⟨_, rfl, by decide, by decide⟩
  have g0 := Int.emod_nonneg (m / 64) (b := u) (by omega)
  have g1 := Int.emod_lt_of_pos (m / 64) hu
  have hF : ∃ F : List Nat, 1 ≤ F.length ∧ F.length ≤ 6 ∧ (∀ p ∈ F, p ≤ 99) ∧ fLc (fItA gRng1 (aCons (fOp gAdd (fC (.int 1)) (fOp gMod (fOp gFdiv (fVar 0) (fC (.int 64))) (fOp gIx (fLst (aCons (fC (.int 6)) (aCons (fC (.int 3)) aNil))) (fOp gMod (fOp gFdiv (fVar 0) (fC (.int 8))) (fC (.int 2)))))) aNil)) (gNm 5) tYesD (fOp gMod (fOp gFdiv (fCall m_law_drawn (aCons (fVar 0) (aCons (fVar 5) aNil))) (fC (.int 16))) (fVar 2)) [5] [.dat (.int m), .dat (nD most), .dat (.int v), .non, .non, .non, .non, .non, .non, .non] = .ok (lN F) := by
    refine ⟨(List.range (1 + m / 64 % u).toNat).map fun j : Nat => (drawn m (j : Int) / 16 % v).toNat, by simp; omega, by simp; omega, ?_, ?_⟩
    · intro p hp
      obtain ⟨j, _, rfl⟩ := List.mem_map.mp hp
      have := Int.emod_lt_of_pos (drawn m (j : Int) / 16) hv0
      omega
    · rw [fLc_map nD (fun j : Nat => nD (drawn m (j : Int) / 16 % v).toNat) (List.range (1 + m / 64 % u).toNat) ?_ (by simp; omega) fun j hj => ?_]
      · unfold lN
        rw [List.map_map]; rfl
      · simp only [bnd_ok, bnd_err, then_ok, then_err, fVar0, fVarS, fC_e, fOp_e, fUn_e, asB_e, asI_e, fT_e, fAnd_e, fOr_e, fNot_e, fAndV_e, fOrV_e, fNotV_e, fIf_e, fChain_e, aNil_e, aCons_e, fTup_e, fLst_e, fCall_e, dTup_e, dLst_e, gAdd_i, gSub_i, gNeg_i, gEq_i, gNe_i, gLt_i, gLe_i, gGt_i, gGe_i, gIsN_e, gNotN_e, isN_n, isN_i, isN_t, isN_l, isN_b, gIsi_e, tyD_n, tyD_i, tyD_t, tyD_l, tyD_b, tyD_s, isaT_ii, isaT_bi, isaT_ib, isaT_bb, isaT_tt, isaT_ll, isaT_tb, isaT_ti, isaT_it, isaT_bt, isaT_lt, isaT_nt, isaT_st, gLen_l, gLen_t, gOne_l, gTuple_l, gTuple_t, gInt_b, gMin2_e, gMax2_e, fIt_e, items_l, items_t, fItA_e, gEnum_e, gZip_t, gNm0, gNmS, gNil_e, gCons_e, gTp_e, wipe0, wipeS, tYesD_e, sNil_e, sExpr_e, sRet_e, sRaise_e, sIf_e, sAsg_e, asF_e, sFor_e, endF_r, endF_n, endF_x, asO_s, fRg1_e, sFrz_e, gIx_t0, gIx_t1, gIx_t2, gIx_l0, gIx_l1, gIx_l2, Option.map_some, Option.bind_some, List.set_cons_succ, List.set_cons_zero, List.getElem?_cons_succ, List.getElem?_cons_zero, Bool.not_true, Bool.not_false, Bool.false_eq_true, ↓reduceIte, List.length_cons, List.length_nil, List.map_cons, List.map_nil, Nat.reduceAdd, Nat.reduceLeDiff, Nat.reduceLT, Bool.true_and, Bool.and_true, Bool.false_and, Bool.and_false, List.length_map, Nat.zero_le, fd _ 64 rfl, fd _ 8 rfl, md _ 2 rfl, e2, gMod_i _ _ hu]
        rw [rng_i _ (by omega) (by omega)]
      · simp only [lcOne, bnd_ok, bnd_err, then_ok, then_err, fVar0, fVarS, fC_e, fOp_e, fUn_e, asB_e, asI_e, fT_e, fAnd_e, fOr_e, fNot_e, fAndV_e, fOrV_e, fNotV_e, fIf_e, fChain_e, aNil_e, aCons_e, fTup_e, fLst_e, fCall_e, dTup_e, dLst_e, gAdd_i, gSub_i, gNeg_i, gEq_i, gNe_i, gLt_i, gLe_i, gGt_i, gGe_i, gIsN_e, gNotN_e, isN_n, isN_i, isN_t, isN_l, isN_b, gIsi_e, tyD_n, tyD_i, tyD_t, tyD_l, tyD_b, tyD_s, isaT_ii, isaT_bi, isaT_ib, isaT_bb, isaT_tt, isaT_ll, isaT_tb, isaT_ti, isaT_it, isaT_bt, isaT_lt, isaT_nt, isaT_st, gLen_l, gLen_t, gOne_l, gTuple_l, gTuple_t, gInt_b, gMin2_e, gMax2_e, fIt_e, items_l, items_t, fItA_e, gEnum_e, gZip_t, gNm0, gNmS, gNil_e, gCons_e, gTp_e, wipe0, wipeS, tYesD_e, sNil_e, sExpr_e, sRet_e, sRaise_e, sIf_e, sAsg_e, asF_e, sFor_e, endF_r, endF_n, endF_x, asO_s, fRg1_e, sFrz_e, gIx_t0, gIx_t1, gIx_t2, gIx_l0, gIx_l1, gIx_l2, Option.map_some, Option.bind_some, List.set_cons_succ, List.set_cons_zero, List.getElem?_cons_succ, List.getElem?_cons_zero, Bool.not_true, Bool.not_false, Bool.false_eq_true, ↓reduceIte, List.length_cons, List.length_nil, List.map_cons, List.map_nil, Nat.reduceAdd, Nat.reduceLeDiff, Nat.reduceLT, Bool.true_and, Bool.and_true, Bool.false_and, Bool.and_false, List.length_map, Nat.zero_le, drawn_e, fd _ 16 rfl, gMod_i _ _ hv0]
        rw [nat_of (Int.emod_nonneg _ (by omega))]
  obtain ⟨F, F1, F6, F99, hF⟩ := hF
  rw [sSeq_n (h := by simp only [bnd_ok, bnd_err, then_ok, then_err, fVar0, fVarS, fC_e, fOp_e, fUn_e, asB_e, asI_e, fT_e, fAnd_e, fOr_e, fNot_e, fAndV_e, fOrV_e, fNotV_e, fIf_e, fChain_e, aNil_e, aCons_e, fTup_e, fLst_e, fCall_e, dTup_e, dLst_e, gAdd_i, gSub_i, gNeg_i, gEq_i, gNe_i, gLt_i, gLe_i, gGt_i, gGe_i, gIsN_e, gNotN_e, isN_n, isN_i, isN_t, isN_l, isN_b, gIsi_e, tyD_n, tyD_i, tyD_t, tyD_l, tyD_b, tyD_s, isaT_ii, isaT_bi, isaT_ib, isaT_bb, isaT_tt, isaT_ll, isaT_tb, isaT_ti, isaT_it, isaT_bt, isaT_lt, isaT_nt, isaT_st, gLen_l, gLen_t, gOne_l, gTuple_l, gTuple_t, gInt_b, gMin2_e, gMax2_e, fIt_e, items_l, items_t, fItA_e, gEnum_e, gZip_t, gNm0, gNmS, gNil_e, gCons_e, gTp_e, wipe0, wipeS, tYesD_e, sNil_e, sExpr_e, sRet_e, sRaise_e, sIf_e, sAsg_e, asF_e, sFor_e, endF_r, endF_n, endF_x, asO_s, fRg1_e, sFrz_e, gIx_t0, gIx_t1, gIx_t2, gIx_l0, gIx_l1, gIx_l2, Option.map_some, Option.bind_some, List.set_cons_succ, List.set_cons_zero, List.getElem?_cons_succ, List.getElem?_cons_zero, Bool.not_true, Bool.not_false, Bool.false_eq_true, ↓reduceIte, List.length_cons, List.length_nil, List.map_cons, List.map_nil, Nat.reduceAdd, Nat.reduceLeDiff, Nat.reduceLT, Bool.true_and, Bool.and_true, Bool.false_and, Bool.and_false, List.length_map, Nat.zero_le, hF]; rfl)]
  rw [sSeq_n (h := sOwn_e _ _ (by simp))]
  obtain ⟨w, hw, e3⟩ := pick3 (.int 2) (.int 4) (.int 3) (m / 4096 % 3) (by omega) (by omega)
  obtain ⟨y, rfl, hy⟩ : ∃ v : Int, w = .int v ∧ 0 < v := by
    rcases hw with rfl | rfl | rfl
    · exact ⟨_, rfl, by decide⟩
    · exact ⟨_, rfl, by decide⟩
    · exact ⟨_, rfl, by decide⟩
  obtain ⟨ρ, h1, sp, j5, j6, j7, j8, rfl, hl, hsp⟩ := for_inv nD (gt := gNm 5) (body := (sSeq (sAsg (fCall m_law_drawn (aCons (fVar 0) (aCons (fOp gAdd (fC (.int 10)) (fVar 5)) aNil))) (gNm 6))
    (sSeq (sAsg (fCall m_law_some (aCons (fVar 6) (aCons (fCall gLen (aCons (fVar 3) aNil)) (aCons (fOp gIx (fLst (aCons (fC (.int 2)) (aCons (fC (.int 4)) (aCons (fC (.int 3)) aNil)))) (fOp gMod (fOp gFdiv (fVar 0) (fC (.int 4096))) (fC (.int 3)))) aNil)))) (gNm 7))
    (sSeq (sAsg (fOp gAdd (fOp gMod (fOp gFdiv (fVar 6) (fC (.int 16))) (fVar 2)) (fOp gMul (fOp gIx (fLst (aCons (fC (.int 0)) (aCons (fOp gFdiv (fVar 2) (fC (.int 2))) aNil))) (fOp gMod (fOp gFdiv (fVar 6) (fOp gPow (fC (.int 2)) (fC (.int 20)))) (fC (.int 2)))) (fCall gInt (aCons (fOp gLt (fVar 2) (fC (.int 50))) aNil)))) (gNm 8))
    (sApp 4 (fTup (aCons (fVar 8) (aCons (fOp gAdd (fC (.int 1)) (fOp gMod (fOp gFdiv (fVar 6) (fC (.int 1024))) (fOp gIx (fLst (aCons (fC (.int 20)) (aCons (fC (.int 3)) aNil))) (fOp gMod (fOp gFdiv (fVar 6) (fC (.int 8))) (fC (.int 2)))))) (aCons (fVar 7) aNil)))))))))
    (fun pre ρ => ∃ (sp : List Spot) (j5 j6 j7 j8 : Slot), ρ = [.dat (.int m), .dat (nD most), .dat (.int v), .dat (tN F), .own (sp.map eS), j5, j6, j7, j8, .non] ∧ sp.length = pre.length ∧ ∀ s ∈ sp, s.at_ ≤ 99 ∧ 1 ≤ s.cost ∧ s.cost ≤ 20 ∧ Rise F.length s.own)
    (List.range (m / 512 % ((most + 1 : Nat) : Int)).toNat) (fun pre j post ρ e ⟨sp, j5, j6, j7, j8, hρ, hl, hsp⟩ => by
      subst hρ
      have hlen : pre.length ≤ (List.range (m / 512 % ((most + 1 : Nat) : Int)).toNat).length := by rw [e]; simp
      rw [List.length_range] at hlen
      have q1 := Int.emod_lt_of_pos (m / 512) (b := ((most + 1 : Nat) : Int)) (by omega)
      have hh0 := drawn_nonneg m (10 + (j : Int))
      obtain ⟨w, hw, e4⟩ := pick2 (.int 20) (.int 3) (drawn m (10 + (j : Int)) / 8 % 2) (by omega) (by omega)
      obtain ⟨c, rfl, hc, hc'⟩ : ∃ v : Int, w = .int v ∧ 0 < v ∧ v ≤ 20 := by
        rcases hw with rfl | rfl
        · exact ⟨_, rfl, by decide, by decide⟩
        · exact ⟨_, rfl, by decide, by decide⟩
      obtain ⟨w, hw, e5⟩ := pick2 (.int 0) (.int (v / 2)) (drawn m (10 + (j : Int)) / 2 ^ 20 % 2) (by omega) (by omega)
      obtain ⟨z, rfl, hz, hz'⟩ : ∃ z : Int, w = .int z ∧ 0 ≤ z ∧ z ≤ v / 2 := by
        rcases hw with rfl | rfl
        · exact ⟨_, rfl, by decide, by omega⟩
        · exact ⟨_, rfl, by omega, by omega⟩
      have r0 := Int.emod_nonneg (drawn m (10 + (j : Int)) / 16) (b := v) (by omega)
      have r1 := Int.emod_lt_of_pos (drawn m (10 + (j : Int)) / 16) hv0
      have r2 := Int.emod_nonneg (drawn m (10 + (j : Int)) / 1024) (b := c) (by omega)
      have r3 := Int.emod_lt_of_pos (drawn m (10 + (j : Int)) / 1024) hc
      have hz2 : 0 ≤ z * (if decide (v < 50) = true then 1 else 0) ∧ (drawn m (10 + (j : Int)) / 16 % v) + z * (if decide (v < 50) = true then 1 else 0) ≤ 99 := by
        by_cases h50 : v < 50
        · rw [decide_eq_true h50, if_pos rfl]; omega
        · rw [decide_eq_false h50, if_neg (by decide)]; omega
      refine ⟨_, forOne_n (by simp only [bnd_ok, bnd_err, then_ok, then_err, fVar0, fVarS, fC_e, fOp_e, fUn_e, asB_e, asI_e, fT_e, fAnd_e, fOr_e, fNot_e, fAndV_e, fOrV_e, fNotV_e, fIf_e, fChain_e, aNil_e, aCons_e, fTup_e, fLst_e, fCall_e, dTup_e, dLst_e, gAdd_i, gSub_i, gNeg_i, gEq_i, gNe_i, gLt_i, gLe_i, gGt_i, gGe_i, gIsN_e, gNotN_e, isN_n, isN_i, isN_t, isN_l, isN_b, gIsi_e, tyD_n, tyD_i, tyD_t, tyD_l, tyD_b, tyD_s, isaT_ii, isaT_bi, isaT_ib, isaT_bb, isaT_tt, isaT_ll, isaT_tb, isaT_ti, isaT_it, isaT_bt, isaT_lt, isaT_nt, isaT_st, gLen_l, gLen_t, gOne_l, gTuple_l, gTuple_t, gInt_b, gMin2_e, gMax2_e, fIt_e, items_l, items_t, fItA_e, gEnum_e, gZip_t, gNm0, gNmS, gNil_e, gCons_e, gTp_e, wipe0, wipeS, tYesD_e, sNil_e, sExpr_e, sRet_e, sRaise_e, sIf_e, sAsg_e, asF_e, sFor_e, endF_r, endF_n, endF_x, asO_s, fRg1_e, sFrz_e, gIx_t0, gIx_t1, gIx_t2, gIx_l0, gIx_l1, gIx_l2, Option.map_some, Option.bind_some, List.set_cons_succ, List.set_cons_zero, List.getElem?_cons_succ, List.getElem?_cons_zero, Bool.not_true, Bool.not_false, Bool.false_eq_true, ↓reduceIte, List.length_cons, List.length_nil, List.map_cons, List.map_nil, Nat.reduceAdd, Nat.reduceLeDiff, Nat.reduceLT, Bool.true_and, Bool.and_true, Bool.false_and, Bool.and_false, List.length_map, Nat.zero_le]; rfl) ?_, sp ++ [⟨(drawn m (10 + (j : Int)) / 16 % v + z * (if decide (v < 50) = true then 1 else 0)).toNat, (1 + drawn m (10 + (j : Int)) / 1024 % c).toNat, cSome (drawn m (10 + (j : Int))) F.length y⟩], .dat (nD j), .dat (.int (drawn m (10 + (j : Int)))), .dat (tN (cSome (drawn m (10 + (j : Int))) F.length y)), .dat (.int (drawn m (10 + (j : Int)) / 16 % v + z * (if decide (v < 50) = true then 1 else 0))), rfl, by simp [hl], ?_⟩
      · rw [sSeq_n (h := by simp only [bnd_ok, bnd_err, then_ok, then_err, fVar0, fVarS, fC_e, fOp_e, fUn_e, asB_e, asI_e, fT_e, fAnd_e, fOr_e, fNot_e, fAndV_e, fOrV_e, fNotV_e, fIf_e, fChain_e, aNil_e, aCons_e, fTup_e, fLst_e, fCall_e, dTup_e, dLst_e, gAdd_i, gSub_i, gNeg_i, gEq_i, gNe_i, gLt_i, gLe_i, gGt_i, gGe_i, gIsN_e, gNotN_e, isN_n, isN_i, isN_t, isN_l, isN_b, gIsi_e, tyD_n, tyD_i, tyD_t, tyD_l, tyD_b, tyD_s, isaT_ii, isaT_bi, isaT_ib, isaT_bb, isaT_tt, isaT_ll, isaT_tb, isaT_ti, isaT_it, isaT_bt, isaT_lt, isaT_nt, isaT_st, gLen_l, gLen_t, gOne_l, gTuple_l, gTuple_t, gInt_b, gMin2_e, gMax2_e, fIt_e, items_l, items_t, fItA_e, gEnum_e, gZip_t, gNm0, gNmS, gNil_e, gCons_e, gTp_e, wipe0, wipeS, tYesD_e, sNil_e, sExpr_e, sRet_e, sRaise_e, sIf_e, sAsg_e, asF_e, sFor_e, endF_r, endF_n, endF_x, asO_s, fRg1_e, sFrz_e, gIx_t0, gIx_t1, gIx_t2, gIx_l0, gIx_l1, gIx_l2, Option.map_some, Option.bind_some, List.set_cons_succ, List.set_cons_zero, List.getElem?_cons_succ, List.getElem?_cons_zero, Bool.not_true, Bool.not_false, Bool.false_eq_true, ↓reduceIte, List.length_cons, List.length_nil, List.map_cons, List.map_nil, Nat.reduceAdd, Nat.reduceLeDiff, Nat.reduceLT, Bool.true_and, Bool.and_true, Bool.false_and, Bool.and_false, List.length_map, Nat.zero_le, drawn_e]; rfl)]
        rw [sSeq_n (h := by simp only [bnd_ok, bnd_err, then_ok, then_err, fVar0, fVarS, fC_e, fOp_e, fUn_e, asB_e, asI_e, fT_e, fAnd_e, fOr_e, fNot_e, fAndV_e, fOrV_e, fNotV_e, fIf_e, fChain_e, aNil_e, aCons_e, fTup_e, fLst_e, fCall_e, dTup_e, dLst_e, gAdd_i, gSub_i, gNeg_i, gEq_i, gNe_i, gLt_i, gLe_i, gGt_i, gGe_i, gIsN_e, gNotN_e, isN_n, isN_i, isN_t, isN_l, isN_b, gIsi_e, tyD_n, tyD_i, tyD_t, tyD_l, tyD_b, tyD_s, isaT_ii, isaT_bi, isaT_ib, isaT_bb, isaT_tt, isaT_ll, isaT_tb, isaT_ti, isaT_it, isaT_bt, isaT_lt, isaT_nt, isaT_st, gLen_l, gLen_t, gOne_l, gTuple_l, gTuple_t, gInt_b, gMin2_e, gMax2_e, fIt_e, items_l, items_t, fItA_e, gEnum_e, gZip_t, gNm0, gNmS, gNil_e, gCons_e, gTp_e, wipe0, wipeS, tYesD_e, sNil_e, sExpr_e, sRet_e, sRaise_e, sIf_e, sAsg_e, asF_e, sFor_e, endF_r, endF_n, endF_x, asO_s, fRg1_e, sFrz_e, gIx_t0, gIx_t1, gIx_t2, gIx_l0, gIx_l1, gIx_l2, Option.map_some, Option.bind_some, List.set_cons_succ, List.set_cons_zero, List.getElem?_cons_succ, List.getElem?_cons_zero, Bool.not_true, Bool.not_false, Bool.false_eq_true, ↓reduceIte, List.length_cons, List.length_nil, List.map_cons, List.map_nil, Nat.reduceAdd, Nat.reduceLeDiff, Nat.reduceLT, Bool.true_and, Bool.and_true, Bool.false_and, Bool.and_false, List.length_map, Nat.zero_le, fd _ 4096 rfl, md _ 3 rfl, e3, some_e _ F.length _ hy (by omega)]; rfl)]
        have hp : gPow (.int 2) (.int 20) = .ok (.int (2 ^ 20)) := pow_e 20 (by decide)
        rw [sSeq_n (h := by
          simp only [bnd_ok, bnd_err, then_ok, then_err, fVar0, fVarS, fC_e, fOp_e, fUn_e, asB_e, asI_e, fT_e, fAnd_e, fOr_e, fNot_e, fAndV_e, fOrV_e, fNotV_e, fIf_e, fChain_e, aNil_e, aCons_e, fTup_e, fLst_e, fCall_e, dTup_e, dLst_e, gAdd_i, gSub_i, gNeg_i, gEq_i, gNe_i, gLt_i, gLe_i, gGt_i, gGe_i, gIsN_e, gNotN_e, isN_n, isN_i, isN_t, isN_l, isN_b, gIsi_e, tyD_n, tyD_i, tyD_t, tyD_l, tyD_b, tyD_s, isaT_ii, isaT_bi, isaT_ib, isaT_bb, isaT_tt, isaT_ll, isaT_tb, isaT_ti, isaT_it, isaT_bt, isaT_lt, isaT_nt, isaT_st, gLen_l, gLen_t, gOne_l, gTuple_l, gTuple_t, gInt_b, gMin2_e, gMax2_e, fIt_e, items_l, items_t, fItA_e, gEnum_e, gZip_t, gNm0, gNmS, gNil_e, gCons_e, gTp_e, wipe0, wipeS, tYesD_e, sNil_e, sExpr_e, sRet_e, sRaise_e, sIf_e, sAsg_e, asF_e, sFor_e, endF_r, endF_n, endF_x, asO_s, fRg1_e, sFrz_e, gIx_t0, gIx_t1, gIx_t2, gIx_l0, gIx_l1, gIx_l2, Option.map_some, Option.bind_some, List.set_cons_succ, List.set_cons_zero, List.getElem?_cons_succ, List.getElem?_cons_zero, Bool.not_true, Bool.not_false, Bool.false_eq_true, ↓reduceIte, List.length_cons, List.length_nil, List.map_cons, List.map_nil, Nat.reduceAdd, Nat.reduceLeDiff, Nat.reduceLT, Bool.true_and, Bool.and_true, Bool.false_and, Bool.and_false, List.length_map, Nat.zero_le, fd _ 16 rfl, gMod_i _ _ hv0, fd _ 2 rfl, hp, fd _ (2 ^ 20) (by decide), md _ 2 rfl, e5]
          rw [gMul_i _ _ (.inl (.inr (by split <;> decide)))]
          simp only [bnd_ok, bnd_err, then_ok, then_err, fVar0, fVarS, fC_e, fOp_e, fUn_e, asB_e, asI_e, fT_e, fAnd_e, fOr_e, fNot_e, fAndV_e, fOrV_e, fNotV_e, fIf_e, fChain_e, aNil_e, aCons_e, fTup_e, fLst_e, fCall_e, dTup_e, dLst_e, gAdd_i, gSub_i, gNeg_i, gEq_i, gNe_i, gLt_i, gLe_i, gGt_i, gGe_i, gIsN_e, gNotN_e, isN_n, isN_i, isN_t, isN_l, isN_b, gIsi_e, tyD_n, tyD_i, tyD_t, tyD_l, tyD_b, tyD_s, isaT_ii, isaT_bi, isaT_ib, isaT_bb, isaT_tt, isaT_ll, isaT_tb, isaT_ti, isaT_it, isaT_bt, isaT_lt, isaT_nt, isaT_st, gLen_l, gLen_t, gOne_l, gTuple_l, gTuple_t, gInt_b, gMin2_e, gMax2_e, fIt_e, items_l, items_t, fItA_e, gEnum_e, gZip_t, gNm0, gNmS, gNil_e, gCons_e, gTp_e, wipe0, wipeS, tYesD_e, sNil_e, sExpr_e, sRet_e, sRaise_e, sIf_e, sAsg_e, asF_e, sFor_e, endF_r, endF_n, endF_x, asO_s, fRg1_e, sFrz_e, gIx_t0, gIx_t1, gIx_t2, gIx_l0, gIx_l1, gIx_l2, Option.map_some, Option.bind_some, List.set_cons_succ, List.set_cons_zero, List.getElem?_cons_succ, List.getElem?_cons_zero, Bool.not_true, Bool.not_false, Bool.false_eq_true, ↓reduceIte, List.length_cons, List.length_nil, List.map_cons, List.map_nil, Nat.reduceAdd, Nat.reduceLeDiff, Nat.reduceLT, Bool.true_and, Bool.and_true, Bool.false_and, Bool.and_false, List.length_map, Nat.zero_le]
          rfl)]
        rw [sApp_e (h := rfl) (hf := by
          simp only [bnd_ok, bnd_err, then_ok, then_err, fVar0, fVarS, fC_e, fOp_e, fUn_e, asB_e, asI_e, fT_e, fAnd_e, fOr_e, fNot_e, fAndV_e, fOrV_e, fNotV_e, fIf_e, fChain_e, aNil_e, aCons_e, fTup_e, fLst_e, fCall_e, dTup_e, dLst_e, gAdd_i, gSub_i, gNeg_i, gEq_i, gNe_i, gLt_i, gLe_i, gGt_i, gGe_i, gIsN_e, gNotN_e, isN_n, isN_i, isN_t, isN_l, isN_b, gIsi_e, tyD_n, tyD_i, tyD_t, tyD_l, tyD_b, tyD_s, isaT_ii, isaT_bi, isaT_ib, isaT_bb, isaT_tt, isaT_ll, isaT_tb, isaT_ti, isaT_it, isaT_bt, isaT_lt, isaT_nt, isaT_st, gLen_l, gLen_t, gOne_l, gTuple_l, gTuple_t, gInt_b, gMin2_e, gMax2_e, fIt_e, items_l, items_t, fItA_e, gEnum_e, gZip_t, gNm0, gNmS, gNil_e, gCons_e, gTp_e, wipe0, wipeS, tYesD_e, sNil_e, sExpr_e, sRet_e, sRaise_e, sIf_e, sAsg_e, asF_e, sFor_e, endF_r, endF_n, endF_x, asO_s, fRg1_e, sFrz_e, gIx_t0, gIx_t1, gIx_t2, gIx_l0, gIx_l1, gIx_l2, Option.map_some, Option.bind_some, List.set_cons_succ, List.set_cons_zero, List.getElem?_cons_succ, List.getElem?_cons_zero, Bool.not_true, Bool.not_false, Bool.false_eq_true, ↓reduceIte, List.length_cons, List.length_nil, List.map_cons, List.map_nil, Nat.reduceAdd, Nat.reduceLeDiff, Nat.reduceLT, Bool.true_and, Bool.and_true, Bool.false_and, Bool.and_false, List.length_map, Nat.zero_le, fd _ 1024 rfl, fd _ 8 rfl, md _ 2 rfl, e4, gMod_i _ _ hc]
          rfl) (hl := by rw [List.length_map]; omega)]
        simp only [bnd_ok, bnd_err, then_ok, then_err, fVar0, fVarS, fC_e, fOp_e, fUn_e, asB_e, asI_e, fT_e, fAnd_e, fOr_e, fNot_e, fAndV_e, fOrV_e, fNotV_e, fIf_e, fChain_e, aNil_e, aCons_e, fTup_e, fLst_e, fCall_e, dTup_e, dLst_e, gAdd_i, gSub_i, gNeg_i, gEq_i, gNe_i, gLt_i, gLe_i, gGt_i, gGe_i, gIsN_e, gNotN_e, isN_n, isN_i, isN_t, isN_l, isN_b, gIsi_e, tyD_n, tyD_i, tyD_t, tyD_l, tyD_b, tyD_s, isaT_ii, isaT_bi, isaT_ib, isaT_bb, isaT_tt, isaT_ll, isaT_tb, isaT_ti, isaT_it, isaT_bt, isaT_lt, isaT_nt, isaT_st, gLen_l, gLen_t, gOne_l, gTuple_l, gTuple_t, gInt_b, gMin2_e, gMax2_e, fIt_e, items_l, items_t, fItA_e, gEnum_e, gZip_t, gNm0, gNmS, gNil_e, gCons_e, gTp_e, wipe0, wipeS, tYesD_e, sNil_e, sExpr_e, sRet_e, sRaise_e, sIf_e, sAsg_e, asF_e, sFor_e, endF_r, endF_n, endF_x, asO_s, fRg1_e, sFrz_e, gIx_t0, gIx_t1, gIx_t2, gIx_l0, gIx_l1, gIx_l2, Option.map_some, Option.bind_some, List.set_cons_succ, List.set_cons_zero, List.getElem?_cons_succ, List.getElem?_cons_zero, Bool.not_true, Bool.not_false, Bool.false_eq_true, ↓reduceIte, List.length_cons, List.length_nil, List.map_cons, List.map_nil, Nat.reduceAdd, Nat.reduceLeDiff, Nat.reduceLT, Bool.true_and, Bool.and_true, Bool.false_and, Bool.and_false, List.length_map, Nat.zero_le, List.map_append]
        rw [nat_of (show 0 ≤ drawn m (10 + (j : Int)) / 16 % v + z * (if decide (v < 50) = true then 1 else 0) by omega), nat_of (show 0 ≤ 1 + drawn m (10 + (j : Int)) / 1024 % c by omega)]
      · intro s hs
        rcases List.mem_append.mp hs with hs | hs
        · exact hsp s hs
        · rw [List.mem_singleton.mp hs]
          refine ⟨?_, ?_, ?_, some_rise _ _ _⟩
          · show Int.toNat _ ≤ 99
            omega
          · show 1 ≤ Int.toNat _
            omega
          · show Int.toNat _ ≤ 20
            omega) (ρ := [.dat (.int m), .dat (nD most), .dat (.int v), .dat (tN F), .own [], .non, .non, .non, .non, .non]) ⟨[], .non, .non, .non, .non, rfl, rfl, by simp⟩
  have q1 := Int.emod_lt_of_pos (m / 512) (b := ((most + 1 : Nat) : Int)) (by omega)
  have q0 := Int.emod_nonneg (m / 512) (b := ((most + 1 : Nat) : Int)) (by omega)
  have cst : (most : Int) + 1 = ((most + 1 : Nat) : Int) := by omega
  rw [List.length_range] at hl
  rw [sSeq_n (h := by
    simp only [bnd_ok, bnd_err, then_ok, then_err, fVar0, fVarS, fC_e, fOp_e, fUn_e, asB_e, asI_e, fT_e, fAnd_e, fOr_e, fNot_e, fAndV_e, fOrV_e, fNotV_e, fIf_e, fChain_e, aNil_e, aCons_e, fTup_e, fLst_e, fCall_e, dTup_e, dLst_e, gAdd_i, gSub_i, gNeg_i, gEq_i, gNe_i, gLt_i, gLe_i, gGt_i, gGe_i, gIsN_e, gNotN_e, isN_n, isN_i, isN_t, isN_l, isN_b, gIsi_e, tyD_n, tyD_i, tyD_t, tyD_l, tyD_b, tyD_s, isaT_ii, isaT_bi, isaT_ib, isaT_bb, isaT_tt, isaT_ll, isaT_tb, isaT_ti, isaT_it, isaT_bt, isaT_lt, isaT_nt, isaT_st, gLen_l, gLen_t, gOne_l, gTuple_l, gTuple_t, gInt_b, gMin2_e, gMax2_e, fIt_e, items_l, items_t, fItA_e, gEnum_e, gZip_t, gNm0, gNmS, gNil_e, gCons_e, gTp_e, wipe0, wipeS, tYesD_e, sNil_e, sExpr_e, sRet_e, sRaise_e, sIf_e, sAsg_e, asF_e, sFor_e, endF_r, endF_n, endF_x, asO_s, fRg1_e, sFrz_e, gIx_t0, gIx_t1, gIx_t2, gIx_l0, gIx_l1, gIx_l2, Option.map_some, Option.bind_some, List.set_cons_succ, List.set_cons_zero, List.getElem?_cons_succ, List.getElem?_cons_zero, Bool.not_true, Bool.not_false, Bool.false_eq_true, ↓reduceIte, List.length_cons, List.length_nil, List.map_cons, List.map_nil, Nat.reduceAdd, Nat.reduceLeDiff, Nat.reduceLT, Bool.true_and, Bool.and_true, Bool.false_and, Bool.and_false, List.length_map, Nat.zero_le, fd _ 512 rfl, cst, gMod_i (m / 512) _ (show 0 < ((most + 1 : Nat) : Int) by omega), rng_i _ q0 (by omega), h1]
    rfl)]
  rw [sSeq_n (h := sOwn_e _ _ (by simp))]
  obtain ⟨ρ, h2, kk, j5, j6, rfl, hl2, hkk⟩ := for_inv nD (gt := gNm 5) (body := (sSeq (sAsg (fCall m_law_drawn (aCons (fVar 0) (aCons (fOp gAdd (fC (.int 30)) (fVar 5)) aNil))) (gNm 6))
    (sApp 9 (fTup (aCons (fCall gMin2 (aCons (fC (.int 99)) (aCons (fOp gMod (fOp gFdiv (fVar 6) (fC (.int 16))) (fOp gMul (fC (.int 2)) (fVar 2))) aNil))) (aCons (fOp gMod (fOp gFdiv (fVar 6) (fC (.int 1024))) (fOp gIx (fLst (aCons (fC (.int 21)) (aCons (fC (.int 2)) aNil))) (fOp gMod (fOp gFdiv (fVar 6) (fC (.int 8))) (fC (.int 2))))) aNil))))))
    (fun pre ρ => ∃ (kk : List (Nat × Nat)) (j5 j6 : Slot), ρ = [.dat (.int m), .dat (nD most), .dat (.int v), .dat (tN F), .own (sp.map eS), j5, j6, j7, j8, .own (kk.map eK)] ∧ kk.length = pre.length ∧ ∀ s ∈ kk, s.1 ≤ 99 ∧ s.2 ≤ 20)
    (List.range (m / 2 ^ 30 % 4).toNat) (fun pre j post ρ e ⟨kk, j5, j6, hρ, hl, hsp⟩ => by
      subst hρ
      have hlen : pre.length ≤ (List.range (m / 2 ^ 30 % 4).toNat).length := by rw [e]; simp
      rw [List.length_range] at hlen
      have hh0 := drawn_nonneg m (30 + (j : Int))
      obtain ⟨w, hw, e4⟩ := pick2 (.int 21) (.int 2) (drawn m (30 + (j : Int)) / 8 % 2) (by omega) (by omega)
      obtain ⟨c, rfl, hc, hc'⟩ : ∃ v : Int, w = .int v ∧ 0 < v ∧ v ≤ 21 := by
        rcases hw with rfl | rfl
        · exact ⟨_, rfl, by decide, by decide⟩
        · exact ⟨_, rfl, by decide, by decide⟩
      have hv2 : 0 < 2 * v := by omega
      have r0 := Int.emod_nonneg (drawn m (30 + (j : Int)) / 16) (b := 2 * v) (by omega)
      have r2 := Int.emod_nonneg (drawn m (30 + (j : Int)) / 1024) (b := c) (by omega)
      have r3 := Int.emod_lt_of_pos (drawn m (30 + (j : Int)) / 1024) hc
      refine ⟨_, forOne_n (by simp only [bnd_ok, bnd_err, then_ok, then_err, fVar0, fVarS, fC_e, fOp_e, fUn_e, asB_e, asI_e, fT_e, fAnd_e, fOr_e, fNot_e, fAndV_e, fOrV_e, fNotV_e, fIf_e, fChain_e, aNil_e, aCons_e, fTup_e, fLst_e, fCall_e, dTup_e, dLst_e, gAdd_i, gSub_i, gNeg_i, gEq_i, gNe_i, gLt_i, gLe_i, gGt_i, gGe_i, gIsN_e, gNotN_e, isN_n, isN_i, isN_t, isN_l, isN_b, gIsi_e, tyD_n, tyD_i, tyD_t, tyD_l, tyD_b, tyD_s, isaT_ii, isaT_bi, isaT_ib, isaT_bb, isaT_tt, isaT_ll, isaT_tb, isaT_ti, isaT_it, isaT_bt, isaT_lt, isaT_nt, isaT_st, gLen_l, gLen_t, gOne_l, gTuple_l, gTuple_t, gInt_b, gMin2_e, gMax2_e, fIt_e, items_l, items_t, fItA_e, gEnum_e, gZip_t, gNm0, gNmS, gNil_e, gCons_e, gTp_e, wipe0, wipeS, tYesD_e, sNil_e, sExpr_e, sRet_e, sRaise_e, sIf_e, sAsg_e, asF_e, sFor_e, endF_r, endF_n, endF_x, asO_s, fRg1_e, sFrz_e, gIx_t0, gIx_t1, gIx_t2, gIx_l0, gIx_l1, gIx_l2, Option.map_some, Option.bind_some, List.set_cons_succ, List.set_cons_zero, List.getElem?_cons_succ, List.getElem?_cons_zero, Bool.not_true, Bool.not_false, Bool.false_eq_true, ↓reduceIte, List.length_cons, List.length_nil, List.map_cons, List.map_nil, Nat.reduceAdd, Nat.reduceLeDiff, Nat.reduceLT, Bool.true_and, Bool.and_true, Bool.false_and, Bool.and_false, List.length_map, Nat.zero_le]; rfl) ?_, kk ++ [((min 99 (drawn m (30 + (j : Int)) / 16 % (2 * v))).toNat, (drawn m (30 + (j : Int)) / 1024 % c).toNat)], .dat (nD j), .dat (.int (drawn m (30 + (j : Int)))), rfl, by simp [hl], ?_⟩
      · rw [sSeq_n (h := by simp only [bnd_ok, bnd_err, then_ok, then_err, fVar0, fVarS, fC_e, fOp_e, fUn_e, asB_e, asI_e, fT_e, fAnd_e, fOr_e, fNot_e, fAndV_e, fOrV_e, fNotV_e, fIf_e, fChain_e, aNil_e, aCons_e, fTup_e, fLst_e, fCall_e, dTup_e, dLst_e, gAdd_i, gSub_i, gNeg_i, gEq_i, gNe_i, gLt_i, gLe_i, gGt_i, gGe_i, gIsN_e, gNotN_e, isN_n, isN_i, isN_t, isN_l, isN_b, gIsi_e, tyD_n, tyD_i, tyD_t, tyD_l, tyD_b, tyD_s, isaT_ii, isaT_bi, isaT_ib, isaT_bb, isaT_tt, isaT_ll, isaT_tb, isaT_ti, isaT_it, isaT_bt, isaT_lt, isaT_nt, isaT_st, gLen_l, gLen_t, gOne_l, gTuple_l, gTuple_t, gInt_b, gMin2_e, gMax2_e, fIt_e, items_l, items_t, fItA_e, gEnum_e, gZip_t, gNm0, gNmS, gNil_e, gCons_e, gTp_e, wipe0, wipeS, tYesD_e, sNil_e, sExpr_e, sRet_e, sRaise_e, sIf_e, sAsg_e, asF_e, sFor_e, endF_r, endF_n, endF_x, asO_s, fRg1_e, sFrz_e, gIx_t0, gIx_t1, gIx_t2, gIx_l0, gIx_l1, gIx_l2, Option.map_some, Option.bind_some, List.set_cons_succ, List.set_cons_zero, List.getElem?_cons_succ, List.getElem?_cons_zero, Bool.not_true, Bool.not_false, Bool.false_eq_true, ↓reduceIte, List.length_cons, List.length_nil, List.map_cons, List.map_nil, Nat.reduceAdd, Nat.reduceLeDiff, Nat.reduceLT, Bool.true_and, Bool.and_true, Bool.false_and, Bool.and_false, List.length_map, Nat.zero_le, drawn_e]; rfl)]
        rw [sApp_e (h := rfl) (hf := by
          simp only [bnd_ok, bnd_err, then_ok, then_err, fVar0, fVarS, fC_e, fOp_e, fUn_e, asB_e, asI_e, fT_e, fAnd_e, fOr_e, fNot_e, fAndV_e, fOrV_e, fNotV_e, fIf_e, fChain_e, aNil_e, aCons_e, fTup_e, fLst_e, fCall_e, dTup_e, dLst_e, gAdd_i, gSub_i, gNeg_i, gEq_i, gNe_i, gLt_i, gLe_i, gGt_i, gGe_i, gIsN_e, gNotN_e, isN_n, isN_i, isN_t, isN_l, isN_b, gIsi_e, tyD_n, tyD_i, tyD_t, tyD_l, tyD_b, tyD_s, isaT_ii, isaT_bi, isaT_ib, isaT_bb, isaT_tt, isaT_ll, isaT_tb, isaT_ti, isaT_it, isaT_bt, isaT_lt, isaT_nt, isaT_st, gLen_l, gLen_t, gOne_l, gTuple_l, gTuple_t, gInt_b, gMin2_e, gMax2_e, fIt_e, items_l, items_t, fItA_e, gEnum_e, gZip_t, gNm0, gNmS, gNil_e, gCons_e, gTp_e, wipe0, wipeS, tYesD_e, sNil_e, sExpr_e, sRet_e, sRaise_e, sIf_e, sAsg_e, asF_e, sFor_e, endF_r, endF_n, endF_x, asO_s, fRg1_e, sFrz_e, gIx_t0, gIx_t1, gIx_t2, gIx_l0, gIx_l1, gIx_l2, Option.map_some, Option.bind_some, List.set_cons_succ, List.set_cons_zero, List.getElem?_cons_succ, List.getElem?_cons_zero, Bool.not_true, Bool.not_false, Bool.false_eq_true, ↓reduceIte, List.length_cons, List.length_nil, List.map_cons, List.map_nil, Nat.reduceAdd, Nat.reduceLeDiff, Nat.reduceLT, Bool.true_and, Bool.and_true, Bool.false_and, Bool.and_false, List.length_map, Nat.zero_le, fd _ 1024 rfl, fd _ 16 rfl, mulL 2 v (by decide), gMod_i _ _ hv2, fd _ 8 rfl, md _ 2 rfl, e4, gMod_i _ _ hc]
          rfl) (hl := by rw [List.length_map]; omega)]
        simp only [bnd_ok, bnd_err, then_ok, then_err, fVar0, fVarS, fC_e, fOp_e, fUn_e, asB_e, asI_e, fT_e, fAnd_e, fOr_e, fNot_e, fAndV_e, fOrV_e, fNotV_e, fIf_e, fChain_e, aNil_e, aCons_e, fTup_e, fLst_e, fCall_e, dTup_e, dLst_e, gAdd_i, gSub_i, gNeg_i, gEq_i, gNe_i, gLt_i, gLe_i, gGt_i, gGe_i, gIsN_e, gNotN_e, isN_n, isN_i, isN_t, isN_l, isN_b, gIsi_e, tyD_n, tyD_i, tyD_t, tyD_l, tyD_b, tyD_s, isaT_ii, isaT_bi, isaT_ib, isaT_bb, isaT_tt, isaT_ll, isaT_tb, isaT_ti, isaT_it, isaT_bt, isaT_lt, isaT_nt, isaT_st, gLen_l, gLen_t, gOne_l, gTuple_l, gTuple_t, gInt_b, gMin2_e, gMax2_e, fIt_e, items_l, items_t, fItA_e, gEnum_e, gZip_t, gNm0, gNmS, gNil_e, gCons_e, gTp_e, wipe0, wipeS, tYesD_e, sNil_e, sExpr_e, sRet_e, sRaise_e, sIf_e, sAsg_e, asF_e, sFor_e, endF_r, endF_n, endF_x, asO_s, fRg1_e, sFrz_e, gIx_t0, gIx_t1, gIx_t2, gIx_l0, gIx_l1, gIx_l2, Option.map_some, Option.bind_some, List.set_cons_succ, List.set_cons_zero, List.getElem?_cons_succ, List.getElem?_cons_zero, Bool.not_true, Bool.not_false, Bool.false_eq_true, ↓reduceIte, List.length_cons, List.length_nil, List.map_cons, List.map_nil, Nat.reduceAdd, Nat.reduceLeDiff, Nat.reduceLT, Bool.true_and, Bool.and_true, Bool.false_and, Bool.and_false, List.length_map, Nat.zero_le, List.map_append]
        rw [nat_of (show 0 ≤ min 99 (drawn m (30 + (j : Int)) / 16 % (2 * v)) by omega), nat_of r2]
      · intro s hs
        rcases List.mem_append.mp hs with hs | hs
        · exact hsp s hs
        · rw [List.mem_singleton.mp hs]
          refine ⟨?_, ?_⟩
          · show Int.toNat _ ≤ 99
            omega
          · show Int.toNat _ ≤ 20
            omega) (ρ := [.dat (.int m), .dat (nD most), .dat (.int v), .dat (tN F), .own (sp.map eS), j5, j6, j7, j8, .own []]) ⟨[], j5, j6, rfl, rfl, by simp⟩
  have hp : gPow (.int 2) (.int 30) = .ok (.int (2 ^ 30)) := pow_e 30 (by decide)
  rw [List.length_range] at hl2
  rw [sSeq_n (h := by
    simp only [bnd_ok, bnd_err, then_ok, then_err, fVar0, fVarS, fC_e, fOp_e, fUn_e, asB_e, asI_e, fT_e, fAnd_e, fOr_e, fNot_e, fAndV_e, fOrV_e, fNotV_e, fIf_e, fChain_e, aNil_e, aCons_e, fTup_e, fLst_e, fCall_e, dTup_e, dLst_e, gAdd_i, gSub_i, gNeg_i, gEq_i, gNe_i, gLt_i, gLe_i, gGt_i, gGe_i, gIsN_e, gNotN_e, isN_n, isN_i, isN_t, isN_l, isN_b, gIsi_e, tyD_n, tyD_i, tyD_t, tyD_l, tyD_b, tyD_s, isaT_ii, isaT_bi, isaT_ib, isaT_bb, isaT_tt, isaT_ll, isaT_tb, isaT_ti, isaT_it, isaT_bt, isaT_lt, isaT_nt, isaT_st, gLen_l, gLen_t, gOne_l, gTuple_l, gTuple_t, gInt_b, gMin2_e, gMax2_e, fIt_e, items_l, items_t, fItA_e, gEnum_e, gZip_t, gNm0, gNmS, gNil_e, gCons_e, gTp_e, wipe0, wipeS, tYesD_e, sNil_e, sExpr_e, sRet_e, sRaise_e, sIf_e, sAsg_e, asF_e, sFor_e, endF_r, endF_n, endF_x, asO_s, fRg1_e, sFrz_e, gIx_t0, gIx_t1, gIx_t2, gIx_l0, gIx_l1, gIx_l2, Option.map_some, Option.bind_some, List.set_cons_succ, List.set_cons_zero, List.getElem?_cons_succ, List.getElem?_cons_zero, Bool.not_true, Bool.not_false, Bool.false_eq_true, ↓reduceIte, List.length_cons, List.length_nil, List.map_cons, List.map_nil, Nat.reduceAdd, Nat.reduceLeDiff, Nat.reduceLT, Bool.true_and, Bool.and_true, Bool.false_and, Bool.and_false, List.length_map, Nat.zero_le, hp, fd _ (2 ^ 30) (by decide), md _ 4 rfl, rng_i (m / 2 ^ 30 % 4) (by omega) (by omega), h2]
    rfl)]
  refine ⟨⟨F, sp, kk⟩, ⟨F1, F6, ?_, ?_, F99, hsp, hkk⟩, ?_, ?_⟩
  · show sp.length ≤ 8
    omega
  · show kk.length ≤ 3
    omega
  · show sp.length ≤ most
    omega
  · rw [sFrz_e, frz_e (h := rfl), sFrz_e, frz_e (h := rfl)]
    simp only [bnd_ok, bnd_err, then_ok, then_err, fVar0, fVarS, fC_e, fOp_e, fUn_e, asB_e, asI_e, fT_e, fAnd_e, fOr_e, fNot_e, fAndV_e, fOrV_e, fNotV_e, fIf_e, fChain_e, aNil_e, aCons_e, fTup_e, fLst_e, fCall_e, dTup_e, dLst_e, gAdd_i, gSub_i, gNeg_i, gEq_i, gNe_i, gLt_i, gLe_i, gGt_i, gGe_i, gIsN_e, gNotN_e, isN_n, isN_i, isN_t, isN_l, isN_b, gIsi_e, tyD_n, tyD_i, tyD_t, tyD_l, tyD_b, tyD_s, isaT_ii, isaT_bi, isaT_ib, isaT_bb, isaT_tt, isaT_ll, isaT_tb, isaT_ti, isaT_it, isaT_bt, isaT_lt, isaT_nt, isaT_st, gLen_l, gLen_t, gOne_l, gTuple_l, gTuple_t, gInt_b, gMin2_e, gMax2_e, fIt_e, items_l, items_t, fItA_e, gEnum_e, gZip_t, gNm0, gNmS, gNil_e, gCons_e, gTp_e, wipe0, wipeS, tYesD_e, sNil_e, sExpr_e, sRet_e, sRaise_e, sIf_e, sAsg_e, asF_e, sFor_e, endF_r, endF_n, endF_x, asO_s, fRg1_e, sFrz_e, gIx_t0, gIx_t1, gIx_t2, gIx_l0, gIx_l1, gIx_l2, Option.map_some, Option.bind_some, List.set_cons_succ, List.set_cons_zero, List.getElem?_cons_succ, List.getElem?_cons_zero, Bool.not_true, Bool.not_false, Bool.false_eq_true, ↓reduceIte, List.length_cons, List.length_nil, List.map_cons, List.map_nil, Nat.reduceAdd, Nat.reduceLeDiff, Nat.reduceLT, Bool.true_and, Bool.and_true, Bool.false_and, Bool.and_false, List.length_map, Nat.zero_le]
end Bl
namespace Bl
open PySem L2 Dl
/-! ### least pairs -/
theorem minP_mem (x : Nat × Nat) (xs : List (Nat × Nat)) : minP x xs ∈ x :: xs := by
  unfold minP
  induction xs generalizing x with
  | nil => exact List.mem_cons_self
  | cons y ys ih =>
    rw [List.foldl_cons]
    split
    · exact List.mem_cons_of_mem _ (ih y)
    · rcases List.mem_cons.mp (ih x) with h | h
      · rw [h]; exact List.mem_cons_self
      · exact List.mem_cons_of_mem _ (List.mem_cons_of_mem _ h)
theorem ltP_asymm_le {p q : Nat × Nat} (h : ltP p q = false) : q.1 ≤ p.1 := by
  unfold ltP at h
  have := of_decide_eq_false h
  omega
theorem ltP_le {p q : Nat × Nat} (h : ltP p q = true) : p.1 ≤ q.1 := by
  unfold ltP at h
  have := of_decide_eq_true h
  omega
theorem minP_le (x : Nat × Nat) (xs : List (Nat × Nat)) : ∀ y ∈ x :: xs, (minP x xs).1 ≤ y.1 := by
  unfold minP
  induction xs generalizing x with
  | nil => intro y hy; rw [List.mem_singleton.mp hy]; exact Nat.le_refl _
  | cons z zs ih =>
    intro y hy
    rw [List.foldl_cons]
    cases h : ltP z x with
    | true =>
      have h0 := ih z z List.mem_cons_self
      rw [if_pos rfl]
      rcases List.mem_cons.mp hy with rfl | hy
      · exact Nat.le_trans h0 (ltP_le h)
      · exact ih z y hy
    | false =>
      have h0 := ih x x List.mem_cons_self
      rw [if_neg (by decide)]
      rcases List.mem_cons.mp hy with rfl | hy
      · exact h0
      · rcases List.mem_cons.mp hy with rfl | hy
        · exact Nat.le_trans h0 (ltP_asymm_le h)
        · exact ih x y (List.mem_cons_of_mem _ hy)
theorem cMin_some {l : List (Nat × Nat)} : (cMin l).isSome = true ↔ ∃ p, p ∈ l := by
  cases l with
  | nil => simp [cMin]
  | cons x xs => exact ⟨fun _ => ⟨x, List.mem_cons_self⟩, fun _ => rfl⟩
theorem cMin_spec {l : List (Nat × Nat)} {p : Nat × Nat} (h : cMin l = some p) : p ∈ l ∧ ∀ y ∈ l, p.1 ≤ y.1 := by
  cases l with
  | nil => cases h
  | cons x xs =>
    have h := Option.some.inj h
    subst h
    exact ⟨minP_mem x xs, minP_le x xs⟩
theorem mem_cands {b : Belt} {ks : List Nat} {place : Nat} {p : Nat × Nat} : p ∈ cands b ks place ↔ p.2 ∈ ks ∧ p.1 = kat b p.2 ∧ place ≤ p.1 := by
  unfold cands
  rw [List.mem_filterMap]
  constructor
  · rintro ⟨k, hk, h⟩
    split at h
    · have h := Option.some.inj h; subst h; exact ⟨hk, rfl, by assumption⟩
    · cases h
  · rintro ⟨h1, h2, h3⟩
    refine ⟨p.2, h1, ?_⟩
    rw [if_pos (h2 ▸ h3), ← h2]
theorem first_some {b : Belt} {ks : List Nat} {place : Nat} : (cFirst b ks place).isSome = true ↔ ∃ k ∈ ks, place ≤ kat b k := by
  unfold cFirst
  rw [Option.isSome_map, cMin_some]
  constructor
  · rintro ⟨p, hp⟩
    obtain ⟨h1, h2, h3⟩ := mem_cands.mp hp
    exact ⟨p.2, h1, h2 ▸ h3⟩
  · rintro ⟨k, hk, h⟩
    exact ⟨(kat b k, k), mem_cands.mpr ⟨hk, rfl, h⟩⟩
theorem mem_oCands {b : Belt} {ss bo sl : List Nat} {p : Nat × Nat} : p ∈ oCands b ss bo sl ↔ p.2 ∈ ss ∧ p.2 ∉ sl ∧ (∃ f ∈ bo, cSees b p.2 f = true) ∧ p.1 = sat b p.2 := by
  unfold oCands
  rw [List.mem_filterMap]
  constructor
  · rintro ⟨k, hk, h⟩
    split at h
    · rename_i hc
      have h := Option.some.inj h
      subst h
      rw [Bool.and_eq_true] at hc
      exact ⟨hk, by simpa using hc.1, by simpa using hc.2, rfl⟩
    · cases h
  · rintro ⟨h1, h2, h3, h4⟩
    refine ⟨p.2, h1, ?_⟩
    rw [if_pos (by rw [Bool.and_eq_true]; exact ⟨by simpa using h2, by simpa using h3⟩), ← h4]
theorem out_some {b : Belt} {ss ks bo sl : List Nat} : (cOut b ss ks bo sl).isSome = true ↔ ∃ s ∈ ss, s ∉ sl ∧ (∃ f ∈ bo, cSees b s f = true) ∧ ∃ k ∈ ks, sat b s ≤ kat b k := by
  unfold cOut
  cases hm : cMin (oCands b ss bo sl) with
  | none =>
    constructor
    · intro h; cases h
    · rintro ⟨s, h1, h2, h3, _⟩
      have : (cMin (oCands b ss bo sl)).isSome = true := cMin_some.mpr ⟨(sat b s, s), mem_oCands.mpr ⟨h1, h2, h3, rfl⟩⟩
      rw [hm] at this
      cases this
  | some p =>
    obtain ⟨hp, hmin⟩ := cMin_spec hm
    obtain ⟨h1, h2, h3, h4⟩ := mem_oCands.mp hp
    rw [Option.bind_some, Option.isSome_map, first_some]
    constructor
    · rintro ⟨k, hk, h⟩
      exact ⟨p.2, h1, h2, h3, k, hk, h4 ▸ h⟩
    · rintro ⟨s, g1, g2, g3, k, hk, h⟩
      exact ⟨k, hk, Nat.le_trans (hmin (sat b s, s) (mem_oCands.mpr ⟨g1, g2, g3, rfl⟩)) h⟩
theorem use_len (b : Belt) (ss ks : List Nat) (f : Nat) : (cUse b ss ks f).length = ss.countP fun s => cSees b s f && (cFirst b ks (sat b s)).isSome := by
  unfold cUse
  rw [List.countP_eq_length_filter]
/-! ### least counts -/
theorem fold_min_le (x : Nat) (xs : List Nat) : xs.foldl min x ≤ x ∧ ∀ y ∈ xs, xs.foldl min x ≤ y := by
  induction xs generalizing x with
  | nil => exact ⟨Nat.le_refl _, by simp⟩
  | cons z zs ih =>
    rw [List.foldl_cons]
    obtain ⟨h1, h2⟩ := ih (min x z)
    refine ⟨by omega, fun y hy => ?_⟩
    rcases List.mem_cons.mp hy with rfl | hy
    · omega
    · exact h2 y hy
theorem fold_min_mem (x : Nat) (xs : List Nat) : xs.foldl min x ∈ x :: xs := by
  induction xs generalizing x with
  | nil => simp
  | cons z zs ih =>
    rw [List.foldl_cons]
    rcases List.mem_cons.mp (ih (min x z)) with h | h
    · rw [h]
      rcases Nat.le_total x z with h | h
      · rw [Nat.min_eq_left h]; simp
      · rw [Nat.min_eq_right h]; simp
    · exact List.mem_cons_of_mem _ (List.mem_cons_of_mem _ h)
theorem minL_le {xs : List Nat} {y : Nat} (h : y ∈ xs) : minL xs ≤ y := by
  cases xs with
  | nil => cases h
  | cons x xs =>
    rcases List.mem_cons.mp h with rfl | h
    · exact (fold_min_le y xs).1
    · exact (fold_min_le x xs).2 y h
theorem minL_mem {xs : List Nat} (h : xs ≠ []) : minL xs ∈ xs := by
  cases xs with
  | nil => exact absurd rfl h
  | cons x xs => exact fold_min_mem x xs
theorem minL_mono {α : Type} {xs : List α} {f g : α → Nat} (h : ∀ x ∈ xs, f x ≤ g x) : minL (xs.map f) ≤ minL (xs.map g) := by
  cases xs with
  | nil => exact Nat.le_refl _
  | cons x xs =>
    obtain ⟨y, hy, e⟩ := List.mem_map.mp (minL_mem (xs := (x :: xs).map g) (by simp))
    rw [← e]
    exact Nat.le_trans (minL_le (List.mem_map.mpr ⟨y, hy, rfl⟩)) (h y hy)
theorem least_mono {b b' : Belt} {ss ks ss' ks' : List Nat} (hb : b'.F.length = b.F.length) (h : ∀ f < b.F.length, (cUse b ss ks f).length ≤ (cUse b' ss' ks' f).length) : cLeast b ss ks ≤ cLeast b' ss' ks' := by
  unfold cLeast
  rw [hb]
  exact minL_mono fun f hf => h f (List.mem_range.mp hf)
theorem no_fewer_e (a b : Option Nat) : m_law_no_fewer [oN a, oN b] = .ok (.bool (!b.isSome || (a.isSome && decide (b.getD 0 ≤ a.getD 0)))) := by
  rw [q_law_no_fewer]
  unfold b_law_no_fewer
  cases b with
  | none => simp only [bnd_ok, bnd_err, then_ok, then_err, fVar0, fVarS, fC_e, fOp_e, fUn_e, asB_e, asI_e, fT_e, fAnd_e, fOr_e, fNot_e, fAndV_e, fOrV_e, fNotV_e, fIf_e, fChain_e, aNil_e, aCons_e, fTup_e, fLst_e, fCall_e, dTup_e, dLst_e, gAdd_i, gSub_i, gNeg_i, gEq_i, gNe_i, gLt_i, gLe_i, gGt_i, gGe_i, gIsN_e, gNotN_e, isN_n, isN_i, isN_t, isN_l, isN_b, gIsi_e, tyD_n, tyD_i, tyD_t, tyD_l, tyD_b, tyD_s, isaT_ii, isaT_bi, isaT_ib, isaT_bb, isaT_tt, isaT_ll, isaT_tb, isaT_ti, isaT_it, isaT_bt, isaT_lt, isaT_nt, isaT_st, gLen_l, gLen_t, gOne_l, gTuple_l, gTuple_t, gInt_b, gMin2_e, gMax2_e, fIt_e, items_l, items_t, fItA_e, gEnum_e, gZip_t, gNm0, gNmS, gNil_e, gCons_e, gTp_e, wipe0, wipeS, tYesD_e, sNil_e, sExpr_e, sRet_e, sRaise_e, sIf_e, sAsg_e, asF_e, sFor_e, endF_r, endF_n, endF_x, asO_s, fRg1_e, sFrz_e, gIx_t0, gIx_t1, gIx_t2, gIx_l0, gIx_l1, gIx_l2, Option.map_some, Option.bind_some, List.set_cons_succ, List.set_cons_zero, List.getElem?_cons_succ, List.getElem?_cons_zero, Bool.not_true, Bool.not_false, Bool.false_eq_true, ↓reduceIte, List.length_cons, List.length_nil, List.map_cons, List.map_nil, Nat.reduceAdd, Nat.reduceLeDiff, Nat.reduceLT, Bool.true_and, Bool.and_true, Bool.false_and, Bool.and_false, List.length_map, Nat.zero_le, oN]; rfl
  | some y =>
    cases a with
    | none => simp only [bnd_ok, bnd_err, then_ok, then_err, fVar0, fVarS, fC_e, fOp_e, fUn_e, asB_e, asI_e, fT_e, fAnd_e, fOr_e, fNot_e, fAndV_e, fOrV_e, fNotV_e, fIf_e, fChain_e, aNil_e, aCons_e, fTup_e, fLst_e, fCall_e, dTup_e, dLst_e, gAdd_i, gSub_i, gNeg_i, gEq_i, gNe_i, gLt_i, gLe_i, gGt_i, gGe_i, gIsN_e, gNotN_e, isN_n, isN_i, isN_t, isN_l, isN_b, gIsi_e, tyD_n, tyD_i, tyD_t, tyD_l, tyD_b, tyD_s, isaT_ii, isaT_bi, isaT_ib, isaT_bb, isaT_tt, isaT_ll, isaT_tb, isaT_ti, isaT_it, isaT_bt, isaT_lt, isaT_nt, isaT_st, gLen_l, gLen_t, gOne_l, gTuple_l, gTuple_t, gInt_b, gMin2_e, gMax2_e, fIt_e, items_l, items_t, fItA_e, gEnum_e, gZip_t, gNm0, gNmS, gNil_e, gCons_e, gTp_e, wipe0, wipeS, tYesD_e, sNil_e, sExpr_e, sRet_e, sRaise_e, sIf_e, sAsg_e, asF_e, sFor_e, endF_r, endF_n, endF_x, asO_s, fRg1_e, sFrz_e, gIx_t0, gIx_t1, gIx_t2, gIx_l0, gIx_l1, gIx_l2, Option.map_some, Option.bind_some, List.set_cons_succ, List.set_cons_zero, List.getElem?_cons_succ, List.getElem?_cons_zero, Bool.not_true, Bool.not_false, Bool.false_eq_true, ↓reduceIte, List.length_cons, List.length_nil, List.map_cons, List.map_nil, Nat.reduceAdd, Nat.reduceLeDiff, Nat.reduceLT, Bool.true_and, Bool.and_true, Bool.false_and, Bool.and_false, List.length_map, Nat.zero_le, oN]; rfl
    | some x => simp only [bnd_ok, bnd_err, then_ok, then_err, fVar0, fVarS, fC_e, fOp_e, fUn_e, asB_e, asI_e, fT_e, fAnd_e, fOr_e, fNot_e, fAndV_e, fOrV_e, fNotV_e, fIf_e, fChain_e, aNil_e, aCons_e, fTup_e, fLst_e, fCall_e, dTup_e, dLst_e, gAdd_i, gSub_i, gNeg_i, gEq_i, gNe_i, gLt_i, gLe_i, gGt_i, gGe_i, gIsN_e, gNotN_e, isN_n, isN_i, isN_t, isN_l, isN_b, gIsi_e, tyD_n, tyD_i, tyD_t, tyD_l, tyD_b, tyD_s, isaT_ii, isaT_bi, isaT_ib, isaT_bb, isaT_tt, isaT_ll, isaT_tb, isaT_ti, isaT_it, isaT_bt, isaT_lt, isaT_nt, isaT_st, gLen_l, gLen_t, gOne_l, gTuple_l, gTuple_t, gInt_b, gMin2_e, gMax2_e, fIt_e, items_l, items_t, fItA_e, gEnum_e, gZip_t, gNm0, gNmS, gNil_e, gCons_e, gTp_e, wipe0, wipeS, tYesD_e, sNil_e, sExpr_e, sRet_e, sRaise_e, sIf_e, sAsg_e, asF_e, sFor_e, endF_r, endF_n, endF_x, asO_s, fRg1_e, sFrz_e, gIx_t0, gIx_t1, gIx_t2, gIx_l0, gIx_l1, gIx_l2, Option.map_some, Option.bind_some, List.set_cons_succ, List.set_cons_zero, List.getElem?_cons_succ, List.getElem?_cons_zero, Bool.not_true, Bool.not_false, Bool.false_eq_true, ↓reduceIte, List.length_cons, List.length_nil, List.map_cons, List.map_nil, Nat.reduceAdd, Nat.reduceLeDiff, Nat.reduceLT, Bool.true_and, Bool.and_true, Bool.false_and, Bool.and_false, List.length_map, Nat.zero_le, oN, Int.ofNat_le]; rfl
theorem borne_mono {b b' : Belt} {ss ks ss' ks' : List Nat} (h : cLeast b ss ks ≤ cLeast b' ss' ks') : m_law_no_fewer [oN (cBorne b' ss' ks'), oN (cBorne b ss ks)] = .ok (.bool true) := by
  rw [no_fewer_e]
  unfold cBorne
  by_cases h1 : 0 < cLeast b ss ks
  · rw [if_pos h1, if_pos (by omega)]
    simp
    omega
  · rw [if_neg h1]
    simp
/-! ### one more -/
structure With (ss : List Nat) (x : Nat) (L : List Nat) : Prop where
  rise : L.Pairwise (· < ·)
  mem : ∀ y, y ∈ L ↔ y ∈ ss ∨ y = x
theorem with_e (ss : List Nat) (x : Nat) (hl : ss.length ≤ 50) : ∃ L, With ss x L ∧ m_law_with [tN ss, nD x] = .ok (tN L) := by
  rw [q_law_with]
  unfold b_law_with
  have e1 : gAdd (tN ss) (.tuple [nD x]) = .ok (tN (ss ++ [x])) := by
    show (if _ then _ else _) = _
    rw [if_pos (by simp; omega)]
    unfold tN
    rw [List.map_append]
    rfl
  have e2 : asInts ((ss ++ [x]).map nD) = some ((ss ++ [x]).map fun y : Nat => (y : Int)) := asInts_nat (fun y => y) (ss ++ [x])
  have e3 : gSortedSet (tN (ss ++ [x])) = .ok (.list ((sortU ((ss ++ [x]).map fun y : Nat => (y : Int))).map PyData.int)) := by
    show (asO (asInts _)).bnd _ = _
    rw [e2]
    show (if _ then _ else _) = _
    rw [if_pos (by simp; omega)]
  have nn : ∀ y ∈ sortU ((ss ++ [x]).map fun y : Nat => (y : Int)), 0 ≤ y := by
    intro y hy
    obtain ⟨z, _, rfl⟩ := List.mem_map.mp (mem_sortU.mp hy)
    omega
  refine ⟨(sortU ((ss ++ [x]).map fun y : Nat => (y : Int))).map Int.toNat, ⟨?_, fun y => ?_⟩, ?_⟩
  · rw [List.pairwise_map]
    exact (rise_sortU _).imp_of_mem fun ha hb h => by
      have := nn _ ha; have := nn _ hb; omega
  · rw [List.mem_map]
    constructor
    · rintro ⟨z, hz, rfl⟩
      obtain ⟨u, hu, rfl⟩ := List.mem_map.mp (mem_sortU.mp hz)
      simpa using hu
    · intro h
      exact ⟨(y : Int), mem_sortU.mpr (List.mem_map.mpr ⟨y, by simpa using h, rfl⟩), by simp⟩
  · simp only [bnd_ok, bnd_err, then_ok, then_err, fVar0, fVarS, fC_e, fOp_e, fUn_e, asB_e, asI_e, fT_e, fAnd_e, fOr_e, fNot_e, fAndV_e, fOrV_e, fNotV_e, fIf_e, fChain_e, aNil_e, aCons_e, fTup_e, fLst_e, fCall_e, dTup_e, dLst_e, gAdd_i, gSub_i, gNeg_i, gEq_i, gNe_i, gLt_i, gLe_i, gGt_i, gGe_i, gIsN_e, gNotN_e, isN_n, isN_i, isN_t, isN_l, isN_b, gIsi_e, tyD_n, tyD_i, tyD_t, tyD_l, tyD_b, tyD_s, isaT_ii, isaT_bi, isaT_ib, isaT_bb, isaT_tt, isaT_ll, isaT_tb, isaT_ti, isaT_it, isaT_bt, isaT_lt, isaT_nt, isaT_st, gLen_l, gLen_t, gOne_l, gTuple_l, gTuple_t, gInt_b, gMin2_e, gMax2_e, fIt_e, items_l, items_t, fItA_e, gEnum_e, gZip_t, gNm0, gNmS, gNil_e, gCons_e, gTp_e, wipe0, wipeS, tYesD_e, sNil_e, sExpr_e, sRet_e, sRaise_e, sIf_e, sAsg_e, asF_e, sFor_e, endF_r, endF_n, endF_x, asO_s, fRg1_e, sFrz_e, gIx_t0, gIx_t1, gIx_t2, gIx_l0, gIx_l1, gIx_l2, Option.map_some, Option.bind_some, List.set_cons_succ, List.set_cons_zero, List.getElem?_cons_succ, List.getElem?_cons_zero, Bool.not_true, Bool.not_false, Bool.false_eq_true, ↓reduceIte, List.length_cons, List.length_nil, List.map_cons, List.map_nil, Nat.reduceAdd, Nat.reduceLeDiff, Nat.reduceLT, Bool.true_and, Bool.and_true, Bool.false_and, Bool.and_false, List.length_map, Nat.zero_le, e1, e3]
    congr 2
    rw [List.map_map]
    exact List.map_congr_left fun y hy => nat_of (nn y hy)
theorem nodup_of {xs : List Nat} (h : xs.Pairwise (· < ·)) : xs.Nodup := h.imp fun h => Nat.ne_of_lt h
theorem With.perm {ss : List Nat} {x : Nat} {L : List Nat} (w : With ss x L) (h : ss.Pairwise (· < ·)) : L.Perm (if x ∈ ss then ss else x :: ss) := by
  split
  · rename_i hx
    refine (List.perm_ext_iff_of_nodup (nodup_of w.rise) (nodup_of h)).mpr fun y => ?_
    rw [w.mem]
    constructor
    · rintro (h | rfl)
      · exact h
      · exact hx
    · exact .inl
  · rename_i hx
    refine (List.perm_ext_iff_of_nodup (nodup_of w.rise) (List.nodup_cons.mpr ⟨hx, nodup_of h⟩)).mpr fun y => ?_
    rw [w.mem, List.mem_cons]
    exact Or.comm
theorem With.Rise {ss : List Nat} {x m : Nat} {L : List Nat} (w : With ss x L) (h : Rise m ss) (hx : x < m) : Rise m L := by
  refine ⟨fun y hy => ?_, w.rise⟩
  rcases (w.mem y).mp hy with h' | rfl
  · exact h.1 y h'
  · exact hx
theorem With.count {ss : List Nat} {x : Nat} {L : List Nat} (w : With ss x L) (h : ss.Pairwise (· < ·)) (p : Nat → Bool) : ss.countP p ≤ L.countP p := by
  rw [(w.perm h).countP_eq p]
  split
  · exact Nat.le_refl _
  · rw [List.countP_cons]; omega
theorem With.sum {ss : List Nat} {x : Nat} {L : List Nat} (w : With ss x L) (h : ss.Pairwise (· < ·)) (c : Nat → Nat) : (L.map c).sum = (ss.map c).sum + if x ∈ ss then 0 else c x := by
  rw [((w.perm h).map c).sum_nat]
  split
  · simp
  · rw [List.map_cons, List.sum_cons]; omega
/-! ### runs -/
theorem mem_run {b : Belt} {ss ks : List Nat} {rows : List (List Nat × List Nat)} {n : Nat} : n ∈ cRun b ss ks rows ↔ ∃ r, rows[n]? = some r ∧ r.1 ≠ [] ∧ (cOut b ss ks r.1 r.2).isSome = false := by
  unfold cRun
  rw [List.mem_map]
  constructor
  · rintro ⟨⟨r, m⟩, h, rfl⟩
    obtain ⟨h1, h2⟩ := List.mem_filter.mp h
    rw [Bool.and_eq_true] at h2
    exact ⟨r, List.mem_zipIdx_iff_getElem?.mp h1, by simpa using h2.1, by simpa using h2.2⟩
  · rintro ⟨r, h1, h2, h3⟩
    refine ⟨(r, n), List.mem_filter.mpr ⟨List.mem_zipIdx_iff_getElem?.mpr h1, ?_⟩, rfl⟩
    rw [Bool.and_eq_true]
    exact ⟨by simpa using h2, by simpa using h3⟩
theorem run_mono {b : Belt} {ss ks ss' ks' : List Nat} {rows : List (List Nat × List Nat)} (hs : ∀ s ∈ ss, s ∈ ss') (hk : ∀ k ∈ ks, k ∈ ks') : ∀ n ∈ cRun b ss' ks' rows, n ∈ cRun b ss ks rows := by
  intro n hn
  obtain ⟨r, h1, h2, h3⟩ := mem_run.mp hn
  refine mem_run.mpr ⟨r, h1, h2, ?_⟩
  cases h : (cOut b ss ks r.1 r.2).isSome with
  | false => rfl
  | true =>
    obtain ⟨s, g1, g2, g3, k, g4, g5⟩ := out_some.mp h
    rw [out_some.mpr ⟨s, hs s g1, g2, g3, k, hk k g4, g5⟩] at h3
    exact h3
end Bl
namespace Bl
open PySem L2 Dl
/-! ### shapes of environments -/
theorem len1 {ρ : Dl.Env} (h : ρ.length = 1) : ∃ j0, ρ = [j0] := match ρ, h with | [j0], _ => ⟨j0, rfl⟩
theorem len2 {ρ : Dl.Env} (h : ρ.length = 2) : ∃ j0 j1, ρ = [j0, j1] := match ρ, h with | [j0, j1], _ => ⟨j0, j1, rfl⟩
theorem len3 {ρ : Dl.Env} (h : ρ.length = 3) : ∃ j0 j1 j2, ρ = [j0, j1, j2] := match ρ, h with | [j0, j1, j2], _ => ⟨j0, j1, j2, rfl⟩
theorem len4 {ρ : Dl.Env} (h : ρ.length = 4) : ∃ j0 j1 j2 j3, ρ = [j0, j1, j2, j3] := match ρ, h with | [j0, j1, j2, j3], _ => ⟨j0, j1, j2, j3, rfl⟩
theorem len5 {ρ : Dl.Env} (h : ρ.length = 5) : ∃ j0 j1 j2 j3 j4, ρ = [j0, j1, j2, j3, j4] := match ρ, h with | [j0, j1, j2, j3, j4], _ => ⟨j0, j1, j2, j3, j4, rfl⟩
theorem len6 {ρ : Dl.Env} (h : ρ.length = 6) : ∃ j0 j1 j2 j3 j4 j5, ρ = [j0, j1, j2, j3, j4, j5] := match ρ, h with | [j0, j1, j2, j3, j4, j5], _ => ⟨j0, j1, j2, j3, j4, j5, rfl⟩
theorem len7 {ρ : Dl.Env} (h : ρ.length = 7) : ∃ j0 j1 j2 j3 j4 j5 j6, ρ = [j0, j1, j2, j3, j4, j5, j6] := match ρ, h with | [j0, j1, j2, j3, j4, j5, j6], _ => ⟨j0, j1, j2, j3, j4, j5, j6, rfl⟩
theorem len8 {ρ : Dl.Env} (h : ρ.length = 8) : ∃ j0 j1 j2 j3 j4 j5 j6 j7, ρ = [j0, j1, j2, j3, j4, j5, j6, j7] := match ρ, h with | [j0, j1, j2, j3, j4, j5, j6, j7], _ => ⟨j0, j1, j2, j3, j4, j5, j6, j7, rfl⟩
theorem len9 {ρ : Dl.Env} (h : ρ.length = 9) : ∃ j0 j1 j2 j3 j4 j5 j6 j7 j8, ρ = [j0, j1, j2, j3, j4, j5, j6, j7, j8] := match ρ, h with | [j0, j1, j2, j3, j4, j5, j6, j7, j8], _ => ⟨j0, j1, j2, j3, j4, j5, j6, j7, j8, rfl⟩
theorem len10 {ρ : Dl.Env} (h : ρ.length = 10) : ∃ j0 j1 j2 j3 j4 j5 j6 j7 j8 j9, ρ = [j0, j1, j2, j3, j4, j5, j6, j7, j8, j9] := match ρ, h with | [j0, j1, j2, j3, j4, j5, j6, j7, j8, j9], _ => ⟨j0, j1, j2, j3, j4, j5, j6, j7, j8, j9, rfl⟩
theorem len11 {ρ : Dl.Env} (h : ρ.length = 11) : ∃ j0 j1 j2 j3 j4 j5 j6 j7 j8 j9 j10, ρ = [j0, j1, j2, j3, j4, j5, j6, j7, j8, j9, j10] := match ρ, h with | [j0, j1, j2, j3, j4, j5, j6, j7, j8, j9, j10], _ => ⟨j0, j1, j2, j3, j4, j5, j6, j7, j8, j9, j10, rfl⟩
theorem len12 {ρ : Dl.Env} (h : ρ.length = 12) : ∃ j0 j1 j2 j3 j4 j5 j6 j7 j8 j9 j10 j11, ρ = [j0, j1, j2, j3, j4, j5, j6, j7, j8, j9, j10, j11] := match ρ, h with | [j0, j1, j2, j3, j4, j5, j6, j7, j8, j9, j10, j11], _ => ⟨j0, j1, j2, j3, j4, j5, j6, j7, j8, j9, j10, j11, rfl⟩
theorem len13 {ρ : Dl.Env} (h : ρ.length = 13) : ∃ j0 j1 j2 j3 j4 j5 j6 j7 j8 j9 j10 j11 j12, ρ = [j0, j1, j2, j3, j4, j5, j6, j7, j8, j9, j10, j11, j12] := match ρ, h with | [j0, j1, j2, j3, j4, j5, j6, j7, j8, j9, j10, j11, j12], _ => ⟨j0, j1, j2, j3, j4, j5, j6, j7, j8, j9, j10, j11, j12, rfl⟩
theorem len14 {ρ : Dl.Env} (h : ρ.length = 14) : ∃ j0 j1 j2 j3 j4 j5 j6 j7 j8 j9 j10 j11 j12 j13, ρ = [j0, j1, j2, j3, j4, j5, j6, j7, j8, j9, j10, j11, j12, j13] := match ρ, h with | [j0, j1, j2, j3, j4, j5, j6, j7, j8, j9, j10, j11, j12, j13], _ => ⟨j0, j1, j2, j3, j4, j5, j6, j7, j8, j9, j10, j11, j12, j13, rfl⟩
theorem len15 {ρ : Dl.Env} (h : ρ.length = 15) : ∃ j0 j1 j2 j3 j4 j5 j6 j7 j8 j9 j10 j11 j12 j13 j14, ρ = [j0, j1, j2, j3, j4, j5, j6, j7, j8, j9, j10, j11, j12, j13, j14] := match ρ, h with | [j0, j1, j2, j3, j4, j5, j6, j7, j8, j9, j10, j11, j12, j13, j14], _ => ⟨j0, j1, j2, j3, j4, j5, j6, j7, j8, j9, j10, j11, j12, j13, j14, rfl⟩
theorem len16 {ρ : Dl.Env} (h : ρ.length = 16) : ∃ j0 j1 j2 j3 j4 j5 j6 j7 j8 j9 j10 j11 j12 j13 j14 j15, ρ = [j0, j1, j2, j3, j4, j5, j6, j7, j8, j9, j10, j11, j12, j13, j14, j15] := match ρ, h with | [j0, j1, j2, j3, j4, j5, j6, j7, j8, j9, j10, j11, j12, j13, j14, j15], _ => ⟨j0, j1, j2, j3, j4, j5, j6, j7, j8, j9, j10, j11, j12, j13, j14, j15, rfl⟩
theorem len17 {ρ : Dl.Env} (h : ρ.length = 17) : ∃ j0 j1 j2 j3 j4 j5 j6 j7 j8 j9 j10 j11 j12 j13 j14 j15 j16, ρ = [j0, j1, j2, j3, j4, j5, j6, j7, j8, j9, j10, j11, j12, j13, j14, j15, j16] := match ρ, h with | [j0, j1, j2, j3, j4, j5, j6, j7, j8, j9, j10, j11, j12, j13, j14, j15, j16], _ => ⟨j0, j1, j2, j3, j4, j5, j6, j7, j8, j9, j10, j11, j12, j13, j14, j15, j16, rfl⟩
theorem len18 {ρ : Dl.Env} (h : ρ.length = 18) : ∃ j0 j1 j2 j3 j4 j5 j6 j7 j8 j9 j10 j11 j12 j13 j14 j15 j16 j17, ρ = [j0, j1, j2, j3, j4, j5, j6, j7, j8, j9, j10, j11, j12, j13, j14, j15, j16, j17] := match ρ, h with | [j0, j1, j2, j3, j4, j5, j6, j7, j8, j9, j10, j11, j12, j13, j14, j15, j16, j17], _ => ⟨j0, j1, j2, j3, j4, j5, j6, j7, j8, j9, j10, j11, j12, j13, j14, j15, j16, j17, rfl⟩
theorem len19 {ρ : Dl.Env} (h : ρ.length = 19) : ∃ j0 j1 j2 j3 j4 j5 j6 j7 j8 j9 j10 j11 j12 j13 j14 j15 j16 j17 j18, ρ = [j0, j1, j2, j3, j4, j5, j6, j7, j8, j9, j10, j11, j12, j13, j14, j15, j16, j17, j18] := match ρ, h with | [j0, j1, j2, j3, j4, j5, j6, j7, j8, j9, j10, j11, j12, j13, j14, j15, j16, j17, j18], _ => ⟨j0, j1, j2, j3, j4, j5, j6, j7, j8, j9, j10, j11, j12, j13, j14, j15, j16, j17, j18, rfl⟩
theorem len20 {ρ : Dl.Env} (h : ρ.length = 20) : ∃ j0 j1 j2 j3 j4 j5 j6 j7 j8 j9 j10 j11 j12 j13 j14 j15 j16 j17 j18 j19, ρ = [j0, j1, j2, j3, j4, j5, j6, j7, j8, j9, j10, j11, j12, j13, j14, j15, j16, j17, j18, j19] := match ρ, h with | [j0, j1, j2, j3, j4, j5, j6, j7, j8, j9, j10, j11, j12, j13, j14, j15, j16, j17, j18, j19], _ => ⟨j0, j1, j2, j3, j4, j5, j6, j7, j8, j9, j10, j11, j12, j13, j14, j15, j16, j17, j18, j19, rfl⟩
theorem len21 {ρ : Dl.Env} (h : ρ.length = 21) : ∃ j0 j1 j2 j3 j4 j5 j6 j7 j8 j9 j10 j11 j12 j13 j14 j15 j16 j17 j18 j19 j20, ρ = [j0, j1, j2, j3, j4, j5, j6, j7, j8, j9, j10, j11, j12, j13, j14, j15, j16, j17, j18, j19, j20] := match ρ, h with | [j0, j1, j2, j3, j4, j5, j6, j7, j8, j9, j10, j11, j12, j13, j14, j15, j16, j17, j18, j19, j20], _ => ⟨j0, j1, j2, j3, j4, j5, j6, j7, j8, j9, j10, j11, j12, j13, j14, j15, j16, j17, j18, j19, j20, rfl⟩
theorem len22 {ρ : Dl.Env} (h : ρ.length = 22) : ∃ j0 j1 j2 j3 j4 j5 j6 j7 j8 j9 j10 j11 j12 j13 j14 j15 j16 j17 j18 j19 j20 j21, ρ = [j0, j1, j2, j3, j4, j5, j6, j7, j8, j9, j10, j11, j12, j13, j14, j15, j16, j17, j18, j19, j20, j21] := match ρ, h with | [j0, j1, j2, j3, j4, j5, j6, j7, j8, j9, j10, j11, j12, j13, j14, j15, j16, j17, j18, j19, j20, j21], _ => ⟨j0, j1, j2, j3, j4, j5, j6, j7, j8, j9, j10, j11, j12, j13, j14, j15, j16, j17, j18, j19, j20, j21, rfl⟩
theorem len23 {ρ : Dl.Env} (h : ρ.length = 23) : ∃ j0 j1 j2 j3 j4 j5 j6 j7 j8 j9 j10 j11 j12 j13 j14 j15 j16 j17 j18 j19 j20 j21 j22, ρ = [j0, j1, j2, j3, j4, j5, j6, j7, j8, j9, j10, j11, j12, j13, j14, j15, j16, j17, j18, j19, j20, j21, j22] := match ρ, h with | [j0, j1, j2, j3, j4, j5, j6, j7, j8, j9, j10, j11, j12, j13, j14, j15, j16, j17, j18, j19, j20, j21, j22], _ => ⟨j0, j1, j2, j3, j4, j5, j6, j7, j8, j9, j10, j11, j12, j13, j14, j15, j16, j17, j18, j19, j20, j21, j22, rfl⟩
theorem len24 {ρ : Dl.Env} (h : ρ.length = 24) : ∃ j0 j1 j2 j3 j4 j5 j6 j7 j8 j9 j10 j11 j12 j13 j14 j15 j16 j17 j18 j19 j20 j21 j22 j23, ρ = [j0, j1, j2, j3, j4, j5, j6, j7, j8, j9, j10, j11, j12, j13, j14, j15, j16, j17, j18, j19, j20, j21, j22, j23] := match ρ, h with | [j0, j1, j2, j3, j4, j5, j6, j7, j8, j9, j10, j11, j12, j13, j14, j15, j16, j17, j18, j19, j20, j21, j22, j23], _ => ⟨j0, j1, j2, j3, j4, j5, j6, j7, j8, j9, j10, j11, j12, j13, j14, j15, j16, j17, j18, j19, j20, j21, j22, j23, rfl⟩

theorem slot_e {s t : Slot} (h : some s = some t) : s = t := Option.some.inj h
theorem nxt {F : Dl.Env → Fl} {ρ : Dl.Env} {P : Dl.Env → Prop} (h : F ρ = .next ρ) (hP : P ρ) : ∃ ρ', F ρ = .next ρ' ∧ P ρ' := ⟨ρ, h, hP⟩
theorem sOwn_l (i : Nat) (fs : Dl.Env → R (List D)) (ρ : Dl.Env) (ds : List D) (hf : fs ρ = .ok ds) (h : i < ρ.length) (hl : ds.length ≤ 16777216) : sOwn i fs ρ = .next (ρ.set i (.own ds)) := by
  unfold sOwn
  rw [hf]
  exact if_pos ⟨h, hl⟩
/-- a loop whose turns keep something -/
theorem for_keep {α : Type} (enc : α → D) {gt : D → Dl.Env → Option Dl.Env} {body : Dl.Env → Fl} (I : Dl.Env → Prop) (xs : List α)
    (h : ∀ x ∈ xs, ∀ ρ, I ρ → ∃ ρ', forOne gt body (enc x) ρ = .next ρ' ∧ I ρ') {ρ : Dl.Env} (h0 : I ρ) : ∃ ρ', forLoop gt body (xs.map enc) ρ = .next ρ' ∧ I ρ' :=
  for_inv enc (fun _ => I) xs (fun pre x post ρ e hi => h x (by rw [e]; simp) ρ hi) h0
theorem law_outer {n : Nat} {m : Int} {body : Dl.Env → Fl} (hm : 1 ≤ m) (hm' : m ≤ 10)
    (hb : ∀ (ρ : Dl.Env) (sc : D) (k : Nat) (more : Int), ρ.length = n + 3 → ρ[0]? = some (.dat sc) → ρ[1]? = some (.dat (nD k)) → ρ[2]? = some (.dat (.int more)) → 0 ≤ more → ∃ ρ', body ρ = .next ρ' ∧ ρ'.length = n + 3 ∧ ρ'[0]? = some (.dat sc))
    (ns : List Int) (hn : ns.length ≤ 63) :
    endF (sSeq (sFor (fItA gRng1 (aCons (fCall gMax2 (aCons (fC (.int 1)) (aCons (fCall gMin2 (aCons (fC (.int m)) (aCons (fCall gLen (aCons (fVar 0) aNil)) aNil))) aNil))) aNil)) (gNm 1) (sSeq (sAsg (fCall m_law_drawn (aCons (fCall m_law_cell (aCons (fVar 0) (aCons (fVar 1) aNil))) (aCons (fVar 1) aNil))) (gNm 2)) body)) (sRet (fC (.bool true))) (.dat (.list (ns.map PyData.int)) :: .non :: .non :: List.replicate n .non)) = .ok (.bool true) := by
  obtain ⟨ρ, h1, h2, h3⟩ := for_keep nD (gt := gNm 1) (body := sSeq (sAsg (fCall m_law_drawn (aCons (fCall m_law_cell (aCons (fVar 0) (aCons (fVar 1) aNil))) (aCons (fVar 1) aNil))) (gNm 2)) body)
    (fun ρ => ρ.length = n + 3 ∧ ρ[0]? = some (.dat (.list (ns.map PyData.int)))) (List.range (max 1 (min m.toNat ns.length))) (fun k hk ρ ⟨hl, h0⟩ => by
      obtain ⟨c, hc⟩ := cell_e ns k hn
      match ρ, hl, h0 with
      | a0 :: a1 :: a2 :: r, hl, h0 =>
        have h0 := slot_e h0
        subst h0
        obtain ⟨ρ', g1, g2, g3⟩ := hb (.dat (.list (ns.map PyData.int)) :: .dat (nD k) :: .dat (.int (drawn c k)) :: r) _ k (drawn c k) hl rfl rfl rfl (drawn_nonneg _ _)
        refine ⟨ρ', forOne_n (by simp only [bnd_ok, bnd_err, then_ok, then_err, fVar0, fVarS, fC_e, fOp_e, fUn_e, asB_e, asI_e, fT_e, fAnd_e, fOr_e, fNot_e, fAndV_e, fOrV_e, fNotV_e, fIf_e, fChain_e, aNil_e, aCons_e, fTup_e, fLst_e, fCall_e, dTup_e, dLst_e, gAdd_i, gSub_i, gNeg_i, gEq_i, gNe_i, gLt_i, gLe_i, gGt_i, gGe_i, gIsN_e, gNotN_e, isN_n, isN_i, isN_t, isN_l, isN_b, gIsi_e, tyD_n, tyD_i, tyD_t, tyD_l, tyD_b, tyD_s, isaT_ii, isaT_bi, isaT_ib, isaT_bb, isaT_tt, isaT_ll, isaT_tb, isaT_ti, isaT_it, isaT_bt, isaT_lt, isaT_nt, isaT_st, gLen_l, gLen_t, gOne_l, gTuple_l, gTuple_t, gInt_b, gMin2_e, gMax2_e, fIt_e, items_l, items_t, fItA_e, gEnum_e, gZip_t, gNm0, gNmS, gNil_e, gCons_e, gTp_e, wipe0, wipeS, tYesD_e, sNil_e, sExpr_e, sRet_e, sRaise_e, sIf_e, sAsg_e, asF_e, sFor_e, endF_r, endF_n, endF_x, asO_s, fRg1_e, sFrz_e, gIx_t0, gIx_t1, gIx_t2, gIx_l0, gIx_l1, gIx_l2, Option.map_some, Option.bind_some, List.set_cons_succ, List.set_cons_zero, List.getElem?_cons_succ, List.getElem?_cons_zero, Bool.not_true, Bool.not_false, Bool.false_eq_true, ↓reduceIte, List.length_cons, List.length_nil, List.map_cons, List.map_nil, Nat.reduceAdd, Nat.reduceLeDiff, Nat.reduceLT, Bool.true_and, Bool.and_true, Bool.false_and, Bool.and_false, List.length_map, Nat.zero_le]; rfl) ?_, g2, g3⟩
        rw [sSeq_n (h := by simp only [bnd_ok, bnd_err, then_ok, then_err, fVar0, fVarS, fC_e, fOp_e, fUn_e, asB_e, asI_e, fT_e, fAnd_e, fOr_e, fNot_e, fAndV_e, fOrV_e, fNotV_e, fIf_e, fChain_e, aNil_e, aCons_e, fTup_e, fLst_e, fCall_e, dTup_e, dLst_e, gAdd_i, gSub_i, gNeg_i, gEq_i, gNe_i, gLt_i, gLe_i, gGt_i, gGe_i, gIsN_e, gNotN_e, isN_n, isN_i, isN_t, isN_l, isN_b, gIsi_e, tyD_n, tyD_i, tyD_t, tyD_l, tyD_b, tyD_s, isaT_ii, isaT_bi, isaT_ib, isaT_bb, isaT_tt, isaT_ll, isaT_tb, isaT_ti, isaT_it, isaT_bt, isaT_lt, isaT_nt, isaT_st, gLen_l, gLen_t, gOne_l, gTuple_l, gTuple_t, gInt_b, gMin2_e, gMax2_e, fIt_e, items_l, items_t, fItA_e, gEnum_e, gZip_t, gNm0, gNmS, gNil_e, gCons_e, gTp_e, wipe0, wipeS, tYesD_e, sNil_e, sExpr_e, sRet_e, sRaise_e, sIf_e, sAsg_e, asF_e, sFor_e, endF_r, endF_n, endF_x, asO_s, fRg1_e, sFrz_e, gIx_t0, gIx_t1, gIx_t2, gIx_l0, gIx_l1, gIx_l2, Option.map_some, Option.bind_some, List.set_cons_succ, List.set_cons_zero, List.getElem?_cons_succ, List.getElem?_cons_zero, Bool.not_true, Bool.not_false, Bool.false_eq_true, ↓reduceIte, List.length_cons, List.length_nil, List.map_cons, List.map_nil, Nat.reduceAdd, Nat.reduceLeDiff, Nat.reduceLT, Bool.true_and, Bool.and_true, Bool.false_and, Bool.and_false, List.length_map, Nat.zero_le, hc, drawn_e]; rfl)]
        exact g1) (ρ := .dat (.list (ns.map PyData.int)) :: .non :: .non :: List.replicate n .non) ⟨by simp, rfl⟩
  have em : max (1 : Int) (min m ((ns.length : Nat) : Int)) = ((max 1 (min m.toNat ns.length) : Nat) : Int) := by omega
  rw [sSeq_n (h := by
    simp only [bnd_ok, bnd_err, then_ok, then_err, fVar0, fVarS, fC_e, fOp_e, fUn_e, asB_e, asI_e, fT_e, fAnd_e, fOr_e, fNot_e, fAndV_e, fOrV_e, fNotV_e, fIf_e, fChain_e, aNil_e, aCons_e, fTup_e, fLst_e, fCall_e, dTup_e, dLst_e, gAdd_i, gSub_i, gNeg_i, gEq_i, gNe_i, gLt_i, gLe_i, gGt_i, gGe_i, gIsN_e, gNotN_e, isN_n, isN_i, isN_t, isN_l, isN_b, gIsi_e, tyD_n, tyD_i, tyD_t, tyD_l, tyD_b, tyD_s, isaT_ii, isaT_bi, isaT_ib, isaT_bb, isaT_tt, isaT_ll, isaT_tb, isaT_ti, isaT_it, isaT_bt, isaT_lt, isaT_nt, isaT_st, gLen_l, gLen_t, gOne_l, gTuple_l, gTuple_t, gInt_b, gMin2_e, gMax2_e, fIt_e, items_l, items_t, fItA_e, gEnum_e, gZip_t, gNm0, gNmS, gNil_e, gCons_e, gTp_e, wipe0, wipeS, tYesD_e, sNil_e, sExpr_e, sRet_e, sRaise_e, sIf_e, sAsg_e, asF_e, sFor_e, endF_r, endF_n, endF_x, asO_s, fRg1_e, sFrz_e, gIx_t0, gIx_t1, gIx_t2, gIx_l0, gIx_l1, gIx_l2, Option.map_some, Option.bind_some, List.set_cons_succ, List.set_cons_zero, List.getElem?_cons_succ, List.getElem?_cons_zero, Bool.not_true, Bool.not_false, Bool.false_eq_true, ↓reduceIte, List.length_cons, List.length_nil, List.map_cons, List.map_nil, Nat.reduceAdd, Nat.reduceLeDiff, Nat.reduceLT, Bool.true_and, Bool.and_true, Bool.false_and, Bool.and_false, List.length_map, Nat.zero_le, em, rng_e (max 1 (min m.toNat ns.length)) (by omega)]
    exact h1)]
  simp only [bnd_ok, bnd_err, then_ok, then_err, fVar0, fVarS, fC_e, fOp_e, fUn_e, asB_e, asI_e, fT_e, fAnd_e, fOr_e, fNot_e, fAndV_e, fOrV_e, fNotV_e, fIf_e, fChain_e, aNil_e, aCons_e, fTup_e, fLst_e, fCall_e, dTup_e, dLst_e, gAdd_i, gSub_i, gNeg_i, gEq_i, gNe_i, gLt_i, gLe_i, gGt_i, gGe_i, gIsN_e, gNotN_e, isN_n, isN_i, isN_t, isN_l, isN_b, gIsi_e, tyD_n, tyD_i, tyD_t, tyD_l, tyD_b, tyD_s, isaT_ii, isaT_bi, isaT_ib, isaT_bb, isaT_tt, isaT_ll, isaT_tb, isaT_ti, isaT_it, isaT_bt, isaT_lt, isaT_nt, isaT_st, gLen_l, gLen_t, gOne_l, gTuple_l, gTuple_t, gInt_b, gMin2_e, gMax2_e, fIt_e, items_l, items_t, fItA_e, gEnum_e, gZip_t, gNm0, gNmS, gNil_e, gCons_e, gTp_e, wipe0, wipeS, tYesD_e, sNil_e, sExpr_e, sRet_e, sRaise_e, sIf_e, sAsg_e, asF_e, sFor_e, endF_r, endF_n, endF_x, asO_s, fRg1_e, sFrz_e, gIx_t0, gIx_t1, gIx_t2, gIx_l0, gIx_l1, gIx_l2, Option.map_some, Option.bind_some, List.set_cons_succ, List.set_cons_zero, List.getElem?_cons_succ, List.getElem?_cons_zero, Bool.not_true, Bool.not_false, Bool.false_eq_true, ↓reduceIte, List.length_cons, List.length_nil, List.map_cons, List.map_nil, Nat.reduceAdd, Nat.reduceLeDiff, Nat.reduceLT, Bool.true_and, Bool.and_true, Bool.false_and, Bool.and_false, List.length_map, Nat.zero_le]
/-! ### telling -/
theorem told_err {ws : List Str} {f : Dl.Env → R D} {ρ : Dl.Env} {c : Str} (h : f ρ = .err c) (hc : c ∈ ws) : fTold ws f ρ = .ok (.str c) := by
  unfold fTold
  rw [h]
  exact if_pos hc
theorem told_ok {ws : List Str} {f : Dl.Env → R D} {ρ : Dl.Env} {d : D} (h : f ρ = .ok d) : fTold ws f ρ = .ok d := by
  unfold fTold
  rw [h]
/-! ### equality -/
theorem gNe_d {d e : D} (h : okEq d e = true) : gNe d e = .ok (.bool (!PyData.eqv d e)) := by
  cases d with
  | int i =>
    cases e with
    | int j => rw [gNe_i, eqv_int]
    | _ => exact if_pos (e := R.bad) h
  | _ => exact if_pos (e := R.bad) h
theorem gEq_d {d e : D} (h : okEq d e = true) : gEq d e = .ok (.bool (PyData.eqv d e)) := by
  cases d with
  | int i =>
    cases e with
    | int j => rw [gEq_i, eqv_int]
    | _ => exact if_pos (e := R.bad) h
  | _ => exact if_pos (e := R.bad) h
theorem ok_self {d : D} (h : d.canLay0 = true) (h' : d.depth ≤ 64) : okEq d d = true := by
  unfold okEq
  rw [h]
  simpa using h'
theorem ne_self {d : D} (h : d.canLay0 = true) (h' : d.depth ≤ 64) : gNe d d = .ok (.bool false) := by
  rw [gNe_d (ok_self h h'), PySem.SeqAt.eqv_refl _ h]; rfl
theorem eq_self {d : D} (h : d.canLay0 = true) (h' : d.depth ≤ 64) : gEq d d = .ok (.bool true) := by
  rw [gEq_d (ok_self h h'), PySem.SeqAt.eqv_refl _ h]
theorem depth_ns : ∀ xs : List Nat, PyData.depthAll (xs.map nD) = 0
  | [] => by simp [PyData.depthAll]
  | b :: bs => by rw [List.map_cons, PyData.depthAll, depth_ns bs]; simp [PyData.depth]
theorem depth_strs : ∀ (n : Nat) (s : Str), PyData.depthAll (List.replicate n (.str s)) = 0
  | 0, _ => by simp [PyData.depthAll]
  | n + 1, s => by rw [List.replicate_succ, PyData.depthAll, depth_strs n]; simp [PyData.depth]
theorem lay_strs : ∀ (n : Nat) (s : Str), PyData.strOk s = true → PyData.canLayAll0 (List.replicate n (.str s)) = true
  | 0, _, _ => by simp [PyData.canLayAll0]
  | n + 1, s, h => by rw [List.replicate_succ, PyData.canLayAll0, lay_strs n s h]; simp [PyData.canLay0, h]
theorem mul_strs (n : Nat) (s : Str) (h : n ≤ 1000) : gMul (.list [.str s]) (.int n) = .ok (.list (List.replicate n (.str s))) := by
  show (if _ then _ else _) = _
  rw [if_pos ⟨by omega, by omega, by simp⟩]
  congr 2
  rw [Int.toNat_natCast]
  clear h
  induction n with
  | zero => rfl
  | succ n ih => rw [List.replicate_succ, List.flatten_cons, ih]; rfl
theorem ne_strs (n : Nat) (s : Str) (h : PyData.strOk s = true) : gNe (.list (List.replicate n (.str s))) (.list (List.replicate n (.str s))) = .ok (.bool false) :=
  ne_self (by rw [PyData.canLay0]; exact lay_strs n s h) (by simp [PyData.depth, depth_strs])
theorem eq_strs (n : Nat) (s : Str) (h : PyData.strOk s = true) : gEq (.list (List.replicate n (.str s))) (.list (List.replicate n (.str s))) = .ok (.bool true) :=
  eq_self (by rw [PyData.canLay0]; exact lay_strs n s h) (by simp [PyData.depth, depth_strs])
theorem ne_str (s : Str) (h : PyData.strOk s = true) : gNe (.str s) (.str s) = .ok (.bool false) := ne_self (by simp [PyData.canLay0, h]) (by simp [PyData.depth])
theorem ne_oP (o : Option (Nat × Nat)) : gNe (oP o) (oP o) = .ok (.bool false) := by
  cases o with
  | none => exact ne_self (d := .none) (by simp [PyData.canLay0]) (by simp [PyData.depth])
  | some p => exact ne_self (lay_eK p) (by show PyData.depth (.tuple [nD p.1, nD p.2]) ≤ 64; simp [PyData.depth, PyData.depthAll])
theorem ne_lN (xs : List Nat) : gNe (lN xs) (lN xs) = .ok (.bool false) := ne_self (by rw [PyData.canLay0]; exact lay_ns xs) (by simp [PyData.depth, depth_ns])
theorem fm_filter (p : Nat → Bool) : ∀ xs : List Nat, (xs.filterMap fun s => if p s = true then some (nD s) else none) = (xs.filter p).map nD
  | [] => rfl
  | x :: xs => by
    rw [List.filterMap_cons, List.filter_cons, fm_filter p xs]
    cases p x <;> rfl
theorem range_split {n x : Nat} {pre post : List Nat} (h : List.range n = pre ++ x :: post) : x = pre.length := by
  have h1 : (List.range n)[pre.length]? = some x := by rw [h]; simp
  rw [List.getElem?_range (by
    have := congrArg List.length h
    simp at this
    omega)] at h1
  exact (Option.some.inj h1).symm
theorem gAdd_l (xs ys : List D) (h : xs.length + ys.length ≤ 16777216) : gAdd (.list xs) (.list ys) = .ok (.list (xs ++ ys)) := if_pos h
theorem gAdd_t (xs ys : List D) (h : xs.length + ys.length ≤ 16777216) : gAdd (.tuple xs) (.tuple ys) = .ok (.tuple (xs ++ ys)) := if_pos h
theorem sPar3L_e (i j l : Nat) (f : Dl.Env → R D) (ρ : Dl.Env) (d : D) (hf : f ρ = .ok d) (hi : i < ρ.length) (hj : j < ρ.length) (hl : l < ρ.length) : sPar3L i j l f ρ = .next (((ρ.set i (.dat d)).set j (.own [])).set l (.own [])) := by
  unfold sPar3L
  rw [hf]
  exact if_pos ⟨hi, hj, hl⟩
def slipF (d : Int) (s : Nat) : Bool := drawn d (s : Int) / 16 % 3 == 0
theorem tupRg_e (n : Nat) (h : n ≤ 1000) : gTupRg 0 (n : Int) = .ok (tN (List.range n)) := by
  show (if _ then _ else _) = _
  rw [if_pos ⟨by decide, by decide, by omega, by omega⟩]
  unfold rangeD tN
  simp
@[simp] theorem gRevA_e (xs : List D) : gRevA (.list xs) = .ok (.list xs.reverse) := id rfl
end Bl
namespace Bl
open PySem L2 Dl
/-! ### counts and rows among all data -/
def cCnt (d : D) (lo hi : Int) : Bool := match d with
  | .int n => decide (lo ≤ n) && decide (n ≤ hi)
  | _ => false
theorem isaT_ni : isaT "NoneType" "int" = false := by decide
theorem isaT_si : isaT "str" "int" = false := by decide
theorem isaT_li : isaT "list" "int" = false := by decide
theorem isaT_di : isaT "dict" "int" = false := by decide
theorem isaT_dt : isaT "dict" "tuple" = false := by decide
theorem tyD_d (i : List (D × D)) : tyD (.dict i) = "dict" := id rfl
theorem is_count_d (d : D) (lo hi : Int) : m_is_count [d, .int lo, .int hi] = .ok (.bool (cCnt d lo hi)) := by
  cases d with
  | int n => exact is_count_i n lo hi
  | _ => rw [q_is_count]; unfold b_is_count cCnt; simp only [bnd_ok, bnd_err, then_ok, then_err, fVar0, fVarS, fC_e, fOp_e, fUn_e, asB_e, asI_e, fT_e, fAnd_e, fOr_e, fNot_e, fAndV_e, fOrV_e, fNotV_e, fIf_e, fChain_e, aNil_e, aCons_e, fTup_e, fLst_e, fCall_e, dTup_e, dLst_e, gAdd_i, gSub_i, gNeg_i, gEq_i, gNe_i, gLt_i, gLe_i, gGt_i, gGe_i, gIsN_e, gNotN_e, isN_n, isN_i, isN_t, isN_l, isN_b, gIsi_e, tyD_n, tyD_i, tyD_t, tyD_l, tyD_b, tyD_s, isaT_ii, isaT_bi, isaT_ib, isaT_bb, isaT_tt, isaT_ll, isaT_tb, isaT_ti, isaT_it, isaT_bt, isaT_lt, isaT_nt, isaT_st, gLen_l, gLen_t, gOne_l, gTuple_l, gTuple_t, gInt_b, gMin2_e, gMax2_e, fIt_e, items_l, items_t, fItA_e, gEnum_e, gZip_t, gNm0, gNmS, gNil_e, gCons_e, gTp_e, wipe0, wipeS, tYesD_e, sNil_e, sExpr_e, sRet_e, sRaise_e, sIf_e, sAsg_e, asF_e, sFor_e, endF_r, endF_n, endF_x, asO_s, fRg1_e, sFrz_e, gIx_t0, gIx_t1, gIx_t2, gIx_l0, gIx_l1, gIx_l2, Option.map_some, Option.bind_some, List.set_cons_succ, List.set_cons_zero, List.getElem?_cons_succ, List.getElem?_cons_zero, Bool.not_true, Bool.not_false, Bool.false_eq_true, ↓reduceIte, List.length_cons, List.length_nil, List.map_cons, List.map_nil, Nat.reduceAdd, Nat.reduceLeDiff, Nat.reduceLT, Bool.true_and, Bool.and_true, Bool.false_and, Bool.and_false, List.length_map, Nat.zero_le, isaT_ni, isaT_si, isaT_li, isaT_di, tyD_d]
/-- the counts that a list of data holds -/
def nats : List D → Option (List Nat)
  | [] => some []
  | .int n :: r => if 0 ≤ n then (nats r).map (n.toNat :: ·) else none
  | _ :: _ => none
theorem nats_e : ∀ {ds : List D} {ns : List Nat}, nats ds = some ns → ds = ns.map nD
  | [], ns, h => by cases h; rfl
  | .int n :: r, ns, h => by
    unfold nats at h
    split at h
    · rename_i h0
      cases hr : nats r with
      | none => rw [hr] at h; cases h
      | some ms =>
        rw [hr] at h
        have h := Option.some.inj h
        subst h
        rw [List.map_cons, ← nats_e hr, nat_of h0]
    · cases h
  | .none :: r, ns, h => by cases h
  | .bool _ :: r, ns, h => by cases h
  | .str _ :: r, ns, h => by cases h
  | .list _ :: r, ns, h => by cases h
  | .tuple _ :: r, ns, h => by cases h
  | .dict _ :: r, ns, h => by cases h
theorem nats_map (ns : List Nat) : nats (ns.map nD) = some ns := by
  induction ns with
  | nil => rfl
  | cons n ns ih =>
    rw [List.map_cons]
    show (if (0 : Int) ≤ (n : Int) then (nats (ns.map nD)).map _ else none) = _
    rw [if_pos (by omega), ih]
    rfl
theorem nats_none : ∀ {ds : List D} (m : Int), nats ds = none → (ds.all fun d => cCnt d 0 m) = false
  | [], m, h => by cases h
  | d :: r, m, h => by
    rw [List.all_cons, Bool.and_eq_false_iff]
    cases d with
    | int n =>
      unfold nats at h
      split at h
      · rename_i h0
        cases hr : nats r with
        | none => exact .inr (nats_none m hr)
        | some ms => rw [hr] at h; cases h
      · rename_i h0
        left
        unfold cCnt
        simp
        omega
    | _ => exact .inl rfl
def cRisD (d : D) (m : Nat) : Bool := match d with
  | .tuple xs => match nats xs with
    | some ns => rise m ns
    | none => false
  | _ => false
def shortT (d : D) : Prop := match d with
  | .tuple xs => xs.length ≤ 1000
  | _ => True
theorem is_rising_d (d : D) (m : Nat) (hl : shortT d) : m_is_rising [d, nD m] = .ok (.bool (cRisD d m)) := by
  cases d with
  | tuple xs =>
    unfold cRisD
    show _ = R.ok (PyData.bool (match nats xs with | some ns => rise m ns | none => false))
    have hl : xs.length ≤ 1000 := hl
    cases hx : nats xs with
    | some ns =>
      have := nats_e hx
      subst this
      rw [List.length_map] at hl
      exact is_rising_e ns m (by omega)
    | none =>
      have hf := nats_none ((m : Int) - 1) hx
      rw [q_is_rising]
      unfold b_is_rising
      have h1 : fLc (fIt (fVar 0)) (gNm 2) tYesD (fCall m_is_count (aCons (fVar 2) (aCons (fC (.int 0)) (aCons (fOp gSub (fVar 1) (fC (.int 1))) aNil)))) [2] [.dat (.tuple xs), .dat (nD m), .non, .non] = .ok (.list (xs.map fun x => .bool (cCnt x 0 ((m : Int) - 1)))) := by
        refine fLc_map id _ xs (by simp only [bnd_ok, bnd_err, then_ok, then_err, fVar0, fVarS, fC_e, fOp_e, fUn_e, asB_e, asI_e, fT_e, fAnd_e, fOr_e, fNot_e, fAndV_e, fOrV_e, fNotV_e, fIf_e, fChain_e, aNil_e, aCons_e, fTup_e, fLst_e, fCall_e, dTup_e, dLst_e, gAdd_i, gSub_i, gNeg_i, gEq_i, gNe_i, gLt_i, gLe_i, gGt_i, gGe_i, gIsN_e, gNotN_e, isN_n, isN_i, isN_t, isN_l, isN_b, gIsi_e, tyD_n, tyD_i, tyD_t, tyD_l, tyD_b, tyD_s, isaT_ii, isaT_bi, isaT_ib, isaT_bb, isaT_tt, isaT_ll, isaT_tb, isaT_ti, isaT_it, isaT_bt, isaT_lt, isaT_nt, isaT_st, gLen_l, gLen_t, gOne_l, gTuple_l, gTuple_t, gInt_b, gMin2_e, gMax2_e, fIt_e, items_l, items_t, fItA_e, gEnum_e, gZip_t, gNm0, gNmS, gNil_e, gCons_e, gTp_e, wipe0, wipeS, tYesD_e, sNil_e, sExpr_e, sRet_e, sRaise_e, sIf_e, sAsg_e, asF_e, sFor_e, endF_r, endF_n, endF_x, asO_s, fRg1_e, sFrz_e, gIx_t0, gIx_t1, gIx_t2, gIx_l0, gIx_l1, gIx_l2, Option.map_some, Option.bind_some, List.set_cons_succ, List.set_cons_zero, List.getElem?_cons_succ, List.getElem?_cons_zero, Bool.not_true, Bool.not_false, Bool.false_eq_true, ↓reduceIte, List.length_cons, List.length_nil, List.map_cons, List.map_nil, Nat.reduceAdd, Nat.reduceLeDiff, Nat.reduceLT, Bool.true_and, Bool.and_true, Bool.false_and, Bool.and_false, List.length_map, Nat.zero_le, List.map_id, id_eq]) (by omega) fun x _ => ?_
        simp only [lcOne, bnd_ok, bnd_err, then_ok, then_err, fVar0, fVarS, fC_e, fOp_e, fUn_e, asB_e, asI_e, fT_e, fAnd_e, fOr_e, fNot_e, fAndV_e, fOrV_e, fNotV_e, fIf_e, fChain_e, aNil_e, aCons_e, fTup_e, fLst_e, fCall_e, dTup_e, dLst_e, gAdd_i, gSub_i, gNeg_i, gEq_i, gNe_i, gLt_i, gLe_i, gGt_i, gGe_i, gIsN_e, gNotN_e, isN_n, isN_i, isN_t, isN_l, isN_b, gIsi_e, tyD_n, tyD_i, tyD_t, tyD_l, tyD_b, tyD_s, isaT_ii, isaT_bi, isaT_ib, isaT_bb, isaT_tt, isaT_ll, isaT_tb, isaT_ti, isaT_it, isaT_bt, isaT_lt, isaT_nt, isaT_st, gLen_l, gLen_t, gOne_l, gTuple_l, gTuple_t, gInt_b, gMin2_e, gMax2_e, fIt_e, items_l, items_t, fItA_e, gEnum_e, gZip_t, gNm0, gNmS, gNil_e, gCons_e, gTp_e, wipe0, wipeS, tYesD_e, sNil_e, sExpr_e, sRet_e, sRaise_e, sIf_e, sAsg_e, asF_e, sFor_e, endF_r, endF_n, endF_x, asO_s, fRg1_e, sFrz_e, gIx_t0, gIx_t1, gIx_t2, gIx_l0, gIx_l1, gIx_l2, Option.map_some, Option.bind_some, List.set_cons_succ, List.set_cons_zero, List.getElem?_cons_succ, List.getElem?_cons_zero, Bool.not_true, Bool.not_false, Bool.false_eq_true, ↓reduceIte, List.length_cons, List.length_nil, List.map_cons, List.map_nil, Nat.reduceAdd, Nat.reduceLeDiff, Nat.reduceLT, Bool.true_and, Bool.and_true, Bool.false_and, Bool.and_false, List.length_map, Nat.zero_le, id_eq, is_count_d]
      rw [sSeq_r (d := .bool false) (h := by simp only [bnd_ok, bnd_err, then_ok, then_err, fVar0, fVarS, fC_e, fOp_e, fUn_e, asB_e, asI_e, fT_e, fAnd_e, fOr_e, fNot_e, fAndV_e, fOrV_e, fNotV_e, fIf_e, fChain_e, aNil_e, aCons_e, fTup_e, fLst_e, fCall_e, dTup_e, dLst_e, gAdd_i, gSub_i, gNeg_i, gEq_i, gNe_i, gLt_i, gLe_i, gGt_i, gGe_i, gIsN_e, gNotN_e, isN_n, isN_i, isN_t, isN_l, isN_b, gIsi_e, tyD_n, tyD_i, tyD_t, tyD_l, tyD_b, tyD_s, isaT_ii, isaT_bi, isaT_ib, isaT_bb, isaT_tt, isaT_ll, isaT_tb, isaT_ti, isaT_it, isaT_bt, isaT_lt, isaT_nt, isaT_st, gLen_l, gLen_t, gOne_l, gTuple_l, gTuple_t, gInt_b, gMin2_e, gMax2_e, fIt_e, items_l, items_t, fItA_e, gEnum_e, gZip_t, gNm0, gNmS, gNil_e, gCons_e, gTp_e, wipe0, wipeS, tYesD_e, sNil_e, sExpr_e, sRet_e, sRaise_e, sIf_e, sAsg_e, asF_e, sFor_e, endF_r, endF_n, endF_x, asO_s, fRg1_e, sFrz_e, gIx_t0, gIx_t1, gIx_t2, gIx_l0, gIx_l1, gIx_l2, Option.map_some, Option.bind_some, List.set_cons_succ, List.set_cons_zero, List.getElem?_cons_succ, List.getElem?_cons_zero, Bool.not_true, Bool.not_false, Bool.false_eq_true, ↓reduceIte, List.length_cons, List.length_nil, List.map_cons, List.map_nil, Nat.reduceAdd, Nat.reduceLeDiff, Nat.reduceLT, Bool.true_and, Bool.and_true, Bool.false_and, Bool.and_false, List.length_map, Nat.zero_le, h1, dAll_map, hf])]
      rfl
  | _ =>
    rw [q_is_rising]
    unfold b_is_rising
    rw [sSeq_r (d := .bool false) (h := by simp only [bnd_ok, bnd_err, then_ok, then_err, fVar0, fVarS, fC_e, fOp_e, fUn_e, asB_e, asI_e, fT_e, fAnd_e, fOr_e, fNot_e, fAndV_e, fOrV_e, fNotV_e, fIf_e, fChain_e, aNil_e, aCons_e, fTup_e, fLst_e, fCall_e, dTup_e, dLst_e, gAdd_i, gSub_i, gNeg_i, gEq_i, gNe_i, gLt_i, gLe_i, gGt_i, gGe_i, gIsN_e, gNotN_e, isN_n, isN_i, isN_t, isN_l, isN_b, gIsi_e, tyD_n, tyD_i, tyD_t, tyD_l, tyD_b, tyD_s, isaT_ii, isaT_bi, isaT_ib, isaT_bb, isaT_tt, isaT_ll, isaT_tb, isaT_ti, isaT_it, isaT_bt, isaT_lt, isaT_nt, isaT_st, gLen_l, gLen_t, gOne_l, gTuple_l, gTuple_t, gInt_b, gMin2_e, gMax2_e, fIt_e, items_l, items_t, fItA_e, gEnum_e, gZip_t, gNm0, gNmS, gNil_e, gCons_e, gTp_e, wipe0, wipeS, tYesD_e, sNil_e, sExpr_e, sRet_e, sRaise_e, sIf_e, sAsg_e, asF_e, sFor_e, endF_r, endF_n, endF_x, asO_s, fRg1_e, sFrz_e, gIx_t0, gIx_t1, gIx_t2, gIx_l0, gIx_l1, gIx_l2, Option.map_some, Option.bind_some, List.set_cons_succ, List.set_cons_zero, List.getElem?_cons_succ, List.getElem?_cons_zero, Bool.not_true, Bool.not_false, Bool.false_eq_true, ↓reduceIte, List.length_cons, List.length_nil, List.map_cons, List.map_nil, Nat.reduceAdd, Nat.reduceLeDiff, Nat.reduceLT, Bool.true_and, Bool.and_true, Bool.false_and, Bool.and_false, List.length_map, Nat.zero_le, tyD_d, isaT_dt])]
    rfl
theorem cRisD_t {xs : List Nat} {m : Nat} (h : Rise m xs) : cRisD (tN xs) m = true := by
  unfold cRisD
  show (match nats (xs.map nD) with | some ns => rise m ns | none => false) = true
  rw [nats_map]
  exact (rise_iff m xs).mpr h
theorem cRisD_inv {d : D} {m : Nat} (h : cRisD d m = true) : ∃ xs, d = tN xs ∧ Rise m xs := by
  cases d with
  | tuple xs =>
    unfold cRisD at h
    have h : (match nats xs with | some ns => rise m ns | none => false) = true := h
    cases hx : nats xs with
    | some ns =>
      rw [hx] at h
      exact ⟨ns, by rw [nats_e hx], (rise_iff m ns).mp h⟩
    | none => rw [hx] at h; cases h
  | _ => cases h
/-! ### plans among all data -/
def cPlanD (b : Belt) (d : D) : Bool := match d with
  | .tuple [p, q] => cRisD p b.S.length && cRisD q b.K.length
  | _ => false
def shortP (d : D) : Prop := match d with
  | .tuple [p, q] => shortT p ∧ shortT q
  | _ => True
theorem need_plan_d {b : Belt} (d : D) (hs : shortP d) (h : cPlanD b d = false) : m_need_plan [eB b, d] = .err "BadPlan" := by
  rw [q_need_plan]
  unfold b_need_plan
  cases d with
  | tuple xs =>
    match xs, hs, h with
    | [], _, _ => rw [sSeq_x (d := "BadPlan") (h := by simp only [bnd_ok, bnd_err, then_ok, then_err, fVar0, fVarS, fC_e, fOp_e, fUn_e, asB_e, asI_e, fT_e, fAnd_e, fOr_e, fNot_e, fAndV_e, fOrV_e, fNotV_e, fIf_e, fChain_e, aNil_e, aCons_e, fTup_e, fLst_e, fCall_e, dTup_e, dLst_e, gAdd_i, gSub_i, gNeg_i, gEq_i, gNe_i, gLt_i, gLe_i, gGt_i, gGe_i, gIsN_e, gNotN_e, isN_n, isN_i, isN_t, isN_l, isN_b, gIsi_e, tyD_n, tyD_i, tyD_t, tyD_l, tyD_b, tyD_s, isaT_ii, isaT_bi, isaT_ib, isaT_bb, isaT_tt, isaT_ll, isaT_tb, isaT_ti, isaT_it, isaT_bt, isaT_lt, isaT_nt, isaT_st, gLen_l, gLen_t, gOne_l, gTuple_l, gTuple_t, gInt_b, gMin2_e, gMax2_e, fIt_e, items_l, items_t, fItA_e, gEnum_e, gZip_t, gNm0, gNmS, gNil_e, gCons_e, gTp_e, wipe0, wipeS, tYesD_e, sNil_e, sExpr_e, sRet_e, sRaise_e, sIf_e, sAsg_e, asF_e, sFor_e, endF_r, endF_n, endF_x, asO_s, fRg1_e, sFrz_e, gIx_t0, gIx_t1, gIx_t2, gIx_l0, gIx_l1, gIx_l2, Option.map_some, Option.bind_some, List.set_cons_succ, List.set_cons_zero, List.getElem?_cons_succ, List.getElem?_cons_zero, Bool.not_true, Bool.not_false, Bool.false_eq_true, ↓reduceIte, List.length_cons, List.length_nil, List.map_cons, List.map_nil, Nat.reduceAdd, Nat.reduceLeDiff, Nat.reduceLT, Bool.true_and, Bool.and_true, Bool.false_and, Bool.and_false, List.length_map, Nat.zero_le]; rfl)]; rfl
    | [a], _, _ => rw [sSeq_x (d := "BadPlan") (h := by simp only [bnd_ok, bnd_err, then_ok, then_err, fVar0, fVarS, fC_e, fOp_e, fUn_e, asB_e, asI_e, fT_e, fAnd_e, fOr_e, fNot_e, fAndV_e, fOrV_e, fNotV_e, fIf_e, fChain_e, aNil_e, aCons_e, fTup_e, fLst_e, fCall_e, dTup_e, dLst_e, gAdd_i, gSub_i, gNeg_i, gEq_i, gNe_i, gLt_i, gLe_i, gGt_i, gGe_i, gIsN_e, gNotN_e, isN_n, isN_i, isN_t, isN_l, isN_b, gIsi_e, tyD_n, tyD_i, tyD_t, tyD_l, tyD_b, tyD_s, isaT_ii, isaT_bi, isaT_ib, isaT_bb, isaT_tt, isaT_ll, isaT_tb, isaT_ti, isaT_it, isaT_bt, isaT_lt, isaT_nt, isaT_st, gLen_l, gLen_t, gOne_l, gTuple_l, gTuple_t, gInt_b, gMin2_e, gMax2_e, fIt_e, items_l, items_t, fItA_e, gEnum_e, gZip_t, gNm0, gNmS, gNil_e, gCons_e, gTp_e, wipe0, wipeS, tYesD_e, sNil_e, sExpr_e, sRet_e, sRaise_e, sIf_e, sAsg_e, asF_e, sFor_e, endF_r, endF_n, endF_x, asO_s, fRg1_e, sFrz_e, gIx_t0, gIx_t1, gIx_t2, gIx_l0, gIx_l1, gIx_l2, Option.map_some, Option.bind_some, List.set_cons_succ, List.set_cons_zero, List.getElem?_cons_succ, List.getElem?_cons_zero, Bool.not_true, Bool.not_false, Bool.false_eq_true, ↓reduceIte, List.length_cons, List.length_nil, List.map_cons, List.map_nil, Nat.reduceAdd, Nat.reduceLeDiff, Nat.reduceLT, Bool.true_and, Bool.and_true, Bool.false_and, Bool.and_false, List.length_map, Nat.zero_le]; rfl)]; rfl
    | a :: b :: c :: r, _, _ =>
      have e : (((((r.length + 1 + 1 + 1 : Nat)) : Int)) == (2 : Int)) = false := by simp; omega
      rw [sSeq_x (d := "BadPlan") (h := by simp only [bnd_ok, bnd_err, then_ok, then_err, fVar0, fVarS, fC_e, fOp_e, fUn_e, asB_e, asI_e, fT_e, fAnd_e, fOr_e, fNot_e, fAndV_e, fOrV_e, fNotV_e, fIf_e, fChain_e, aNil_e, aCons_e, fTup_e, fLst_e, fCall_e, dTup_e, dLst_e, gAdd_i, gSub_i, gNeg_i, gEq_i, gNe_i, gLt_i, gLe_i, gGt_i, gGe_i, gIsN_e, gNotN_e, isN_n, isN_i, isN_t, isN_l, isN_b, gIsi_e, tyD_n, tyD_i, tyD_t, tyD_l, tyD_b, tyD_s, isaT_ii, isaT_bi, isaT_ib, isaT_bb, isaT_tt, isaT_ll, isaT_tb, isaT_ti, isaT_it, isaT_bt, isaT_lt, isaT_nt, isaT_st, gLen_l, gLen_t, gOne_l, gTuple_l, gTuple_t, gInt_b, gMin2_e, gMax2_e, fIt_e, items_l, items_t, fItA_e, gEnum_e, gZip_t, gNm0, gNmS, gNil_e, gCons_e, gTp_e, wipe0, wipeS, tYesD_e, sNil_e, sExpr_e, sRet_e, sRaise_e, sIf_e, sAsg_e, asF_e, sFor_e, endF_r, endF_n, endF_x, asO_s, fRg1_e, sFrz_e, gIx_t0, gIx_t1, gIx_t2, gIx_l0, gIx_l1, gIx_l2, Option.map_some, Option.bind_some, List.set_cons_succ, List.set_cons_zero, List.getElem?_cons_succ, List.getElem?_cons_zero, Bool.not_true, Bool.not_false, Bool.false_eq_true, ↓reduceIte, List.length_cons, List.length_nil, List.map_cons, List.map_nil, Nat.reduceAdd, Nat.reduceLeDiff, Nat.reduceLT, Bool.true_and, Bool.and_true, Bool.false_and, Bool.and_false, List.length_map, Nat.zero_le, e])]; rfl
    | [p, q], hs, h =>
      have h : (cRisD p b.S.length && cRisD q b.K.length) = false := h
      have e : ((((0 + 1 + 1 : Nat)) : Int) == (2 : Int)) = true := by decide
      rw [sSeq_n (h := by simp only [bnd_ok, bnd_err, then_ok, then_err, fVar0, fVarS, fC_e, fOp_e, fUn_e, asB_e, asI_e, fT_e, fAnd_e, fOr_e, fNot_e, fAndV_e, fOrV_e, fNotV_e, fIf_e, fChain_e, aNil_e, aCons_e, fTup_e, fLst_e, fCall_e, dTup_e, dLst_e, gAdd_i, gSub_i, gNeg_i, gEq_i, gNe_i, gLt_i, gLe_i, gGt_i, gGe_i, gIsN_e, gNotN_e, isN_n, isN_i, isN_t, isN_l, isN_b, gIsi_e, tyD_n, tyD_i, tyD_t, tyD_l, tyD_b, tyD_s, isaT_ii, isaT_bi, isaT_ib, isaT_bb, isaT_tt, isaT_ll, isaT_tb, isaT_ti, isaT_it, isaT_bt, isaT_lt, isaT_nt, isaT_st, gLen_l, gLen_t, gOne_l, gTuple_l, gTuple_t, gInt_b, gMin2_e, gMax2_e, fIt_e, items_l, items_t, fItA_e, gEnum_e, gZip_t, gNm0, gNmS, gNil_e, gCons_e, gTp_e, wipe0, wipeS, tYesD_e, sNil_e, sExpr_e, sRet_e, sRaise_e, sIf_e, sAsg_e, asF_e, sFor_e, endF_r, endF_n, endF_x, asO_s, fRg1_e, sFrz_e, gIx_t0, gIx_t1, gIx_t2, gIx_l0, gIx_l1, gIx_l2, Option.map_some, Option.bind_some, List.set_cons_succ, List.set_cons_zero, List.getElem?_cons_succ, List.getElem?_cons_zero, Bool.not_true, Bool.not_false, Bool.false_eq_true, ↓reduceIte, List.length_cons, List.length_nil, List.map_cons, List.map_nil, Nat.reduceAdd, Nat.reduceLeDiff, Nat.reduceLT, Bool.true_and, Bool.and_true, Bool.false_and, Bool.and_false, List.length_map, Nat.zero_le]; rfl)]
      simp only [bnd_ok, bnd_err, then_ok, then_err, fVar0, fVarS, fC_e, fOp_e, fUn_e, asB_e, asI_e, fT_e, fAnd_e, fOr_e, fNot_e, fAndV_e, fOrV_e, fNotV_e, fIf_e, fChain_e, aNil_e, aCons_e, fTup_e, fLst_e, fCall_e, dTup_e, dLst_e, gAdd_i, gSub_i, gNeg_i, gEq_i, gNe_i, gLt_i, gLe_i, gGt_i, gGe_i, gIsN_e, gNotN_e, isN_n, isN_i, isN_t, isN_l, isN_b, gIsi_e, tyD_n, tyD_i, tyD_t, tyD_l, tyD_b, tyD_s, isaT_ii, isaT_bi, isaT_ib, isaT_bb, isaT_tt, isaT_ll, isaT_tb, isaT_ti, isaT_it, isaT_bt, isaT_lt, isaT_nt, isaT_st, gLen_l, gLen_t, gOne_l, gTuple_l, gTuple_t, gInt_b, gMin2_e, gMax2_e, fIt_e, items_l, items_t, fItA_e, gEnum_e, gZip_t, gNm0, gNmS, gNil_e, gCons_e, gTp_e, wipe0, wipeS, tYesD_e, sNil_e, sExpr_e, sRet_e, sRaise_e, sIf_e, sAsg_e, asF_e, sFor_e, endF_r, endF_n, endF_x, asO_s, fRg1_e, sFrz_e, gIx_t0, gIx_t1, gIx_t2, gIx_l0, gIx_l1, gIx_l2, Option.map_some, Option.bind_some, List.set_cons_succ, List.set_cons_zero, List.getElem?_cons_succ, List.getElem?_cons_zero, Bool.not_true, Bool.not_false, Bool.false_eq_true, ↓reduceIte, List.length_cons, List.length_nil, List.map_cons, List.map_nil, Nat.reduceAdd, Nat.reduceLeDiff, Nat.reduceLT, Bool.true_and, Bool.and_true, Bool.false_and, Bool.and_false, List.length_map, Nat.zero_le, is_rising_d p _ hs.1, is_rising_d q _ hs.2]
      cases hp : cRisD p b.S.length with
      | false => simp only [bnd_ok, bnd_err, then_ok, then_err, fVar0, fVarS, fC_e, fOp_e, fUn_e, asB_e, asI_e, fT_e, fAnd_e, fOr_e, fNot_e, fAndV_e, fOrV_e, fNotV_e, fIf_e, fChain_e, aNil_e, aCons_e, fTup_e, fLst_e, fCall_e, dTup_e, dLst_e, gAdd_i, gSub_i, gNeg_i, gEq_i, gNe_i, gLt_i, gLe_i, gGt_i, gGe_i, gIsN_e, gNotN_e, isN_n, isN_i, isN_t, isN_l, isN_b, gIsi_e, tyD_n, tyD_i, tyD_t, tyD_l, tyD_b, tyD_s, isaT_ii, isaT_bi, isaT_ib, isaT_bb, isaT_tt, isaT_ll, isaT_tb, isaT_ti, isaT_it, isaT_bt, isaT_lt, isaT_nt, isaT_st, gLen_l, gLen_t, gOne_l, gTuple_l, gTuple_t, gInt_b, gMin2_e, gMax2_e, fIt_e, items_l, items_t, fItA_e, gEnum_e, gZip_t, gNm0, gNmS, gNil_e, gCons_e, gTp_e, wipe0, wipeS, tYesD_e, sNil_e, sExpr_e, sRet_e, sRaise_e, sIf_e, sAsg_e, asF_e, sFor_e, endF_r, endF_n, endF_x, asO_s, fRg1_e, sFrz_e, gIx_t0, gIx_t1, gIx_t2, gIx_l0, gIx_l1, gIx_l2, Option.map_some, Option.bind_some, List.set_cons_succ, List.set_cons_zero, List.getElem?_cons_succ, List.getElem?_cons_zero, Bool.not_true, Bool.not_false, Bool.false_eq_true, ↓reduceIte, List.length_cons, List.length_nil, List.map_cons, List.map_nil, Nat.reduceAdd, Nat.reduceLeDiff, Nat.reduceLT, Bool.true_and, Bool.and_true, Bool.false_and, Bool.and_false, List.length_map, Nat.zero_le]
      | true =>
        rw [hp] at h
        have h : cRisD q b.K.length = false := h
        simp only [bnd_ok, bnd_err, then_ok, then_err, fVar0, fVarS, fC_e, fOp_e, fUn_e, asB_e, asI_e, fT_e, fAnd_e, fOr_e, fNot_e, fAndV_e, fOrV_e, fNotV_e, fIf_e, fChain_e, aNil_e, aCons_e, fTup_e, fLst_e, fCall_e, dTup_e, dLst_e, gAdd_i, gSub_i, gNeg_i, gEq_i, gNe_i, gLt_i, gLe_i, gGt_i, gGe_i, gIsN_e, gNotN_e, isN_n, isN_i, isN_t, isN_l, isN_b, gIsi_e, tyD_n, tyD_i, tyD_t, tyD_l, tyD_b, tyD_s, isaT_ii, isaT_bi, isaT_ib, isaT_bb, isaT_tt, isaT_ll, isaT_tb, isaT_ti, isaT_it, isaT_bt, isaT_lt, isaT_nt, isaT_st, gLen_l, gLen_t, gOne_l, gTuple_l, gTuple_t, gInt_b, gMin2_e, gMax2_e, fIt_e, items_l, items_t, fItA_e, gEnum_e, gZip_t, gNm0, gNmS, gNil_e, gCons_e, gTp_e, wipe0, wipeS, tYesD_e, sNil_e, sExpr_e, sRet_e, sRaise_e, sIf_e, sAsg_e, asF_e, sFor_e, endF_r, endF_n, endF_x, asO_s, fRg1_e, sFrz_e, gIx_t0, gIx_t1, gIx_t2, gIx_l0, gIx_l1, gIx_l2, Option.map_some, Option.bind_some, List.set_cons_succ, List.set_cons_zero, List.getElem?_cons_succ, List.getElem?_cons_zero, Bool.not_true, Bool.not_false, Bool.false_eq_true, ↓reduceIte, List.length_cons, List.length_nil, List.map_cons, List.map_nil, Nat.reduceAdd, Nat.reduceLeDiff, Nat.reduceLT, Bool.true_and, Bool.and_true, Bool.false_and, Bool.and_false, List.length_map, Nat.zero_le, h]
  | _ => rw [sSeq_x (d := "BadPlan") (h := by simp only [bnd_ok, bnd_err, then_ok, then_err, fVar0, fVarS, fC_e, fOp_e, fUn_e, asB_e, asI_e, fT_e, fAnd_e, fOr_e, fNot_e, fAndV_e, fOrV_e, fNotV_e, fIf_e, fChain_e, aNil_e, aCons_e, fTup_e, fLst_e, fCall_e, dTup_e, dLst_e, gAdd_i, gSub_i, gNeg_i, gEq_i, gNe_i, gLt_i, gLe_i, gGt_i, gGe_i, gIsN_e, gNotN_e, isN_n, isN_i, isN_t, isN_l, isN_b, gIsi_e, tyD_n, tyD_i, tyD_t, tyD_l, tyD_b, tyD_s, isaT_ii, isaT_bi, isaT_ib, isaT_bb, isaT_tt, isaT_ll, isaT_tb, isaT_ti, isaT_it, isaT_bt, isaT_lt, isaT_nt, isaT_st, gLen_l, gLen_t, gOne_l, gTuple_l, gTuple_t, gInt_b, gMin2_e, gMax2_e, fIt_e, items_l, items_t, fItA_e, gEnum_e, gZip_t, gNm0, gNmS, gNil_e, gCons_e, gTp_e, wipe0, wipeS, tYesD_e, sNil_e, sExpr_e, sRet_e, sRaise_e, sIf_e, sAsg_e, asF_e, sFor_e, endF_r, endF_n, endF_x, asO_s, fRg1_e, sFrz_e, gIx_t0, gIx_t1, gIx_t2, gIx_l0, gIx_l1, gIx_l2, Option.map_some, Option.bind_some, List.set_cons_succ, List.set_cons_zero, List.getElem?_cons_succ, List.getElem?_cons_zero, Bool.not_true, Bool.not_false, Bool.false_eq_true, ↓reduceIte, List.length_cons, List.length_nil, List.map_cons, List.map_nil, Nat.reduceAdd, Nat.reduceLeDiff, Nat.reduceLT, Bool.true_and, Bool.and_true, Bool.false_and, Bool.and_false, List.length_map, Nat.zero_le, tyD_d, isaT_dt])]; rfl
/-! ### bottles among all data -/
theorem need_bottle_b {b : Belt} {ss ks : List Nat} (d s : D) (hd : shortT d) (h : cRisD d b.F.length = false) : m_need_bottle [eB b, eP ss ks, d, s] = .err "BadBottle" := by
  rw [q_need_bottle]
  unfold b_need_bottle
  rw [sSeq_x (d := "BadBottle") (h := by simp only [bnd_ok, bnd_err, then_ok, then_err, fVar0, fVarS, fC_e, fOp_e, fUn_e, asB_e, asI_e, fT_e, fAnd_e, fOr_e, fNot_e, fAndV_e, fOrV_e, fNotV_e, fIf_e, fChain_e, aNil_e, aCons_e, fTup_e, fLst_e, fCall_e, dTup_e, dLst_e, gAdd_i, gSub_i, gNeg_i, gEq_i, gNe_i, gLt_i, gLe_i, gGt_i, gGe_i, gIsN_e, gNotN_e, isN_n, isN_i, isN_t, isN_l, isN_b, gIsi_e, tyD_n, tyD_i, tyD_t, tyD_l, tyD_b, tyD_s, isaT_ii, isaT_bi, isaT_ib, isaT_bb, isaT_tt, isaT_ll, isaT_tb, isaT_ti, isaT_it, isaT_bt, isaT_lt, isaT_nt, isaT_st, gLen_l, gLen_t, gOne_l, gTuple_l, gTuple_t, gInt_b, gMin2_e, gMax2_e, fIt_e, items_l, items_t, fItA_e, gEnum_e, gZip_t, gNm0, gNmS, gNil_e, gCons_e, gTp_e, wipe0, wipeS, tYesD_e, sNil_e, sExpr_e, sRet_e, sRaise_e, sIf_e, sAsg_e, asF_e, sFor_e, endF_r, endF_n, endF_x, asO_s, fRg1_e, sFrz_e, gIx_t0, gIx_t1, gIx_t2, gIx_l0, gIx_l1, gIx_l2, Option.map_some, Option.bind_some, List.set_cons_succ, List.set_cons_zero, List.getElem?_cons_succ, List.getElem?_cons_zero, Bool.not_true, Bool.not_false, Bool.false_eq_true, ↓reduceIte, List.length_cons, List.length_nil, List.map_cons, List.map_nil, Nat.reduceAdd, Nat.reduceLeDiff, Nat.reduceLT, Bool.true_and, Bool.and_true, Bool.false_and, Bool.and_false, List.length_map, Nat.zero_le, is_rising_d d _ hd, h])]
  rfl
theorem need_bottle_s {b : Belt} {ss ks : List Nat} (bo : List Nat) (s : D) (hb : b.Ok) (hbo : Rise b.F.length bo) (hd : shortT s) (h : ∀ xs, s = tN xs → Rise b.S.length xs → xs.all (ss.contains ·) = false) : m_need_bottle [eB b, eP ss ks, tN bo, s] = .err "BadBottle" := by
  have s8 := hb.s8; have f6 := hb.f6
  rw [q_need_bottle]
  unfold b_need_bottle
  rw [sSeq_n (h := by simp only [bnd_ok, bnd_err, then_ok, then_err, fVar0, fVarS, fC_e, fOp_e, fUn_e, asB_e, asI_e, fT_e, fAnd_e, fOr_e, fNot_e, fAndV_e, fOrV_e, fNotV_e, fIf_e, fChain_e, aNil_e, aCons_e, fTup_e, fLst_e, fCall_e, dTup_e, dLst_e, gAdd_i, gSub_i, gNeg_i, gEq_i, gNe_i, gLt_i, gLe_i, gGt_i, gGe_i, gIsN_e, gNotN_e, isN_n, isN_i, isN_t, isN_l, isN_b, gIsi_e, tyD_n, tyD_i, tyD_t, tyD_l, tyD_b, tyD_s, isaT_ii, isaT_bi, isaT_ib, isaT_bb, isaT_tt, isaT_ll, isaT_tb, isaT_ti, isaT_it, isaT_bt, isaT_lt, isaT_nt, isaT_st, gLen_l, gLen_t, gOne_l, gTuple_l, gTuple_t, gInt_b, gMin2_e, gMax2_e, fIt_e, items_l, items_t, fItA_e, gEnum_e, gZip_t, gNm0, gNmS, gNil_e, gCons_e, gTp_e, wipe0, wipeS, tYesD_e, sNil_e, sExpr_e, sRet_e, sRaise_e, sIf_e, sAsg_e, asF_e, sFor_e, endF_r, endF_n, endF_x, asO_s, fRg1_e, sFrz_e, gIx_t0, gIx_t1, gIx_t2, gIx_l0, gIx_l1, gIx_l2, Option.map_some, Option.bind_some, List.set_cons_succ, List.set_cons_zero, List.getElem?_cons_succ, List.getElem?_cons_zero, Bool.not_true, Bool.not_false, Bool.false_eq_true, ↓reduceIte, List.length_cons, List.length_nil, List.map_cons, List.map_nil, Nat.reduceAdd, Nat.reduceLeDiff, Nat.reduceLT, Bool.true_and, Bool.and_true, Bool.false_and, Bool.and_false, List.length_map, Nat.zero_le, is_rising_t hbo (by omega)]; rfl)]
  cases hc : cRisD s b.S.length with
  | false => simp only [bnd_ok, bnd_err, then_ok, then_err, fVar0, fVarS, fC_e, fOp_e, fUn_e, asB_e, asI_e, fT_e, fAnd_e, fOr_e, fNot_e, fAndV_e, fOrV_e, fNotV_e, fIf_e, fChain_e, aNil_e, aCons_e, fTup_e, fLst_e, fCall_e, dTup_e, dLst_e, gAdd_i, gSub_i, gNeg_i, gEq_i, gNe_i, gLt_i, gLe_i, gGt_i, gGe_i, gIsN_e, gNotN_e, isN_n, isN_i, isN_t, isN_l, isN_b, gIsi_e, tyD_n, tyD_i, tyD_t, tyD_l, tyD_b, tyD_s, isaT_ii, isaT_bi, isaT_ib, isaT_bb, isaT_tt, isaT_ll, isaT_tb, isaT_ti, isaT_it, isaT_bt, isaT_lt, isaT_nt, isaT_st, gLen_l, gLen_t, gOne_l, gTuple_l, gTuple_t, gInt_b, gMin2_e, gMax2_e, fIt_e, items_l, items_t, fItA_e, gEnum_e, gZip_t, gNm0, gNmS, gNil_e, gCons_e, gTp_e, wipe0, wipeS, tYesD_e, sNil_e, sExpr_e, sRet_e, sRaise_e, sIf_e, sAsg_e, asF_e, sFor_e, endF_r, endF_n, endF_x, asO_s, fRg1_e, sFrz_e, gIx_t0, gIx_t1, gIx_t2, gIx_l0, gIx_l1, gIx_l2, Option.map_some, Option.bind_some, List.set_cons_succ, List.set_cons_zero, List.getElem?_cons_succ, List.getElem?_cons_zero, Bool.not_true, Bool.not_false, Bool.false_eq_true, ↓reduceIte, List.length_cons, List.length_nil, List.map_cons, List.map_nil, Nat.reduceAdd, Nat.reduceLeDiff, Nat.reduceLT, Bool.true_and, Bool.and_true, Bool.false_and, Bool.and_false, List.length_map, Nat.zero_le, is_rising_d s _ hd, hc]
  | true =>
    obtain ⟨xs, rfl, hr⟩ := cRisD_inv hc
    have hx := h xs rfl hr
    have := rise_len hr
    simp only [bnd_ok, bnd_err, then_ok, then_err, fVar0, fVarS, fC_e, fOp_e, fUn_e, asB_e, asI_e, fT_e, fAnd_e, fOr_e, fNot_e, fAndV_e, fOrV_e, fNotV_e, fIf_e, fChain_e, aNil_e, aCons_e, fTup_e, fLst_e, fCall_e, dTup_e, dLst_e, gAdd_i, gSub_i, gNeg_i, gEq_i, gNe_i, gLt_i, gLe_i, gGt_i, gGe_i, gIsN_e, gNotN_e, isN_n, isN_i, isN_t, isN_l, isN_b, gIsi_e, tyD_n, tyD_i, tyD_t, tyD_l, tyD_b, tyD_s, isaT_ii, isaT_bi, isaT_ib, isaT_bb, isaT_tt, isaT_ll, isaT_tb, isaT_ti, isaT_it, isaT_bt, isaT_lt, isaT_nt, isaT_st, gLen_l, gLen_t, gOne_l, gTuple_l, gTuple_t, gInt_b, gMin2_e, gMax2_e, fIt_e, items_l, items_t, fItA_e, gEnum_e, gZip_t, gNm0, gNmS, gNil_e, gCons_e, gTp_e, wipe0, wipeS, tYesD_e, sNil_e, sExpr_e, sRet_e, sRaise_e, sIf_e, sAsg_e, asF_e, sFor_e, endF_r, endF_n, endF_x, asO_s, fRg1_e, sFrz_e, gIx_t0, gIx_t1, gIx_t2, gIx_l0, gIx_l1, gIx_l2, Option.map_some, Option.bind_some, List.set_cons_succ, List.set_cons_zero, List.getElem?_cons_succ, List.getElem?_cons_zero, Bool.not_true, Bool.not_false, Bool.false_eq_true, ↓reduceIte, List.length_cons, List.length_nil, List.map_cons, List.map_nil, Nat.reduceAdd, Nat.reduceLeDiff, Nat.reduceLT, Bool.true_and, Bool.and_true, Bool.false_and, Bool.and_false, List.length_map, Nat.zero_le, is_rising_d (tN xs) _ hd, hc]
    rw [fLc_map nD (fun x => .bool (ss.contains x)) xs (by simp only [bnd_ok, bnd_err, then_ok, then_err, fVar0, fVarS, fC_e, fOp_e, fUn_e, asB_e, asI_e, fT_e, fAnd_e, fOr_e, fNot_e, fAndV_e, fOrV_e, fNotV_e, fIf_e, fChain_e, aNil_e, aCons_e, fTup_e, fLst_e, fCall_e, dTup_e, dLst_e, gAdd_i, gSub_i, gNeg_i, gEq_i, gNe_i, gLt_i, gLe_i, gGt_i, gGe_i, gIsN_e, gNotN_e, isN_n, isN_i, isN_t, isN_l, isN_b, gIsi_e, tyD_n, tyD_i, tyD_t, tyD_l, tyD_b, tyD_s, isaT_ii, isaT_bi, isaT_ib, isaT_bb, isaT_tt, isaT_ll, isaT_tb, isaT_ti, isaT_it, isaT_bt, isaT_lt, isaT_nt, isaT_st, gLen_l, gLen_t, gOne_l, gTuple_l, gTuple_t, gInt_b, gMin2_e, gMax2_e, fIt_e, items_l, items_t, fItA_e, gEnum_e, gZip_t, gNm0, gNmS, gNil_e, gCons_e, gTp_e, wipe0, wipeS, tYesD_e, sNil_e, sExpr_e, sRet_e, sRaise_e, sIf_e, sAsg_e, asF_e, sFor_e, endF_r, endF_n, endF_x, asO_s, fRg1_e, sFrz_e, gIx_t0, gIx_t1, gIx_t2, gIx_l0, gIx_l1, gIx_l2, Option.map_some, Option.bind_some, List.set_cons_succ, List.set_cons_zero, List.getElem?_cons_succ, List.getElem?_cons_zero, Bool.not_true, Bool.not_false, Bool.false_eq_true, ↓reduceIte, List.length_cons, List.length_nil, List.map_cons, List.map_nil, Nat.reduceAdd, Nat.reduceLeDiff, Nat.reduceLT, Bool.true_and, Bool.and_true, Bool.false_and, Bool.and_false, List.length_map, Nat.zero_le]) (by omega) fun x hx => ?_]
    · simp only [bnd_ok, bnd_err, then_ok, then_err, fVar0, fVarS, fC_e, fOp_e, fUn_e, asB_e, asI_e, fT_e, fAnd_e, fOr_e, fNot_e, fAndV_e, fOrV_e, fNotV_e, fIf_e, fChain_e, aNil_e, aCons_e, fTup_e, fLst_e, fCall_e, dTup_e, dLst_e, gAdd_i, gSub_i, gNeg_i, gEq_i, gNe_i, gLt_i, gLe_i, gGt_i, gGe_i, gIsN_e, gNotN_e, isN_n, isN_i, isN_t, isN_l, isN_b, gIsi_e, tyD_n, tyD_i, tyD_t, tyD_l, tyD_b, tyD_s, isaT_ii, isaT_bi, isaT_ib, isaT_bb, isaT_tt, isaT_ll, isaT_tb, isaT_ti, isaT_it, isaT_bt, isaT_lt, isaT_nt, isaT_st, gLen_l, gLen_t, gOne_l, gTuple_l, gTuple_t, gInt_b, gMin2_e, gMax2_e, fIt_e, items_l, items_t, fItA_e, gEnum_e, gZip_t, gNm0, gNmS, gNil_e, gCons_e, gTp_e, wipe0, wipeS, tYesD_e, sNil_e, sExpr_e, sRet_e, sRaise_e, sIf_e, sAsg_e, asF_e, sFor_e, endF_r, endF_n, endF_x, asO_s, fRg1_e, sFrz_e, gIx_t0, gIx_t1, gIx_t2, gIx_l0, gIx_l1, gIx_l2, Option.map_some, Option.bind_some, List.set_cons_succ, List.set_cons_zero, List.getElem?_cons_succ, List.getElem?_cons_zero, Bool.not_true, Bool.not_false, Bool.false_eq_true, ↓reduceIte, List.length_cons, List.length_nil, List.map_cons, List.map_nil, Nat.reduceAdd, Nat.reduceLeDiff, Nat.reduceLT, Bool.true_and, Bool.and_true, Bool.false_and, Bool.and_false, List.length_map, Nat.zero_le, dAll_map, hx]
    · simp only [lcOne, bnd_ok, bnd_err, then_ok, then_err, fVar0, fVarS, fC_e, fOp_e, fUn_e, asB_e, asI_e, fT_e, fAnd_e, fOr_e, fNot_e, fAndV_e, fOrV_e, fNotV_e, fIf_e, fChain_e, aNil_e, aCons_e, fTup_e, fLst_e, fCall_e, dTup_e, dLst_e, gAdd_i, gSub_i, gNeg_i, gEq_i, gNe_i, gLt_i, gLe_i, gGt_i, gGe_i, gIsN_e, gNotN_e, isN_n, isN_i, isN_t, isN_l, isN_b, gIsi_e, tyD_n, tyD_i, tyD_t, tyD_l, tyD_b, tyD_s, isaT_ii, isaT_bi, isaT_ib, isaT_bb, isaT_tt, isaT_ll, isaT_tb, isaT_ti, isaT_it, isaT_bt, isaT_lt, isaT_nt, isaT_st, gLen_l, gLen_t, gOne_l, gTuple_l, gTuple_t, gInt_b, gMin2_e, gMax2_e, fIt_e, items_l, items_t, fItA_e, gEnum_e, gZip_t, gNm0, gNmS, gNil_e, gCons_e, gTp_e, wipe0, wipeS, tYesD_e, sNil_e, sExpr_e, sRet_e, sRaise_e, sIf_e, sAsg_e, asF_e, sFor_e, endF_r, endF_n, endF_x, asO_s, fRg1_e, sFrz_e, gIx_t0, gIx_t1, gIx_t2, gIx_l0, gIx_l1, gIx_l2, Option.map_some, Option.bind_some, List.set_cons_succ, List.set_cons_zero, List.getElem?_cons_succ, List.getElem?_cons_zero, Bool.not_true, Bool.not_false, Bool.false_eq_true, ↓reduceIte, List.length_cons, List.length_nil, List.map_cons, List.map_nil, Nat.reduceAdd, Nat.reduceLeDiff, Nat.reduceLT, Bool.true_and, Bool.and_true, Bool.false_and, Bool.and_false, List.length_map, Nat.zero_le, gIn_t]
/-! ### what is refused -/
theorem out_plan {b : Belt} (h : b.Ok) (d x y : D) (hs : shortP d) (hp : cPlanD b d = false) : m_out [eB b, d, x, y] = .err "BadPlan" := by
  rw [q_out]
  unfold b_out
  rw [sSeq_n (h := by simp only [bnd_ok, bnd_err, then_ok, then_err, fVar0, fVarS, fC_e, fOp_e, fUn_e, asB_e, asI_e, fT_e, fAnd_e, fOr_e, fNot_e, fAndV_e, fOrV_e, fNotV_e, fIf_e, fChain_e, aNil_e, aCons_e, fTup_e, fLst_e, fCall_e, dTup_e, dLst_e, gAdd_i, gSub_i, gNeg_i, gEq_i, gNe_i, gLt_i, gLe_i, gGt_i, gGe_i, gIsN_e, gNotN_e, isN_n, isN_i, isN_t, isN_l, isN_b, gIsi_e, tyD_n, tyD_i, tyD_t, tyD_l, tyD_b, tyD_s, isaT_ii, isaT_bi, isaT_ib, isaT_bb, isaT_tt, isaT_ll, isaT_tb, isaT_ti, isaT_it, isaT_bt, isaT_lt, isaT_nt, isaT_st, gLen_l, gLen_t, gOne_l, gTuple_l, gTuple_t, gInt_b, gMin2_e, gMax2_e, fIt_e, items_l, items_t, fItA_e, gEnum_e, gZip_t, gNm0, gNmS, gNil_e, gCons_e, gTp_e, wipe0, wipeS, tYesD_e, sNil_e, sExpr_e, sRet_e, sRaise_e, sIf_e, sAsg_e, asF_e, sFor_e, endF_r, endF_n, endF_x, asO_s, fRg1_e, sFrz_e, gIx_t0, gIx_t1, gIx_t2, gIx_l0, gIx_l1, gIx_l2, Option.map_some, Option.bind_some, List.set_cons_succ, List.set_cons_zero, List.getElem?_cons_succ, List.getElem?_cons_zero, Bool.not_true, Bool.not_false, Bool.false_eq_true, ↓reduceIte, List.length_cons, List.length_nil, List.map_cons, List.map_nil, Nat.reduceAdd, Nat.reduceLeDiff, Nat.reduceLT, Bool.true_and, Bool.and_true, Bool.false_and, Bool.and_false, List.length_map, Nat.zero_le, need_belt_t h]; rfl)]
  rw [sSeq_x (d := "BadPlan") (h := by simp only [bnd_ok, bnd_err, then_ok, then_err, fVar0, fVarS, fC_e, fOp_e, fUn_e, asB_e, asI_e, fT_e, fAnd_e, fOr_e, fNot_e, fAndV_e, fOrV_e, fNotV_e, fIf_e, fChain_e, aNil_e, aCons_e, fTup_e, fLst_e, fCall_e, dTup_e, dLst_e, gAdd_i, gSub_i, gNeg_i, gEq_i, gNe_i, gLt_i, gLe_i, gGt_i, gGe_i, gIsN_e, gNotN_e, isN_n, isN_i, isN_t, isN_l, isN_b, gIsi_e, tyD_n, tyD_i, tyD_t, tyD_l, tyD_b, tyD_s, isaT_ii, isaT_bi, isaT_ib, isaT_bb, isaT_tt, isaT_ll, isaT_tb, isaT_ti, isaT_it, isaT_bt, isaT_lt, isaT_nt, isaT_st, gLen_l, gLen_t, gOne_l, gTuple_l, gTuple_t, gInt_b, gMin2_e, gMax2_e, fIt_e, items_l, items_t, fItA_e, gEnum_e, gZip_t, gNm0, gNmS, gNil_e, gCons_e, gTp_e, wipe0, wipeS, tYesD_e, sNil_e, sExpr_e, sRet_e, sRaise_e, sIf_e, sAsg_e, asF_e, sFor_e, endF_r, endF_n, endF_x, asO_s, fRg1_e, sFrz_e, gIx_t0, gIx_t1, gIx_t2, gIx_l0, gIx_l1, gIx_l2, Option.map_some, Option.bind_some, List.set_cons_succ, List.set_cons_zero, List.getElem?_cons_succ, List.getElem?_cons_zero, Bool.not_true, Bool.not_false, Bool.false_eq_true, ↓reduceIte, List.length_cons, List.length_nil, List.map_cons, List.map_nil, Nat.reduceAdd, Nat.reduceLeDiff, Nat.reduceLT, Bool.true_and, Bool.and_true, Bool.false_and, Bool.and_false, List.length_map, Nat.zero_le, need_plan_d d hs hp])]
  rfl
theorem run_plan {b : Belt} (h : b.Ok) (d x : D) (hs : shortP d) (hp : cPlanD b d = false) : m_run [eB b, d, x] = .err "BadPlan" := by
  rw [q_run]
  unfold b_run
  rw [sSeq_n (h := by simp only [bnd_ok, bnd_err, then_ok, then_err, fVar0, fVarS, fC_e, fOp_e, fUn_e, asB_e, asI_e, fT_e, fAnd_e, fOr_e, fNot_e, fAndV_e, fOrV_e, fNotV_e, fIf_e, fChain_e, aNil_e, aCons_e, fTup_e, fLst_e, fCall_e, dTup_e, dLst_e, gAdd_i, gSub_i, gNeg_i, gEq_i, gNe_i, gLt_i, gLe_i, gGt_i, gGe_i, gIsN_e, gNotN_e, isN_n, isN_i, isN_t, isN_l, isN_b, gIsi_e, tyD_n, tyD_i, tyD_t, tyD_l, tyD_b, tyD_s, isaT_ii, isaT_bi, isaT_ib, isaT_bb, isaT_tt, isaT_ll, isaT_tb, isaT_ti, isaT_it, isaT_bt, isaT_lt, isaT_nt, isaT_st, gLen_l, gLen_t, gOne_l, gTuple_l, gTuple_t, gInt_b, gMin2_e, gMax2_e, fIt_e, items_l, items_t, fItA_e, gEnum_e, gZip_t, gNm0, gNmS, gNil_e, gCons_e, gTp_e, wipe0, wipeS, tYesD_e, sNil_e, sExpr_e, sRet_e, sRaise_e, sIf_e, sAsg_e, asF_e, sFor_e, endF_r, endF_n, endF_x, asO_s, fRg1_e, sFrz_e, gIx_t0, gIx_t1, gIx_t2, gIx_l0, gIx_l1, gIx_l2, Option.map_some, Option.bind_some, List.set_cons_succ, List.set_cons_zero, List.getElem?_cons_succ, List.getElem?_cons_zero, Bool.not_true, Bool.not_false, Bool.false_eq_true, ↓reduceIte, List.length_cons, List.length_nil, List.map_cons, List.map_nil, Nat.reduceAdd, Nat.reduceLeDiff, Nat.reduceLT, Bool.true_and, Bool.and_true, Bool.false_and, Bool.and_false, List.length_map, Nat.zero_le, need_belt_t h]; rfl)]
  rw [sSeq_x (d := "BadPlan") (h := by simp only [bnd_ok, bnd_err, then_ok, then_err, fVar0, fVarS, fC_e, fOp_e, fUn_e, asB_e, asI_e, fT_e, fAnd_e, fOr_e, fNot_e, fAndV_e, fOrV_e, fNotV_e, fIf_e, fChain_e, aNil_e, aCons_e, fTup_e, fLst_e, fCall_e, dTup_e, dLst_e, gAdd_i, gSub_i, gNeg_i, gEq_i, gNe_i, gLt_i, gLe_i, gGt_i, gGe_i, gIsN_e, gNotN_e, isN_n, isN_i, isN_t, isN_l, isN_b, gIsi_e, tyD_n, tyD_i, tyD_t, tyD_l, tyD_b, tyD_s, isaT_ii, isaT_bi, isaT_ib, isaT_bb, isaT_tt, isaT_ll, isaT_tb, isaT_ti, isaT_it, isaT_bt, isaT_lt, isaT_nt, isaT_st, gLen_l, gLen_t, gOne_l, gTuple_l, gTuple_t, gInt_b, gMin2_e, gMax2_e, fIt_e, items_l, items_t, fItA_e, gEnum_e, gZip_t, gNm0, gNmS, gNil_e, gCons_e, gTp_e, wipe0, wipeS, tYesD_e, sNil_e, sExpr_e, sRet_e, sRaise_e, sIf_e, sAsg_e, asF_e, sFor_e, endF_r, endF_n, endF_x, asO_s, fRg1_e, sFrz_e, gIx_t0, gIx_t1, gIx_t2, gIx_l0, gIx_l1, gIx_l2, Option.map_some, Option.bind_some, List.set_cons_succ, List.set_cons_zero, List.getElem?_cons_succ, List.getElem?_cons_zero, Bool.not_true, Bool.not_false, Bool.false_eq_true, ↓reduceIte, List.length_cons, List.length_nil, List.map_cons, List.map_nil, Nat.reduceAdd, Nat.reduceLeDiff, Nat.reduceLT, Bool.true_and, Bool.and_true, Bool.false_and, Bool.and_false, List.length_map, Nat.zero_le, need_plan_d d hs hp])]
  rfl
theorem cost_plan {b : Belt} (h : b.Ok) (d : D) (hs : shortP d) (hp : cPlanD b d = false) : m_cost [eB b, d] = .err "BadPlan" := by
  rw [q_cost]
  unfold b_cost
  rw [sSeq_n (h := by simp only [bnd_ok, bnd_err, then_ok, then_err, fVar0, fVarS, fC_e, fOp_e, fUn_e, asB_e, asI_e, fT_e, fAnd_e, fOr_e, fNot_e, fAndV_e, fOrV_e, fNotV_e, fIf_e, fChain_e, aNil_e, aCons_e, fTup_e, fLst_e, fCall_e, dTup_e, dLst_e, gAdd_i, gSub_i, gNeg_i, gEq_i, gNe_i, gLt_i, gLe_i, gGt_i, gGe_i, gIsN_e, gNotN_e, isN_n, isN_i, isN_t, isN_l, isN_b, gIsi_e, tyD_n, tyD_i, tyD_t, tyD_l, tyD_b, tyD_s, isaT_ii, isaT_bi, isaT_ib, isaT_bb, isaT_tt, isaT_ll, isaT_tb, isaT_ti, isaT_it, isaT_bt, isaT_lt, isaT_nt, isaT_st, gLen_l, gLen_t, gOne_l, gTuple_l, gTuple_t, gInt_b, gMin2_e, gMax2_e, fIt_e, items_l, items_t, fItA_e, gEnum_e, gZip_t, gNm0, gNmS, gNil_e, gCons_e, gTp_e, wipe0, wipeS, tYesD_e, sNil_e, sExpr_e, sRet_e, sRaise_e, sIf_e, sAsg_e, asF_e, sFor_e, endF_r, endF_n, endF_x, asO_s, fRg1_e, sFrz_e, gIx_t0, gIx_t1, gIx_t2, gIx_l0, gIx_l1, gIx_l2, Option.map_some, Option.bind_some, List.set_cons_succ, List.set_cons_zero, List.getElem?_cons_succ, List.getElem?_cons_zero, Bool.not_true, Bool.not_false, Bool.false_eq_true, ↓reduceIte, List.length_cons, List.length_nil, List.map_cons, List.map_nil, Nat.reduceAdd, Nat.reduceLeDiff, Nat.reduceLT, Bool.true_and, Bool.and_true, Bool.false_and, Bool.and_false, List.length_map, Nat.zero_le, need_belt_t h]; rfl)]
  rw [sSeq_x (d := "BadPlan") (h := by simp only [bnd_ok, bnd_err, then_ok, then_err, fVar0, fVarS, fC_e, fOp_e, fUn_e, asB_e, asI_e, fT_e, fAnd_e, fOr_e, fNot_e, fAndV_e, fOrV_e, fNotV_e, fIf_e, fChain_e, aNil_e, aCons_e, fTup_e, fLst_e, fCall_e, dTup_e, dLst_e, gAdd_i, gSub_i, gNeg_i, gEq_i, gNe_i, gLt_i, gLe_i, gGt_i, gGe_i, gIsN_e, gNotN_e, isN_n, isN_i, isN_t, isN_l, isN_b, gIsi_e, tyD_n, tyD_i, tyD_t, tyD_l, tyD_b, tyD_s, isaT_ii, isaT_bi, isaT_ib, isaT_bb, isaT_tt, isaT_ll, isaT_tb, isaT_ti, isaT_it, isaT_bt, isaT_lt, isaT_nt, isaT_st, gLen_l, gLen_t, gOne_l, gTuple_l, gTuple_t, gInt_b, gMin2_e, gMax2_e, fIt_e, items_l, items_t, fItA_e, gEnum_e, gZip_t, gNm0, gNmS, gNil_e, gCons_e, gTp_e, wipe0, wipeS, tYesD_e, sNil_e, sExpr_e, sRet_e, sRaise_e, sIf_e, sAsg_e, asF_e, sFor_e, endF_r, endF_n, endF_x, asO_s, fRg1_e, sFrz_e, gIx_t0, gIx_t1, gIx_t2, gIx_l0, gIx_l1, gIx_l2, Option.map_some, Option.bind_some, List.set_cons_succ, List.set_cons_zero, List.getElem?_cons_succ, List.getElem?_cons_zero, Bool.not_true, Bool.not_false, Bool.false_eq_true, ↓reduceIte, List.length_cons, List.length_nil, List.map_cons, List.map_nil, Nat.reduceAdd, Nat.reduceLeDiff, Nat.reduceLT, Bool.true_and, Bool.and_true, Bool.false_and, Bool.and_false, List.length_map, Nat.zero_le, need_plan_d d hs hp])]
  rfl
theorem out_bottle {b : Belt} {ss ks : List Nat} (h : b.Ok) (p : PlanOk b ss ks) (x y : D) (hn : m_need_bottle [eB b, eP ss ks, x, y] = .err "BadBottle") : m_out [eB b, eP ss ks, x, y] = .err "BadBottle" := by
  rw [q_out]
  unfold b_out
  rw [sSeq_n (h := by simp only [bnd_ok, bnd_err, then_ok, then_err, fVar0, fVarS, fC_e, fOp_e, fUn_e, asB_e, asI_e, fT_e, fAnd_e, fOr_e, fNot_e, fAndV_e, fOrV_e, fNotV_e, fIf_e, fChain_e, aNil_e, aCons_e, fTup_e, fLst_e, fCall_e, dTup_e, dLst_e, gAdd_i, gSub_i, gNeg_i, gEq_i, gNe_i, gLt_i, gLe_i, gGt_i, gGe_i, gIsN_e, gNotN_e, isN_n, isN_i, isN_t, isN_l, isN_b, gIsi_e, tyD_n, tyD_i, tyD_t, tyD_l, tyD_b, tyD_s, isaT_ii, isaT_bi, isaT_ib, isaT_bb, isaT_tt, isaT_ll, isaT_tb, isaT_ti, isaT_it, isaT_bt, isaT_lt, isaT_nt, isaT_st, gLen_l, gLen_t, gOne_l, gTuple_l, gTuple_t, gInt_b, gMin2_e, gMax2_e, fIt_e, items_l, items_t, fItA_e, gEnum_e, gZip_t, gNm0, gNmS, gNil_e, gCons_e, gTp_e, wipe0, wipeS, tYesD_e, sNil_e, sExpr_e, sRet_e, sRaise_e, sIf_e, sAsg_e, asF_e, sFor_e, endF_r, endF_n, endF_x, asO_s, fRg1_e, sFrz_e, gIx_t0, gIx_t1, gIx_t2, gIx_l0, gIx_l1, gIx_l2, Option.map_some, Option.bind_some, List.set_cons_succ, List.set_cons_zero, List.getElem?_cons_succ, List.getElem?_cons_zero, Bool.not_true, Bool.not_false, Bool.false_eq_true, ↓reduceIte, List.length_cons, List.length_nil, List.map_cons, List.map_nil, Nat.reduceAdd, Nat.reduceLeDiff, Nat.reduceLT, Bool.true_and, Bool.and_true, Bool.false_and, Bool.and_false, List.length_map, Nat.zero_le, need_belt_t h]; rfl)]
  rw [sSeq_n (h := by simp only [bnd_ok, bnd_err, then_ok, then_err, fVar0, fVarS, fC_e, fOp_e, fUn_e, asB_e, asI_e, fT_e, fAnd_e, fOr_e, fNot_e, fAndV_e, fOrV_e, fNotV_e, fIf_e, fChain_e, aNil_e, aCons_e, fTup_e, fLst_e, fCall_e, dTup_e, dLst_e, gAdd_i, gSub_i, gNeg_i, gEq_i, gNe_i, gLt_i, gLe_i, gGt_i, gGe_i, gIsN_e, gNotN_e, isN_n, isN_i, isN_t, isN_l, isN_b, gIsi_e, tyD_n, tyD_i, tyD_t, tyD_l, tyD_b, tyD_s, isaT_ii, isaT_bi, isaT_ib, isaT_bb, isaT_tt, isaT_ll, isaT_tb, isaT_ti, isaT_it, isaT_bt, isaT_lt, isaT_nt, isaT_st, gLen_l, gLen_t, gOne_l, gTuple_l, gTuple_t, gInt_b, gMin2_e, gMax2_e, fIt_e, items_l, items_t, fItA_e, gEnum_e, gZip_t, gNm0, gNmS, gNil_e, gCons_e, gTp_e, wipe0, wipeS, tYesD_e, sNil_e, sExpr_e, sRet_e, sRaise_e, sIf_e, sAsg_e, asF_e, sFor_e, endF_r, endF_n, endF_x, asO_s, fRg1_e, sFrz_e, gIx_t0, gIx_t1, gIx_t2, gIx_l0, gIx_l1, gIx_l2, Option.map_some, Option.bind_some, List.set_cons_succ, List.set_cons_zero, List.getElem?_cons_succ, List.getElem?_cons_zero, Bool.not_true, Bool.not_false, Bool.false_eq_true, ↓reduceIte, List.length_cons, List.length_nil, List.map_cons, List.map_nil, Nat.reduceAdd, Nat.reduceLeDiff, Nat.reduceLT, Bool.true_and, Bool.and_true, Bool.false_and, Bool.and_false, List.length_map, Nat.zero_le, need_plan_t h p]; rfl)]
  rw [sSeq_x (d := "BadBottle") (h := by simp only [bnd_ok, bnd_err, then_ok, then_err, fVar0, fVarS, fC_e, fOp_e, fUn_e, asB_e, asI_e, fT_e, fAnd_e, fOr_e, fNot_e, fAndV_e, fOrV_e, fNotV_e, fIf_e, fChain_e, aNil_e, aCons_e, fTup_e, fLst_e, fCall_e, dTup_e, dLst_e, gAdd_i, gSub_i, gNeg_i, gEq_i, gNe_i, gLt_i, gLe_i, gGt_i, gGe_i, gIsN_e, gNotN_e, isN_n, isN_i, isN_t, isN_l, isN_b, gIsi_e, tyD_n, tyD_i, tyD_t, tyD_l, tyD_b, tyD_s, isaT_ii, isaT_bi, isaT_ib, isaT_bb, isaT_tt, isaT_ll, isaT_tb, isaT_ti, isaT_it, isaT_bt, isaT_lt, isaT_nt, isaT_st, gLen_l, gLen_t, gOne_l, gTuple_l, gTuple_t, gInt_b, gMin2_e, gMax2_e, fIt_e, items_l, items_t, fItA_e, gEnum_e, gZip_t, gNm0, gNmS, gNil_e, gCons_e, gTp_e, wipe0, wipeS, tYesD_e, sNil_e, sExpr_e, sRet_e, sRaise_e, sIf_e, sAsg_e, asF_e, sFor_e, endF_r, endF_n, endF_x, asO_s, fRg1_e, sFrz_e, gIx_t0, gIx_t1, gIx_t2, gIx_l0, gIx_l1, gIx_l2, Option.map_some, Option.bind_some, List.set_cons_succ, List.set_cons_zero, List.getElem?_cons_succ, List.getElem?_cons_zero, Bool.not_true, Bool.not_false, Bool.false_eq_true, ↓reduceIte, List.length_cons, List.length_nil, List.map_cons, List.map_nil, Nat.reduceAdd, Nat.reduceLeDiff, Nat.reduceLT, Bool.true_and, Bool.and_true, Bool.false_and, Bool.and_false, List.length_map, Nat.zero_le, hn])]
  rfl
theorem run_bottle {b : Belt} {ss ks : List Nat} (h : b.Ok) (p : PlanOk b ss ks) (x : D) (hd : shortT x) (hx : cRisD x b.F.length = false) : m_run [eB b, eP ss ks, .list [.tuple [.tuple [], .tuple []], .tuple [x, .tuple []]]] = .err "BadBottle" := by
  rw [q_run]
  unfold b_run
  rw [sSeq_n (h := by simp only [bnd_ok, bnd_err, then_ok, then_err, fVar0, fVarS, fC_e, fOp_e, fUn_e, asB_e, asI_e, fT_e, fAnd_e, fOr_e, fNot_e, fAndV_e, fOrV_e, fNotV_e, fIf_e, fChain_e, aNil_e, aCons_e, fTup_e, fLst_e, fCall_e, dTup_e, dLst_e, gAdd_i, gSub_i, gNeg_i, gEq_i, gNe_i, gLt_i, gLe_i, gGt_i, gGe_i, gIsN_e, gNotN_e, isN_n, isN_i, isN_t, isN_l, isN_b, gIsi_e, tyD_n, tyD_i, tyD_t, tyD_l, tyD_b, tyD_s, isaT_ii, isaT_bi, isaT_ib, isaT_bb, isaT_tt, isaT_ll, isaT_tb, isaT_ti, isaT_it, isaT_bt, isaT_lt, isaT_nt, isaT_st, gLen_l, gLen_t, gOne_l, gTuple_l, gTuple_t, gInt_b, gMin2_e, gMax2_e, fIt_e, items_l, items_t, fItA_e, gEnum_e, gZip_t, gNm0, gNmS, gNil_e, gCons_e, gTp_e, wipe0, wipeS, tYesD_e, sNil_e, sExpr_e, sRet_e, sRaise_e, sIf_e, sAsg_e, asF_e, sFor_e, endF_r, endF_n, endF_x, asO_s, fRg1_e, sFrz_e, gIx_t0, gIx_t1, gIx_t2, gIx_l0, gIx_l1, gIx_l2, Option.map_some, Option.bind_some, List.set_cons_succ, List.set_cons_zero, List.getElem?_cons_succ, List.getElem?_cons_zero, Bool.not_true, Bool.not_false, Bool.false_eq_true, ↓reduceIte, List.length_cons, List.length_nil, List.map_cons, List.map_nil, Nat.reduceAdd, Nat.reduceLeDiff, Nat.reduceLT, Bool.true_and, Bool.and_true, Bool.false_and, Bool.and_false, List.length_map, Nat.zero_le, need_belt_t h]; rfl)]
  rw [sSeq_n (h := by simp only [bnd_ok, bnd_err, then_ok, then_err, fVar0, fVarS, fC_e, fOp_e, fUn_e, asB_e, asI_e, fT_e, fAnd_e, fOr_e, fNot_e, fAndV_e, fOrV_e, fNotV_e, fIf_e, fChain_e, aNil_e, aCons_e, fTup_e, fLst_e, fCall_e, dTup_e, dLst_e, gAdd_i, gSub_i, gNeg_i, gEq_i, gNe_i, gLt_i, gLe_i, gGt_i, gGe_i, gIsN_e, gNotN_e, isN_n, isN_i, isN_t, isN_l, isN_b, gIsi_e, tyD_n, tyD_i, tyD_t, tyD_l, tyD_b, tyD_s, isaT_ii, isaT_bi, isaT_ib, isaT_bb, isaT_tt, isaT_ll, isaT_tb, isaT_ti, isaT_it, isaT_bt, isaT_lt, isaT_nt, isaT_st, gLen_l, gLen_t, gOne_l, gTuple_l, gTuple_t, gInt_b, gMin2_e, gMax2_e, fIt_e, items_l, items_t, fItA_e, gEnum_e, gZip_t, gNm0, gNmS, gNil_e, gCons_e, gTp_e, wipe0, wipeS, tYesD_e, sNil_e, sExpr_e, sRet_e, sRaise_e, sIf_e, sAsg_e, asF_e, sFor_e, endF_r, endF_n, endF_x, asO_s, fRg1_e, sFrz_e, gIx_t0, gIx_t1, gIx_t2, gIx_l0, gIx_l1, gIx_l2, Option.map_some, Option.bind_some, List.set_cons_succ, List.set_cons_zero, List.getElem?_cons_succ, List.getElem?_cons_zero, Bool.not_true, Bool.not_false, Bool.false_eq_true, ↓reduceIte, List.length_cons, List.length_nil, List.map_cons, List.map_nil, Nat.reduceAdd, Nat.reduceLeDiff, Nat.reduceLT, Bool.true_and, Bool.and_true, Bool.false_and, Bool.and_false, List.length_map, Nat.zero_le, need_plan_t h p]; rfl)]
  rw [sSeq_n (h := by
    simp only [bnd_ok, bnd_err, then_ok, then_err, fVar0, fVarS, fC_e, fOp_e, fUn_e, asB_e, asI_e, fT_e, fAnd_e, fOr_e, fNot_e, fAndV_e, fOrV_e, fNotV_e, fIf_e, fChain_e, aNil_e, aCons_e, fTup_e, fLst_e, fCall_e, dTup_e, dLst_e, gAdd_i, gSub_i, gNeg_i, gEq_i, gNe_i, gLt_i, gLe_i, gGt_i, gGe_i, gIsN_e, gNotN_e, isN_n, isN_i, isN_t, isN_l, isN_b, gIsi_e, tyD_n, tyD_i, tyD_t, tyD_l, tyD_b, tyD_s, isaT_ii, isaT_bi, isaT_ib, isaT_bb, isaT_tt, isaT_ll, isaT_tb, isaT_ti, isaT_it, isaT_bt, isaT_lt, isaT_nt, isaT_st, gLen_l, gLen_t, gOne_l, gTuple_l, gTuple_t, gInt_b, gMin2_e, gMax2_e, fIt_e, items_l, items_t, fItA_e, gEnum_e, gZip_t, gNm0, gNmS, gNil_e, gCons_e, gTp_e, wipe0, wipeS, tYesD_e, sNil_e, sExpr_e, sRet_e, sRaise_e, sIf_e, sAsg_e, asF_e, sFor_e, endF_r, endF_n, endF_x, asO_s, fRg1_e, sFrz_e, gIx_t0, gIx_t1, gIx_t2, gIx_l0, gIx_l1, gIx_l2, Option.map_some, Option.bind_some, List.set_cons_succ, List.set_cons_zero, List.getElem?_cons_succ, List.getElem?_cons_zero, Bool.not_true, Bool.not_false, Bool.false_eq_true, ↓reduceIte, List.length_cons, List.length_nil, List.map_cons, List.map_nil, Nat.reduceAdd, Nat.reduceLeDiff, Nat.reduceLT, Bool.true_and, Bool.and_true, Bool.false_and, Bool.and_false, List.length_map, Nat.zero_le]
    rw [fLc_map id (fun x => .bool true) [PyData.tuple [.tuple [], .tuple []], PyData.tuple [x, .tuple []]] (by simp only [bnd_ok, bnd_err, then_ok, then_err, fVar0, fVarS, fC_e, fOp_e, fUn_e, asB_e, asI_e, fT_e, fAnd_e, fOr_e, fNot_e, fAndV_e, fOrV_e, fNotV_e, fIf_e, fChain_e, aNil_e, aCons_e, fTup_e, fLst_e, fCall_e, dTup_e, dLst_e, gAdd_i, gSub_i, gNeg_i, gEq_i, gNe_i, gLt_i, gLe_i, gGt_i, gGe_i, gIsN_e, gNotN_e, isN_n, isN_i, isN_t, isN_l, isN_b, gIsi_e, tyD_n, tyD_i, tyD_t, tyD_l, tyD_b, tyD_s, isaT_ii, isaT_bi, isaT_ib, isaT_bb, isaT_tt, isaT_ll, isaT_tb, isaT_ti, isaT_it, isaT_bt, isaT_lt, isaT_nt, isaT_st, gLen_l, gLen_t, gOne_l, gTuple_l, gTuple_t, gInt_b, gMin2_e, gMax2_e, fIt_e, items_l, items_t, fItA_e, gEnum_e, gZip_t, gNm0, gNmS, gNil_e, gCons_e, gTp_e, wipe0, wipeS, tYesD_e, sNil_e, sExpr_e, sRet_e, sRaise_e, sIf_e, sAsg_e, asF_e, sFor_e, endF_r, endF_n, endF_x, asO_s, fRg1_e, sFrz_e, gIx_t0, gIx_t1, gIx_t2, gIx_l0, gIx_l1, gIx_l2, Option.map_some, Option.bind_some, List.set_cons_succ, List.set_cons_zero, List.getElem?_cons_succ, List.getElem?_cons_zero, Bool.not_true, Bool.not_false, Bool.false_eq_true, ↓reduceIte, List.length_cons, List.length_nil, List.map_cons, List.map_nil, Nat.reduceAdd, Nat.reduceLeDiff, Nat.reduceLT, Bool.true_and, Bool.and_true, Bool.false_and, Bool.and_false, List.length_map, Nat.zero_le, List.map_id, id_eq]) (by simp) fun x hx => ?_]
    · simp only [bnd_ok, bnd_err, then_ok, then_err, fVar0, fVarS, fC_e, fOp_e, fUn_e, asB_e, asI_e, fT_e, fAnd_e, fOr_e, fNot_e, fAndV_e, fOrV_e, fNotV_e, fIf_e, fChain_e, aNil_e, aCons_e, fTup_e, fLst_e, fCall_e, dTup_e, dLst_e, gAdd_i, gSub_i, gNeg_i, gEq_i, gNe_i, gLt_i, gLe_i, gGt_i, gGe_i, gIsN_e, gNotN_e, isN_n, isN_i, isN_t, isN_l, isN_b, gIsi_e, tyD_n, tyD_i, tyD_t, tyD_l, tyD_b, tyD_s, isaT_ii, isaT_bi, isaT_ib, isaT_bb, isaT_tt, isaT_ll, isaT_tb, isaT_ti, isaT_it, isaT_bt, isaT_lt, isaT_nt, isaT_st, gLen_l, gLen_t, gOne_l, gTuple_l, gTuple_t, gInt_b, gMin2_e, gMax2_e, fIt_e, items_l, items_t, fItA_e, gEnum_e, gZip_t, gNm0, gNmS, gNil_e, gCons_e, gTp_e, wipe0, wipeS, tYesD_e, sNil_e, sExpr_e, sRet_e, sRaise_e, sIf_e, sAsg_e, asF_e, sFor_e, endF_r, endF_n, endF_x, asO_s, fRg1_e, sFrz_e, gIx_t0, gIx_t1, gIx_t2, gIx_l0, gIx_l1, gIx_l2, Option.map_some, Option.bind_some, List.set_cons_succ, List.set_cons_zero, List.getElem?_cons_succ, List.getElem?_cons_zero, Bool.not_true, Bool.not_false, Bool.false_eq_true, ↓reduceIte, List.length_cons, List.length_nil, List.map_cons, List.map_nil, Nat.reduceAdd, Nat.reduceLeDiff, Nat.reduceLT, Bool.true_and, Bool.and_true, Bool.false_and, Bool.and_false, List.length_map, Nat.zero_le, dAll, asBls]
      rfl
    · simp only [List.mem_cons, List.mem_nil_iff, or_false] at hx
      rcases hx with rfl | rfl <;> simp only [lcOne, bnd_ok, bnd_err, then_ok, then_err, fVar0, fVarS, fC_e, fOp_e, fUn_e, asB_e, asI_e, fT_e, fAnd_e, fOr_e, fNot_e, fAndV_e, fOrV_e, fNotV_e, fIf_e, fChain_e, aNil_e, aCons_e, fTup_e, fLst_e, fCall_e, dTup_e, dLst_e, gAdd_i, gSub_i, gNeg_i, gEq_i, gNe_i, gLt_i, gLe_i, gGt_i, gGe_i, gIsN_e, gNotN_e, isN_n, isN_i, isN_t, isN_l, isN_b, gIsi_e, tyD_n, tyD_i, tyD_t, tyD_l, tyD_b, tyD_s, isaT_ii, isaT_bi, isaT_ib, isaT_bb, isaT_tt, isaT_ll, isaT_tb, isaT_ti, isaT_it, isaT_bt, isaT_lt, isaT_nt, isaT_st, gLen_l, gLen_t, gOne_l, gTuple_l, gTuple_t, gInt_b, gMin2_e, gMax2_e, fIt_e, items_l, items_t, fItA_e, gEnum_e, gZip_t, gNm0, gNmS, gNil_e, gCons_e, gTp_e, wipe0, wipeS, tYesD_e, sNil_e, sExpr_e, sRet_e, sRaise_e, sIf_e, sAsg_e, asF_e, sFor_e, endF_r, endF_n, endF_x, asO_s, fRg1_e, sFrz_e, gIx_t0, gIx_t1, gIx_t2, gIx_l0, gIx_l1, gIx_l2, Option.map_some, Option.bind_some, List.set_cons_succ, List.set_cons_zero, List.getElem?_cons_succ, List.getElem?_cons_zero, Bool.not_true, Bool.not_false, Bool.false_eq_true, ↓reduceIte, List.length_cons, List.length_nil, List.map_cons, List.map_nil, Nat.reduceAdd, Nat.reduceLeDiff, Nat.reduceLT, Bool.true_and, Bool.and_true, Bool.false_and, Bool.and_false, List.length_map, Nat.zero_le, id_eq] <;> rfl)]
  have h1 : m_need_bottle [eB b, eP ss ks, .tuple [], .tuple []] = .ok .none := need_bottle_t (r := ([], [])) h ⟨⟨by simp, .nil⟩, ⟨by simp, .nil⟩, by simp⟩
  have h2 := need_bottle_b (ss := ss) (ks := ks) x (.tuple []) hd hx
  rw [sSeq_x (d := "BadBottle") (h := by
    simp only [bnd_ok, bnd_err, then_ok, then_err, fVar0, fVarS, fC_e, fOp_e, fUn_e, asB_e, asI_e, fT_e, fAnd_e, fOr_e, fNot_e, fAndV_e, fOrV_e, fNotV_e, fIf_e, fChain_e, aNil_e, aCons_e, fTup_e, fLst_e, fCall_e, dTup_e, dLst_e, gAdd_i, gSub_i, gNeg_i, gEq_i, gNe_i, gLt_i, gLe_i, gGt_i, gGe_i, gIsN_e, gNotN_e, isN_n, isN_i, isN_t, isN_l, isN_b, gIsi_e, tyD_n, tyD_i, tyD_t, tyD_l, tyD_b, tyD_s, isaT_ii, isaT_bi, isaT_ib, isaT_bb, isaT_tt, isaT_ll, isaT_tb, isaT_ti, isaT_it, isaT_bt, isaT_lt, isaT_nt, isaT_st, gLen_l, gLen_t, gOne_l, gTuple_l, gTuple_t, gInt_b, gMin2_e, gMax2_e, fIt_e, items_l, items_t, fItA_e, gEnum_e, gZip_t, gNm0, gNmS, gNil_e, gCons_e, gTp_e, wipe0, wipeS, tYesD_e, sNil_e, sExpr_e, sRet_e, sRaise_e, sIf_e, sAsg_e, asF_e, sFor_e, endF_r, endF_n, endF_x, asO_s, fRg1_e, sFrz_e, gIx_t0, gIx_t1, gIx_t2, gIx_l0, gIx_l1, gIx_l2, Option.map_some, Option.bind_some, List.set_cons_succ, List.set_cons_zero, List.getElem?_cons_succ, List.getElem?_cons_zero, Bool.not_true, Bool.not_false, Bool.false_eq_true, ↓reduceIte, List.length_cons, List.length_nil, List.map_cons, List.map_nil, Nat.reduceAdd, Nat.reduceLeDiff, Nat.reduceLT, Bool.true_and, Bool.and_true, Bool.false_and, Bool.and_false, List.length_map, Nat.zero_le]
    rw [forLoop_cons (h := forOne_n (by simp only [bnd_ok, bnd_err, then_ok, then_err, fVar0, fVarS, fC_e, fOp_e, fUn_e, asB_e, asI_e, fT_e, fAnd_e, fOr_e, fNot_e, fAndV_e, fOrV_e, fNotV_e, fIf_e, fChain_e, aNil_e, aCons_e, fTup_e, fLst_e, fCall_e, dTup_e, dLst_e, gAdd_i, gSub_i, gNeg_i, gEq_i, gNe_i, gLt_i, gLe_i, gGt_i, gGe_i, gIsN_e, gNotN_e, isN_n, isN_i, isN_t, isN_l, isN_b, gIsi_e, tyD_n, tyD_i, tyD_t, tyD_l, tyD_b, tyD_s, isaT_ii, isaT_bi, isaT_ib, isaT_bb, isaT_tt, isaT_ll, isaT_tb, isaT_ti, isaT_it, isaT_bt, isaT_lt, isaT_nt, isaT_st, gLen_l, gLen_t, gOne_l, gTuple_l, gTuple_t, gInt_b, gMin2_e, gMax2_e, fIt_e, items_l, items_t, fItA_e, gEnum_e, gZip_t, gNm0, gNmS, gNil_e, gCons_e, gTp_e, wipe0, wipeS, tYesD_e, sNil_e, sExpr_e, sRet_e, sRaise_e, sIf_e, sAsg_e, asF_e, sFor_e, endF_r, endF_n, endF_x, asO_s, fRg1_e, sFrz_e, gIx_t0, gIx_t1, gIx_t2, gIx_l0, gIx_l1, gIx_l2, Option.map_some, Option.bind_some, List.set_cons_succ, List.set_cons_zero, List.getElem?_cons_succ, List.getElem?_cons_zero, Bool.not_true, Bool.not_false, Bool.false_eq_true, ↓reduceIte, List.length_cons, List.length_nil, List.map_cons, List.map_nil, Nat.reduceAdd, Nat.reduceLeDiff, Nat.reduceLT, Bool.true_and, Bool.and_true, Bool.false_and, Bool.and_false, List.length_map, Nat.zero_le]; rfl) (by simp only [bnd_ok, bnd_err, then_ok, then_err, fVar0, fVarS, fC_e, fOp_e, fUn_e, asB_e, asI_e, fT_e, fAnd_e, fOr_e, fNot_e, fAndV_e, fOrV_e, fNotV_e, fIf_e, fChain_e, aNil_e, aCons_e, fTup_e, fLst_e, fCall_e, dTup_e, dLst_e, gAdd_i, gSub_i, gNeg_i, gEq_i, gNe_i, gLt_i, gLe_i, gGt_i, gGe_i, gIsN_e, gNotN_e, isN_n, isN_i, isN_t, isN_l, isN_b, gIsi_e, tyD_n, tyD_i, tyD_t, tyD_l, tyD_b, tyD_s, isaT_ii, isaT_bi, isaT_ib, isaT_bb, isaT_tt, isaT_ll, isaT_tb, isaT_ti, isaT_it, isaT_bt, isaT_lt, isaT_nt, isaT_st, gLen_l, gLen_t, gOne_l, gTuple_l, gTuple_t, gInt_b, gMin2_e, gMax2_e, fIt_e, items_l, items_t, fItA_e, gEnum_e, gZip_t, gNm0, gNmS, gNil_e, gCons_e, gTp_e, wipe0, wipeS, tYesD_e, sNil_e, sExpr_e, sRet_e, sRaise_e, sIf_e, sAsg_e, asF_e, sFor_e, endF_r, endF_n, endF_x, asO_s, fRg1_e, sFrz_e, gIx_t0, gIx_t1, gIx_t2, gIx_l0, gIx_l1, gIx_l2, Option.map_some, Option.bind_some, List.set_cons_succ, List.set_cons_zero, List.getElem?_cons_succ, List.getElem?_cons_zero, Bool.not_true, Bool.not_false, Bool.false_eq_true, ↓reduceIte, List.length_cons, List.length_nil, List.map_cons, List.map_nil, Nat.reduceAdd, Nat.reduceLeDiff, Nat.reduceLT, Bool.true_and, Bool.and_true, Bool.false_and, Bool.and_false, List.length_map, Nat.zero_le, h1]; rfl))]
    unfold forLoop
    simp only [bnd_ok, bnd_err, then_ok, then_err, fVar0, fVarS, fC_e, fOp_e, fUn_e, asB_e, asI_e, fT_e, fAnd_e, fOr_e, fNot_e, fAndV_e, fOrV_e, fNotV_e, fIf_e, fChain_e, aNil_e, aCons_e, fTup_e, fLst_e, fCall_e, dTup_e, dLst_e, gAdd_i, gSub_i, gNeg_i, gEq_i, gNe_i, gLt_i, gLe_i, gGt_i, gGe_i, gIsN_e, gNotN_e, isN_n, isN_i, isN_t, isN_l, isN_b, gIsi_e, tyD_n, tyD_i, tyD_t, tyD_l, tyD_b, tyD_s, isaT_ii, isaT_bi, isaT_ib, isaT_bb, isaT_tt, isaT_ll, isaT_tb, isaT_ti, isaT_it, isaT_bt, isaT_lt, isaT_nt, isaT_st, gLen_l, gLen_t, gOne_l, gTuple_l, gTuple_t, gInt_b, gMin2_e, gMax2_e, fIt_e, items_l, items_t, fItA_e, gEnum_e, gZip_t, gNm0, gNmS, gNil_e, gCons_e, gTp_e, wipe0, wipeS, tYesD_e, sNil_e, sExpr_e, sRet_e, sRaise_e, sIf_e, sAsg_e, asF_e, sFor_e, endF_r, endF_n, endF_x, asO_s, fRg1_e, sFrz_e, gIx_t0, gIx_t1, gIx_t2, gIx_l0, gIx_l1, gIx_l2, Option.map_some, Option.bind_some, List.set_cons_succ, List.set_cons_zero, List.getElem?_cons_succ, List.getElem?_cons_zero, Bool.not_true, Bool.not_false, Bool.false_eq_true, ↓reduceIte, List.length_cons, List.length_nil, List.map_cons, List.map_nil, Nat.reduceAdd, Nat.reduceLeDiff, Nat.reduceLT, Bool.true_and, Bool.and_true, Bool.false_and, Bool.and_false, List.length_map, Nat.zero_le, h2])]
  rfl
theorem run_rows {b : Belt} {ss ks : List Nat} (h : b.Ok) (p : PlanOk b ss ks) (x : D) (hx : x = .none ∨ x = .tuple [] ∨ x = .list [.tuple []] ∨ x = .list [.list [.tuple [], .tuple []]] ∨ x = .list [.tuple [.tuple []]]) : m_run [eB b, eP ss ks, x] = .err "BadBottle" := by
  rw [q_run]
  unfold b_run
  rw [sSeq_n (h := by simp only [bnd_ok, bnd_err, then_ok, then_err, fVar0, fVarS, fC_e, fOp_e, fUn_e, asB_e, asI_e, fT_e, fAnd_e, fOr_e, fNot_e, fAndV_e, fOrV_e, fNotV_e, fIf_e, fChain_e, aNil_e, aCons_e, fTup_e, fLst_e, fCall_e, dTup_e, dLst_e, gAdd_i, gSub_i, gNeg_i, gEq_i, gNe_i, gLt_i, gLe_i, gGt_i, gGe_i, gIsN_e, gNotN_e, isN_n, isN_i, isN_t, isN_l, isN_b, gIsi_e, tyD_n, tyD_i, tyD_t, tyD_l, tyD_b, tyD_s, isaT_ii, isaT_bi, isaT_ib, isaT_bb, isaT_tt, isaT_ll, isaT_tb, isaT_ti, isaT_it, isaT_bt, isaT_lt, isaT_nt, isaT_st, gLen_l, gLen_t, gOne_l, gTuple_l, gTuple_t, gInt_b, gMin2_e, gMax2_e, fIt_e, items_l, items_t, fItA_e, gEnum_e, gZip_t, gNm0, gNmS, gNil_e, gCons_e, gTp_e, wipe0, wipeS, tYesD_e, sNil_e, sExpr_e, sRet_e, sRaise_e, sIf_e, sAsg_e, asF_e, sFor_e, endF_r, endF_n, endF_x, asO_s, fRg1_e, sFrz_e, gIx_t0, gIx_t1, gIx_t2, gIx_l0, gIx_l1, gIx_l2, Option.map_some, Option.bind_some, List.set_cons_succ, List.set_cons_zero, List.getElem?_cons_succ, List.getElem?_cons_zero, Bool.not_true, Bool.not_false, Bool.false_eq_true, ↓reduceIte, List.length_cons, List.length_nil, List.map_cons, List.map_nil, Nat.reduceAdd, Nat.reduceLeDiff, Nat.reduceLT, Bool.true_and, Bool.and_true, Bool.false_and, Bool.and_false, List.length_map, Nat.zero_le, need_belt_t h]; rfl)]
  rw [sSeq_n (h := by simp only [bnd_ok, bnd_err, then_ok, then_err, fVar0, fVarS, fC_e, fOp_e, fUn_e, asB_e, asI_e, fT_e, fAnd_e, fOr_e, fNot_e, fAndV_e, fOrV_e, fNotV_e, fIf_e, fChain_e, aNil_e, aCons_e, fTup_e, fLst_e, fCall_e, dTup_e, dLst_e, gAdd_i, gSub_i, gNeg_i, gEq_i, gNe_i, gLt_i, gLe_i, gGt_i, gGe_i, gIsN_e, gNotN_e, isN_n, isN_i, isN_t, isN_l, isN_b, gIsi_e, tyD_n, tyD_i, tyD_t, tyD_l, tyD_b, tyD_s, isaT_ii, isaT_bi, isaT_ib, isaT_bb, isaT_tt, isaT_ll, isaT_tb, isaT_ti, isaT_it, isaT_bt, isaT_lt, isaT_nt, isaT_st, gLen_l, gLen_t, gOne_l, gTuple_l, gTuple_t, gInt_b, gMin2_e, gMax2_e, fIt_e, items_l, items_t, fItA_e, gEnum_e, gZip_t, gNm0, gNmS, gNil_e, gCons_e, gTp_e, wipe0, wipeS, tYesD_e, sNil_e, sExpr_e, sRet_e, sRaise_e, sIf_e, sAsg_e, asF_e, sFor_e, endF_r, endF_n, endF_x, asO_s, fRg1_e, sFrz_e, gIx_t0, gIx_t1, gIx_t2, gIx_l0, gIx_l1, gIx_l2, Option.map_some, Option.bind_some, List.set_cons_succ, List.set_cons_zero, List.getElem?_cons_succ, List.getElem?_cons_zero, Bool.not_true, Bool.not_false, Bool.false_eq_true, ↓reduceIte, List.length_cons, List.length_nil, List.map_cons, List.map_nil, Nat.reduceAdd, Nat.reduceLeDiff, Nat.reduceLT, Bool.true_and, Bool.and_true, Bool.false_and, Bool.and_false, List.length_map, Nat.zero_le, need_plan_t h p]; rfl)]
  have i1 : isaT "NoneType" "list" = false := by decide
  have i2 : isaT "tuple" "list" = false := by decide
  rcases hx with rfl | rfl | rfl | rfl | rfl
  · rw [sSeq_x (d := "BadBottle") (h := by simp only [bnd_ok, bnd_err, then_ok, then_err, fVar0, fVarS, fC_e, fOp_e, fUn_e, asB_e, asI_e, fT_e, fAnd_e, fOr_e, fNot_e, fAndV_e, fOrV_e, fNotV_e, fIf_e, fChain_e, aNil_e, aCons_e, fTup_e, fLst_e, fCall_e, dTup_e, dLst_e, gAdd_i, gSub_i, gNeg_i, gEq_i, gNe_i, gLt_i, gLe_i, gGt_i, gGe_i, gIsN_e, gNotN_e, isN_n, isN_i, isN_t, isN_l, isN_b, gIsi_e, tyD_n, tyD_i, tyD_t, tyD_l, tyD_b, tyD_s, isaT_ii, isaT_bi, isaT_ib, isaT_bb, isaT_tt, isaT_ll, isaT_tb, isaT_ti, isaT_it, isaT_bt, isaT_lt, isaT_nt, isaT_st, gLen_l, gLen_t, gOne_l, gTuple_l, gTuple_t, gInt_b, gMin2_e, gMax2_e, fIt_e, items_l, items_t, fItA_e, gEnum_e, gZip_t, gNm0, gNmS, gNil_e, gCons_e, gTp_e, wipe0, wipeS, tYesD_e, sNil_e, sExpr_e, sRet_e, sRaise_e, sIf_e, sAsg_e, asF_e, sFor_e, endF_r, endF_n, endF_x, asO_s, fRg1_e, sFrz_e, gIx_t0, gIx_t1, gIx_t2, gIx_l0, gIx_l1, gIx_l2, Option.map_some, Option.bind_some, List.set_cons_succ, List.set_cons_zero, List.getElem?_cons_succ, List.getElem?_cons_zero, Bool.not_true, Bool.not_false, Bool.false_eq_true, ↓reduceIte, List.length_cons, List.length_nil, List.map_cons, List.map_nil, Nat.reduceAdd, Nat.reduceLeDiff, Nat.reduceLT, Bool.true_and, Bool.and_true, Bool.false_and, Bool.and_false, List.length_map, Nat.zero_le, i1])]; rfl
  · rw [sSeq_x (d := "BadBottle") (h := by simp only [bnd_ok, bnd_err, then_ok, then_err, fVar0, fVarS, fC_e, fOp_e, fUn_e, asB_e, asI_e, fT_e, fAnd_e, fOr_e, fNot_e, fAndV_e, fOrV_e, fNotV_e, fIf_e, fChain_e, aNil_e, aCons_e, fTup_e, fLst_e, fCall_e, dTup_e, dLst_e, gAdd_i, gSub_i, gNeg_i, gEq_i, gNe_i, gLt_i, gLe_i, gGt_i, gGe_i, gIsN_e, gNotN_e, isN_n, isN_i, isN_t, isN_l, isN_b, gIsi_e, tyD_n, tyD_i, tyD_t, tyD_l, tyD_b, tyD_s, isaT_ii, isaT_bi, isaT_ib, isaT_bb, isaT_tt, isaT_ll, isaT_tb, isaT_ti, isaT_it, isaT_bt, isaT_lt, isaT_nt, isaT_st, gLen_l, gLen_t, gOne_l, gTuple_l, gTuple_t, gInt_b, gMin2_e, gMax2_e, fIt_e, items_l, items_t, fItA_e, gEnum_e, gZip_t, gNm0, gNmS, gNil_e, gCons_e, gTp_e, wipe0, wipeS, tYesD_e, sNil_e, sExpr_e, sRet_e, sRaise_e, sIf_e, sAsg_e, asF_e, sFor_e, endF_r, endF_n, endF_x, asO_s, fRg1_e, sFrz_e, gIx_t0, gIx_t1, gIx_t2, gIx_l0, gIx_l1, gIx_l2, Option.map_some, Option.bind_some, List.set_cons_succ, List.set_cons_zero, List.getElem?_cons_succ, List.getElem?_cons_zero, Bool.not_true, Bool.not_false, Bool.false_eq_true, ↓reduceIte, List.length_cons, List.length_nil, List.map_cons, List.map_nil, Nat.reduceAdd, Nat.reduceLeDiff, Nat.reduceLT, Bool.true_and, Bool.and_true, Bool.false_and, Bool.and_false, List.length_map, Nat.zero_le, i2])]; rfl
  · rw [sSeq_x (d := "BadBottle") (h := by
      simp only [bnd_ok, bnd_err, then_ok, then_err, fVar0, fVarS, fC_e, fOp_e, fUn_e, asB_e, asI_e, fT_e, fAnd_e, fOr_e, fNot_e, fAndV_e, fOrV_e, fNotV_e, fIf_e, fChain_e, aNil_e, aCons_e, fTup_e, fLst_e, fCall_e, dTup_e, dLst_e, gAdd_i, gSub_i, gNeg_i, gEq_i, gNe_i, gLt_i, gLe_i, gGt_i, gGe_i, gIsN_e, gNotN_e, isN_n, isN_i, isN_t, isN_l, isN_b, gIsi_e, tyD_n, tyD_i, tyD_t, tyD_l, tyD_b, tyD_s, isaT_ii, isaT_bi, isaT_ib, isaT_bb, isaT_tt, isaT_ll, isaT_tb, isaT_ti, isaT_it, isaT_bt, isaT_lt, isaT_nt, isaT_st, gLen_l, gLen_t, gOne_l, gTuple_l, gTuple_t, gInt_b, gMin2_e, gMax2_e, fIt_e, items_l, items_t, fItA_e, gEnum_e, gZip_t, gNm0, gNmS, gNil_e, gCons_e, gTp_e, wipe0, wipeS, tYesD_e, sNil_e, sExpr_e, sRet_e, sRaise_e, sIf_e, sAsg_e, asF_e, sFor_e, endF_r, endF_n, endF_x, asO_s, fRg1_e, sFrz_e, gIx_t0, gIx_t1, gIx_t2, gIx_l0, gIx_l1, gIx_l2, Option.map_some, Option.bind_some, List.set_cons_succ, List.set_cons_zero, List.getElem?_cons_succ, List.getElem?_cons_zero, Bool.not_true, Bool.not_false, Bool.false_eq_true, ↓reduceIte, List.length_cons, List.length_nil, List.map_cons, List.map_nil, Nat.reduceAdd, Nat.reduceLeDiff, Nat.reduceLT, Bool.true_and, Bool.and_true, Bool.false_and, Bool.and_false, List.length_map, Nat.zero_le]
      rw [fLc_map id (fun x => .bool false) [PyData.tuple []] (by simp only [bnd_ok, bnd_err, then_ok, then_err, fVar0, fVarS, fC_e, fOp_e, fUn_e, asB_e, asI_e, fT_e, fAnd_e, fOr_e, fNot_e, fAndV_e, fOrV_e, fNotV_e, fIf_e, fChain_e, aNil_e, aCons_e, fTup_e, fLst_e, fCall_e, dTup_e, dLst_e, gAdd_i, gSub_i, gNeg_i, gEq_i, gNe_i, gLt_i, gLe_i, gGt_i, gGe_i, gIsN_e, gNotN_e, isN_n, isN_i, isN_t, isN_l, isN_b, gIsi_e, tyD_n, tyD_i, tyD_t, tyD_l, tyD_b, tyD_s, isaT_ii, isaT_bi, isaT_ib, isaT_bb, isaT_tt, isaT_ll, isaT_tb, isaT_ti, isaT_it, isaT_bt, isaT_lt, isaT_nt, isaT_st, gLen_l, gLen_t, gOne_l, gTuple_l, gTuple_t, gInt_b, gMin2_e, gMax2_e, fIt_e, items_l, items_t, fItA_e, gEnum_e, gZip_t, gNm0, gNmS, gNil_e, gCons_e, gTp_e, wipe0, wipeS, tYesD_e, sNil_e, sExpr_e, sRet_e, sRaise_e, sIf_e, sAsg_e, asF_e, sFor_e, endF_r, endF_n, endF_x, asO_s, fRg1_e, sFrz_e, gIx_t0, gIx_t1, gIx_t2, gIx_l0, gIx_l1, gIx_l2, Option.map_some, Option.bind_some, List.set_cons_succ, List.set_cons_zero, List.getElem?_cons_succ, List.getElem?_cons_zero, Bool.not_true, Bool.not_false, Bool.false_eq_true, ↓reduceIte, List.length_cons, List.length_nil, List.map_cons, List.map_nil, Nat.reduceAdd, Nat.reduceLeDiff, Nat.reduceLT, Bool.true_and, Bool.and_true, Bool.false_and, Bool.and_false, List.length_map, Nat.zero_le, List.map_id, id_eq]) (by simp) fun x hx => ?_]
      · simp only [bnd_ok, bnd_err, then_ok, then_err, fVar0, fVarS, fC_e, fOp_e, fUn_e, asB_e, asI_e, fT_e, fAnd_e, fOr_e, fNot_e, fAndV_e, fOrV_e, fNotV_e, fIf_e, fChain_e, aNil_e, aCons_e, fTup_e, fLst_e, fCall_e, dTup_e, dLst_e, gAdd_i, gSub_i, gNeg_i, gEq_i, gNe_i, gLt_i, gLe_i, gGt_i, gGe_i, gIsN_e, gNotN_e, isN_n, isN_i, isN_t, isN_l, isN_b, gIsi_e, tyD_n, tyD_i, tyD_t, tyD_l, tyD_b, tyD_s, isaT_ii, isaT_bi, isaT_ib, isaT_bb, isaT_tt, isaT_ll, isaT_tb, isaT_ti, isaT_it, isaT_bt, isaT_lt, isaT_nt, isaT_st, gLen_l, gLen_t, gOne_l, gTuple_l, gTuple_t, gInt_b, gMin2_e, gMax2_e, fIt_e, items_l, items_t, fItA_e, gEnum_e, gZip_t, gNm0, gNmS, gNil_e, gCons_e, gTp_e, wipe0, wipeS, tYesD_e, sNil_e, sExpr_e, sRet_e, sRaise_e, sIf_e, sAsg_e, asF_e, sFor_e, endF_r, endF_n, endF_x, asO_s, fRg1_e, sFrz_e, gIx_t0, gIx_t1, gIx_t2, gIx_l0, gIx_l1, gIx_l2, Option.map_some, Option.bind_some, List.set_cons_succ, List.set_cons_zero, List.getElem?_cons_succ, List.getElem?_cons_zero, Bool.not_true, Bool.not_false, Bool.false_eq_true, ↓reduceIte, List.length_cons, List.length_nil, List.map_cons, List.map_nil, Nat.reduceAdd, Nat.reduceLeDiff, Nat.reduceLT, Bool.true_and, Bool.and_true, Bool.false_and, Bool.and_false, List.length_map, Nat.zero_le, dAll, asBls]
        rfl
      · rw [List.mem_singleton.mp hx]; simp only [lcOne, bnd_ok, bnd_err, then_ok, then_err, fVar0, fVarS, fC_e, fOp_e, fUn_e, asB_e, asI_e, fT_e, fAnd_e, fOr_e, fNot_e, fAndV_e, fOrV_e, fNotV_e, fIf_e, fChain_e, aNil_e, aCons_e, fTup_e, fLst_e, fCall_e, dTup_e, dLst_e, gAdd_i, gSub_i, gNeg_i, gEq_i, gNe_i, gLt_i, gLe_i, gGt_i, gGe_i, gIsN_e, gNotN_e, isN_n, isN_i, isN_t, isN_l, isN_b, gIsi_e, tyD_n, tyD_i, tyD_t, tyD_l, tyD_b, tyD_s, isaT_ii, isaT_bi, isaT_ib, isaT_bb, isaT_tt, isaT_ll, isaT_tb, isaT_ti, isaT_it, isaT_bt, isaT_lt, isaT_nt, isaT_st, gLen_l, gLen_t, gOne_l, gTuple_l, gTuple_t, gInt_b, gMin2_e, gMax2_e, fIt_e, items_l, items_t, fItA_e, gEnum_e, gZip_t, gNm0, gNmS, gNil_e, gCons_e, gTp_e, wipe0, wipeS, tYesD_e, sNil_e, sExpr_e, sRet_e, sRaise_e, sIf_e, sAsg_e, asF_e, sFor_e, endF_r, endF_n, endF_x, asO_s, fRg1_e, sFrz_e, gIx_t0, gIx_t1, gIx_t2, gIx_l0, gIx_l1, gIx_l2, Option.map_some, Option.bind_some, List.set_cons_succ, List.set_cons_zero, List.getElem?_cons_succ, List.getElem?_cons_zero, Bool.not_true, Bool.not_false, Bool.false_eq_true, ↓reduceIte, List.length_cons, List.length_nil, List.map_cons, List.map_nil, Nat.reduceAdd, Nat.reduceLeDiff, Nat.reduceLT, Bool.true_and, Bool.and_true, Bool.false_and, Bool.and_false, List.length_map, Nat.zero_le, id_eq]; rfl)]
    rfl
  · rw [sSeq_x (d := "BadBottle") (h := by
      simp only [bnd_ok, bnd_err, then_ok, then_err, fVar0, fVarS, fC_e, fOp_e, fUn_e, asB_e, asI_e, fT_e, fAnd_e, fOr_e, fNot_e, fAndV_e, fOrV_e, fNotV_e, fIf_e, fChain_e, aNil_e, aCons_e, fTup_e, fLst_e, fCall_e, dTup_e, dLst_e, gAdd_i, gSub_i, gNeg_i, gEq_i, gNe_i, gLt_i, gLe_i, gGt_i, gGe_i, gIsN_e, gNotN_e, isN_n, isN_i, isN_t, isN_l, isN_b, gIsi_e, tyD_n, tyD_i, tyD_t, tyD_l, tyD_b, tyD_s, isaT_ii, isaT_bi, isaT_ib, isaT_bb, isaT_tt, isaT_ll, isaT_tb, isaT_ti, isaT_it, isaT_bt, isaT_lt, isaT_nt, isaT_st, gLen_l, gLen_t, gOne_l, gTuple_l, gTuple_t, gInt_b, gMin2_e, gMax2_e, fIt_e, items_l, items_t, fItA_e, gEnum_e, gZip_t, gNm0, gNmS, gNil_e, gCons_e, gTp_e, wipe0, wipeS, tYesD_e, sNil_e, sExpr_e, sRet_e, sRaise_e, sIf_e, sAsg_e, asF_e, sFor_e, endF_r, endF_n, endF_x, asO_s, fRg1_e, sFrz_e, gIx_t0, gIx_t1, gIx_t2, gIx_l0, gIx_l1, gIx_l2, Option.map_some, Option.bind_some, List.set_cons_succ, List.set_cons_zero, List.getElem?_cons_succ, List.getElem?_cons_zero, Bool.not_true, Bool.not_false, Bool.false_eq_true, ↓reduceIte, List.length_cons, List.length_nil, List.map_cons, List.map_nil, Nat.reduceAdd, Nat.reduceLeDiff, Nat.reduceLT, Bool.true_and, Bool.and_true, Bool.false_and, Bool.and_false, List.length_map, Nat.zero_le]
      rw [fLc_map id (fun x => .bool false) [PyData.list [.tuple [], .tuple []]] (by simp only [bnd_ok, bnd_err, then_ok, then_err, fVar0, fVarS, fC_e, fOp_e, fUn_e, asB_e, asI_e, fT_e, fAnd_e, fOr_e, fNot_e, fAndV_e, fOrV_e, fNotV_e, fIf_e, fChain_e, aNil_e, aCons_e, fTup_e, fLst_e, fCall_e, dTup_e, dLst_e, gAdd_i, gSub_i, gNeg_i, gEq_i, gNe_i, gLt_i, gLe_i, gGt_i, gGe_i, gIsN_e, gNotN_e, isN_n, isN_i, isN_t, isN_l, isN_b, gIsi_e, tyD_n, tyD_i, tyD_t, tyD_l, tyD_b, tyD_s, isaT_ii, isaT_bi, isaT_ib, isaT_bb, isaT_tt, isaT_ll, isaT_tb, isaT_ti, isaT_it, isaT_bt, isaT_lt, isaT_nt, isaT_st, gLen_l, gLen_t, gOne_l, gTuple_l, gTuple_t, gInt_b, gMin2_e, gMax2_e, fIt_e, items_l, items_t, fItA_e, gEnum_e, gZip_t, gNm0, gNmS, gNil_e, gCons_e, gTp_e, wipe0, wipeS, tYesD_e, sNil_e, sExpr_e, sRet_e, sRaise_e, sIf_e, sAsg_e, asF_e, sFor_e, endF_r, endF_n, endF_x, asO_s, fRg1_e, sFrz_e, gIx_t0, gIx_t1, gIx_t2, gIx_l0, gIx_l1, gIx_l2, Option.map_some, Option.bind_some, List.set_cons_succ, List.set_cons_zero, List.getElem?_cons_succ, List.getElem?_cons_zero, Bool.not_true, Bool.not_false, Bool.false_eq_true, ↓reduceIte, List.length_cons, List.length_nil, List.map_cons, List.map_nil, Nat.reduceAdd, Nat.reduceLeDiff, Nat.reduceLT, Bool.true_and, Bool.and_true, Bool.false_and, Bool.and_false, List.length_map, Nat.zero_le, List.map_id, id_eq]) (by simp) fun x hx => ?_]
      · simp only [bnd_ok, bnd_err, then_ok, then_err, fVar0, fVarS, fC_e, fOp_e, fUn_e, asB_e, asI_e, fT_e, fAnd_e, fOr_e, fNot_e, fAndV_e, fOrV_e, fNotV_e, fIf_e, fChain_e, aNil_e, aCons_e, fTup_e, fLst_e, fCall_e, dTup_e, dLst_e, gAdd_i, gSub_i, gNeg_i, gEq_i, gNe_i, gLt_i, gLe_i, gGt_i, gGe_i, gIsN_e, gNotN_e, isN_n, isN_i, isN_t, isN_l, isN_b, gIsi_e, tyD_n, tyD_i, tyD_t, tyD_l, tyD_b, tyD_s, isaT_ii, isaT_bi, isaT_ib, isaT_bb, isaT_tt, isaT_ll, isaT_tb, isaT_ti, isaT_it, isaT_bt, isaT_lt, isaT_nt, isaT_st, gLen_l, gLen_t, gOne_l, gTuple_l, gTuple_t, gInt_b, gMin2_e, gMax2_e, fIt_e, items_l, items_t, fItA_e, gEnum_e, gZip_t, gNm0, gNmS, gNil_e, gCons_e, gTp_e, wipe0, wipeS, tYesD_e, sNil_e, sExpr_e, sRet_e, sRaise_e, sIf_e, sAsg_e, asF_e, sFor_e, endF_r, endF_n, endF_x, asO_s, fRg1_e, sFrz_e, gIx_t0, gIx_t1, gIx_t2, gIx_l0, gIx_l1, gIx_l2, Option.map_some, Option.bind_some, List.set_cons_succ, List.set_cons_zero, List.getElem?_cons_succ, List.getElem?_cons_zero, Bool.not_true, Bool.not_false, Bool.false_eq_true, ↓reduceIte, List.length_cons, List.length_nil, List.map_cons, List.map_nil, Nat.reduceAdd, Nat.reduceLeDiff, Nat.reduceLT, Bool.true_and, Bool.and_true, Bool.false_and, Bool.and_false, List.length_map, Nat.zero_le, dAll, asBls]
        rfl
      · rw [List.mem_singleton.mp hx]; simp only [lcOne, bnd_ok, bnd_err, then_ok, then_err, fVar0, fVarS, fC_e, fOp_e, fUn_e, asB_e, asI_e, fT_e, fAnd_e, fOr_e, fNot_e, fAndV_e, fOrV_e, fNotV_e, fIf_e, fChain_e, aNil_e, aCons_e, fTup_e, fLst_e, fCall_e, dTup_e, dLst_e, gAdd_i, gSub_i, gNeg_i, gEq_i, gNe_i, gLt_i, gLe_i, gGt_i, gGe_i, gIsN_e, gNotN_e, isN_n, isN_i, isN_t, isN_l, isN_b, gIsi_e, tyD_n, tyD_i, tyD_t, tyD_l, tyD_b, tyD_s, isaT_ii, isaT_bi, isaT_ib, isaT_bb, isaT_tt, isaT_ll, isaT_tb, isaT_ti, isaT_it, isaT_bt, isaT_lt, isaT_nt, isaT_st, gLen_l, gLen_t, gOne_l, gTuple_l, gTuple_t, gInt_b, gMin2_e, gMax2_e, fIt_e, items_l, items_t, fItA_e, gEnum_e, gZip_t, gNm0, gNmS, gNil_e, gCons_e, gTp_e, wipe0, wipeS, tYesD_e, sNil_e, sExpr_e, sRet_e, sRaise_e, sIf_e, sAsg_e, asF_e, sFor_e, endF_r, endF_n, endF_x, asO_s, fRg1_e, sFrz_e, gIx_t0, gIx_t1, gIx_t2, gIx_l0, gIx_l1, gIx_l2, Option.map_some, Option.bind_some, List.set_cons_succ, List.set_cons_zero, List.getElem?_cons_succ, List.getElem?_cons_zero, Bool.not_true, Bool.not_false, Bool.false_eq_true, ↓reduceIte, List.length_cons, List.length_nil, List.map_cons, List.map_nil, Nat.reduceAdd, Nat.reduceLeDiff, Nat.reduceLT, Bool.true_and, Bool.and_true, Bool.false_and, Bool.and_false, List.length_map, Nat.zero_le, id_eq])]
    rfl
  · rw [sSeq_x (d := "BadBottle") (h := by
      simp only [bnd_ok, bnd_err, then_ok, then_err, fVar0, fVarS, fC_e, fOp_e, fUn_e, asB_e, asI_e, fT_e, fAnd_e, fOr_e, fNot_e, fAndV_e, fOrV_e, fNotV_e, fIf_e, fChain_e, aNil_e, aCons_e, fTup_e, fLst_e, fCall_e, dTup_e, dLst_e, gAdd_i, gSub_i, gNeg_i, gEq_i, gNe_i, gLt_i, gLe_i, gGt_i, gGe_i, gIsN_e, gNotN_e, isN_n, isN_i, isN_t, isN_l, isN_b, gIsi_e, tyD_n, tyD_i, tyD_t, tyD_l, tyD_b, tyD_s, isaT_ii, isaT_bi, isaT_ib, isaT_bb, isaT_tt, isaT_ll, isaT_tb, isaT_ti, isaT_it, isaT_bt, isaT_lt, isaT_nt, isaT_st, gLen_l, gLen_t, gOne_l, gTuple_l, gTuple_t, gInt_b, gMin2_e, gMax2_e, fIt_e, items_l, items_t, fItA_e, gEnum_e, gZip_t, gNm0, gNmS, gNil_e, gCons_e, gTp_e, wipe0, wipeS, tYesD_e, sNil_e, sExpr_e, sRet_e, sRaise_e, sIf_e, sAsg_e, asF_e, sFor_e, endF_r, endF_n, endF_x, asO_s, fRg1_e, sFrz_e, gIx_t0, gIx_t1, gIx_t2, gIx_l0, gIx_l1, gIx_l2, Option.map_some, Option.bind_some, List.set_cons_succ, List.set_cons_zero, List.getElem?_cons_succ, List.getElem?_cons_zero, Bool.not_true, Bool.not_false, Bool.false_eq_true, ↓reduceIte, List.length_cons, List.length_nil, List.map_cons, List.map_nil, Nat.reduceAdd, Nat.reduceLeDiff, Nat.reduceLT, Bool.true_and, Bool.and_true, Bool.false_and, Bool.and_false, List.length_map, Nat.zero_le]
      rw [fLc_map id (fun x => .bool false) [PyData.tuple [.tuple []]] (by simp only [bnd_ok, bnd_err, then_ok, then_err, fVar0, fVarS, fC_e, fOp_e, fUn_e, asB_e, asI_e, fT_e, fAnd_e, fOr_e, fNot_e, fAndV_e, fOrV_e, fNotV_e, fIf_e, fChain_e, aNil_e, aCons_e, fTup_e, fLst_e, fCall_e, dTup_e, dLst_e, gAdd_i, gSub_i, gNeg_i, gEq_i, gNe_i, gLt_i, gLe_i, gGt_i, gGe_i, gIsN_e, gNotN_e, isN_n, isN_i, isN_t, isN_l, isN_b, gIsi_e, tyD_n, tyD_i, tyD_t, tyD_l, tyD_b, tyD_s, isaT_ii, isaT_bi, isaT_ib, isaT_bb, isaT_tt, isaT_ll, isaT_tb, isaT_ti, isaT_it, isaT_bt, isaT_lt, isaT_nt, isaT_st, gLen_l, gLen_t, gOne_l, gTuple_l, gTuple_t, gInt_b, gMin2_e, gMax2_e, fIt_e, items_l, items_t, fItA_e, gEnum_e, gZip_t, gNm0, gNmS, gNil_e, gCons_e, gTp_e, wipe0, wipeS, tYesD_e, sNil_e, sExpr_e, sRet_e, sRaise_e, sIf_e, sAsg_e, asF_e, sFor_e, endF_r, endF_n, endF_x, asO_s, fRg1_e, sFrz_e, gIx_t0, gIx_t1, gIx_t2, gIx_l0, gIx_l1, gIx_l2, Option.map_some, Option.bind_some, List.set_cons_succ, List.set_cons_zero, List.getElem?_cons_succ, List.getElem?_cons_zero, Bool.not_true, Bool.not_false, Bool.false_eq_true, ↓reduceIte, List.length_cons, List.length_nil, List.map_cons, List.map_nil, Nat.reduceAdd, Nat.reduceLeDiff, Nat.reduceLT, Bool.true_and, Bool.and_true, Bool.false_and, Bool.and_false, List.length_map, Nat.zero_le, List.map_id, id_eq]) (by simp) fun x hx => ?_]
      · simp only [bnd_ok, bnd_err, then_ok, then_err, fVar0, fVarS, fC_e, fOp_e, fUn_e, asB_e, asI_e, fT_e, fAnd_e, fOr_e, fNot_e, fAndV_e, fOrV_e, fNotV_e, fIf_e, fChain_e, aNil_e, aCons_e, fTup_e, fLst_e, fCall_e, dTup_e, dLst_e, gAdd_i, gSub_i, gNeg_i, gEq_i, gNe_i, gLt_i, gLe_i, gGt_i, gGe_i, gIsN_e, gNotN_e, isN_n, isN_i, isN_t, isN_l, isN_b, gIsi_e, tyD_n, tyD_i, tyD_t, tyD_l, tyD_b, tyD_s, isaT_ii, isaT_bi, isaT_ib, isaT_bb, isaT_tt, isaT_ll, isaT_tb, isaT_ti, isaT_it, isaT_bt, isaT_lt, isaT_nt, isaT_st, gLen_l, gLen_t, gOne_l, gTuple_l, gTuple_t, gInt_b, gMin2_e, gMax2_e, fIt_e, items_l, items_t, fItA_e, gEnum_e, gZip_t, gNm0, gNmS, gNil_e, gCons_e, gTp_e, wipe0, wipeS, tYesD_e, sNil_e, sExpr_e, sRet_e, sRaise_e, sIf_e, sAsg_e, asF_e, sFor_e, endF_r, endF_n, endF_x, asO_s, fRg1_e, sFrz_e, gIx_t0, gIx_t1, gIx_t2, gIx_l0, gIx_l1, gIx_l2, Option.map_some, Option.bind_some, List.set_cons_succ, List.set_cons_zero, List.getElem?_cons_succ, List.getElem?_cons_zero, Bool.not_true, Bool.not_false, Bool.false_eq_true, ↓reduceIte, List.length_cons, List.length_nil, List.map_cons, List.map_nil, Nat.reduceAdd, Nat.reduceLeDiff, Nat.reduceLT, Bool.true_and, Bool.and_true, Bool.false_and, Bool.and_false, List.length_map, Nat.zero_le, dAll, asBls]
        rfl
      · rw [List.mem_singleton.mp hx]; simp only [lcOne, bnd_ok, bnd_err, then_ok, then_err, fVar0, fVarS, fC_e, fOp_e, fUn_e, asB_e, asI_e, fT_e, fAnd_e, fOr_e, fNot_e, fAndV_e, fOrV_e, fNotV_e, fIf_e, fChain_e, aNil_e, aCons_e, fTup_e, fLst_e, fCall_e, dTup_e, dLst_e, gAdd_i, gSub_i, gNeg_i, gEq_i, gNe_i, gLt_i, gLe_i, gGt_i, gGe_i, gIsN_e, gNotN_e, isN_n, isN_i, isN_t, isN_l, isN_b, gIsi_e, tyD_n, tyD_i, tyD_t, tyD_l, tyD_b, tyD_s, isaT_ii, isaT_bi, isaT_ib, isaT_bb, isaT_tt, isaT_ll, isaT_tb, isaT_ti, isaT_it, isaT_bt, isaT_lt, isaT_nt, isaT_st, gLen_l, gLen_t, gOne_l, gTuple_l, gTuple_t, gInt_b, gMin2_e, gMax2_e, fIt_e, items_l, items_t, fItA_e, gEnum_e, gZip_t, gNm0, gNmS, gNil_e, gCons_e, gTp_e, wipe0, wipeS, tYesD_e, sNil_e, sExpr_e, sRet_e, sRaise_e, sIf_e, sAsg_e, asF_e, sFor_e, endF_r, endF_n, endF_x, asO_s, fRg1_e, sFrz_e, gIx_t0, gIx_t1, gIx_t2, gIx_l0, gIx_l1, gIx_l2, Option.map_some, Option.bind_some, List.set_cons_succ, List.set_cons_zero, List.getElem?_cons_succ, List.getElem?_cons_zero, Bool.not_true, Bool.not_false, Bool.false_eq_true, ↓reduceIte, List.length_cons, List.length_nil, List.map_cons, List.map_nil, Nat.reduceAdd, Nat.reduceLeDiff, Nat.reduceLT, Bool.true_and, Bool.and_true, Bool.false_and, Bool.and_false, List.length_map, Nat.zero_le, id_eq]; rfl)]
    rfl
end Bl
namespace Bl
open PySem L2 Dl
/-! ### the law's own way of a bottle, place by place -/
theorem ltP_irrefl (p : Nat × Nat) : ltP p p = false := by unfold ltP; simp
theorem minP_not_lt (x : Nat × Nat) (xs : List (Nat × Nat)) : ∀ y ∈ x :: xs, ltP y (minP x xs) = false := by
  unfold minP
  induction xs generalizing x with
  | nil => intro y hy; rw [List.mem_singleton.mp hy]; exact ltP_irrefl x
  | cons z zs ih =>
    intro y hy
    rw [List.foldl_cons]
    have tr : ∀ a b c : Nat × Nat, ltP a b = false → ltP b c = false → ltP a c = false := by
      intro a b c h1 h2
      unfold ltP at *
      have h1 := of_decide_eq_false h1
      have h2 := of_decide_eq_false h2
      exact decide_eq_false (by omega)
    cases h : ltP z x with
    | true =>
      rw [if_pos rfl]
      rcases List.mem_cons.mp hy with rfl | hy
      · refine tr _ z _ ?_ (ih z z List.mem_cons_self)
        unfold ltP at *
        have h := of_decide_eq_true h
        exact decide_eq_false (by omega)
      · exact ih z y hy
    | false =>
      rw [if_neg (by decide)]
      rcases List.mem_cons.mp hy with rfl | hy
      · exact ih y y List.mem_cons_self
      · rcases List.mem_cons.mp hy with rfl | hy
        · exact tr _ x _ h (ih x x List.mem_cons_self)
        · exact ih x y (List.mem_cons_of_mem _ hy)
theorem cMin_eq {l : List (Nat × Nat)} {q : Nat × Nat} (hq : q ∈ l) (h : ∀ y ∈ l, ltP y q = false) : cMin l = some q := by
  cases l with
  | nil => cases hq
  | cons x xs =>
    show some (minP x xs) = _
    congr 1
    have h1 := minP_not_lt x xs q hq
    have h2 := h _ (minP_mem x xs)
    unfold ltP at h1 h2
    have h1 := of_decide_eq_false h1
    have h2 := of_decide_eq_false h2
    exact Prod.ext (by omega) (by omega)
theorem find_least {xs : List Nat} (hr : xs.Pairwise (· < ·)) {p : Nat → Bool} {k : Nat} (h : xs.find? p = some k) : k ∈ xs ∧ p k = true ∧ ∀ y ∈ xs, p y = true → k ≤ y := by
  induction xs with
  | nil => cases h
  | cons x xs ih =>
    rw [List.find?_cons] at h
    obtain ⟨h1, h2⟩ := List.pairwise_cons.mp hr
    cases hp : p x with
    | true =>
      rw [hp] at h
      have h := Option.some.inj h
      subst h
      refine ⟨List.mem_cons_self, hp, fun y hy _ => ?_⟩
      rcases List.mem_cons.mp hy with rfl | hy
      · exact Nat.le_refl _
      · exact Nat.le_of_lt (h1 y hy)
    | false =>
      rw [hp] at h
      obtain ⟨g1, g2, g3⟩ := ih h2 h
      refine ⟨List.mem_cons_of_mem _ g1, g2, fun y hy hy' => ?_⟩
      rcases List.mem_cons.mp hy with rfl | hy
      · rw [hp] at hy'; cases hy'
      · exact g3 y hy hy'
theorem fm_congr {α β : Type} {f g : α → Option β} : ∀ {xs : List α}, (∀ x ∈ xs, f x = g x) → xs.filterMap f = xs.filterMap g
  | [], _ => rfl
  | x :: xs, h => by rw [List.filterMap_cons, List.filterMap_cons, h x List.mem_cons_self, fm_congr fun y hy => h y (List.mem_cons_of_mem _ hy)]
theorem any_filter {α : Type} (p : α → Bool) : ∀ xs : List α, (!(xs.filter p).isEmpty) = xs.any p
  | [] => rfl
  | x :: xs => by
    rw [List.filter_cons, List.any_cons]
    cases p x with
    | true => rfl
    | false => exact any_filter p xs
def candS (b : Belt) (bo sl : List Nat) (p s : Nat) : Bool := (sat b s == p) && (!sl.contains s && bo.any (cSees b s))
def scan (b : Belt) (ss bo sl : List Nat) (p : Nat) (spot : Option Nat) : Option Nat := spot.or (ss.find? (candS b bo sl p))
def kick (b : Belt) (ks : List Nat) (p : Nat) (spot : Option Nat) : Option (Nat × Nat) := spot.bind fun s => (ks.find? fun k => kat b k == p).map fun k => (s, k)
def goOut (b : Belt) (ss ks bo sl : List Nat) : Nat → Nat → Option Nat → Option (Nat × Nat)
  | 0, _, _ => none
  | n + 1, p, spot => (kick b ks p (scan b ss bo sl p spot)).or (goOut b ss ks bo sl n (p + 1) (scan b ss bo sl p spot))
theorem goOut_s {b : Belt} {ss ks bo sl : List Nat} (hk : ∀ k ∈ ks, kat b k ≤ 99) (hr : ks.Pairwise (· < ·)) (s : Nat) : ∀ n p, p + n = 100 → goOut b ss ks bo sl n p (some s) = (cFirst b ks p).map fun k => (s, k) := by
  intro n
  induction n with
  | zero =>
    intro p hp
    have : cands b ks p = [] := List.eq_nil_iff_forall_not_mem.mpr fun q hq => by
      obtain ⟨h1, h2, h3⟩ := mem_cands.mp hq
      have := hk _ h1
      omega
    unfold cFirst
    rw [this]
    rfl
  | succ n ih =>
    intro p hp
    have e : scan b ss bo sl p (some s) = some s := rfl
    show (kick b ks p (scan b ss bo sl p (some s))).or (goOut b ss ks bo sl n (p + 1) (scan b ss bo sl p (some s))) = _
    rw [e, ih (p + 1) (by omega)]
    unfold kick
    rw [Option.bind_some]
    cases hf : ks.find? fun k => kat b k == p with
    | some k =>
      obtain ⟨h1, h2, h3⟩ := find_least hr hf
      have h2 : kat b k = p := by simpa using h2
      have : cMin (cands b ks p) = some (p, k) := cMin_eq (mem_cands.mpr ⟨h1, h2.symm, Nat.le_refl _⟩) fun y hy => by
        obtain ⟨g1, g2, g3⟩ := mem_cands.mp hy
        unfold ltP
        refine decide_eq_false fun z => ?_
        rcases z with z | ⟨z1, z2⟩
        · have : y.1 < p := z
          omega
        · have z1 : y.1 = p := z1
          have z2 : y.2 < k := z2
          have := h3 y.2 g1 (by simp; omega)
          omega
      unfold cFirst
      rw [this]
      rfl
    | none =>
      have : cands b ks (p + 1) = cands b ks p := by
        unfold cands
        refine fm_congr fun k hk => ?_
        have := List.find?_eq_none.mp hf k hk
        have : kat b k ≠ p := by simpa using this
        by_cases h : p ≤ kat b k
        · rw [if_pos h, if_pos (by omega)]
        · rw [if_neg h, if_neg (by omega)]
      unfold cFirst
      rw [this]
      rfl
theorem goOut_n {b : Belt} {ss ks bo sl : List Nat} (hs : ∀ s ∈ ss, sat b s ≤ 99) (hrs : ss.Pairwise (· < ·)) (hk : ∀ k ∈ ks, kat b k ≤ 99) (hr : ks.Pairwise (· < ·)) : ∀ n p, p + n = 100 → (∀ q ∈ oCands b ss bo sl, p ≤ q.1) → goOut b ss ks bo sl n p none = cOut b ss ks bo sl := by
  intro n
  induction n with
  | zero =>
    intro p hp hc
    have : oCands b ss bo sl = [] := List.eq_nil_iff_forall_not_mem.mpr fun q hq => by
      obtain ⟨h1, h2, h3, h4⟩ := mem_oCands.mp hq
      have := hc q hq
      have := hs _ h1
      omega
    unfold cOut
    rw [this]
    rfl
  | succ n ih =>
    intro p hp hc
    cases hf : ss.find? (candS b bo sl p) with
    | some s =>
      have e : scan b ss bo sl p none = some s := by unfold scan; rw [hf]; rfl
      have e2 : goOut b ss ks bo sl (n + 1) p none = goOut b ss ks bo sl (n + 1) p (some s) := by
        show (kick b ks p (scan b ss bo sl p none)).or (goOut b ss ks bo sl n (p + 1) (scan b ss bo sl p none)) = (kick b ks p (scan b ss bo sl p (some s))).or (goOut b ss ks bo sl n (p + 1) (scan b ss bo sl p (some s)))
        rw [e]
        rfl
      rw [e2, goOut_s hk hr s _ _ hp]
      obtain ⟨h1, h2, h3⟩ := find_least hrs hf
      unfold candS at h2
      rw [Bool.and_eq_true, Bool.and_eq_true] at h2
      have h2a : sat b s = p := by simpa using h2.1
      have hm : cMin (oCands b ss bo sl) = some (p, s) := cMin_eq (mem_oCands.mpr ⟨h1, by simpa using h2.2.1, by simpa using h2.2.2, h2a.symm⟩) fun y hy => by
        have hp := hc y hy
        obtain ⟨g1, g2, g3, g4⟩ := mem_oCands.mp hy
        unfold ltP
        refine decide_eq_false fun z => ?_
        rcases z with z | ⟨z1, z2⟩
        · have : y.1 < p := z
          omega
        · have z1 : y.1 = p := z1
          have z2 : y.2 < s := z2
          have := h3 y.2 g1 (by
            unfold candS
            rw [Bool.and_eq_true, Bool.and_eq_true]
            exact ⟨by simp; omega, by simpa using g2, by simpa using g3⟩)
          omega
      unfold cOut
      rw [hm]
      rfl
    | none =>
      have e : scan b ss bo sl p none = none := by unfold scan; rw [hf]; rfl
      show (kick b ks p (scan b ss bo sl p none)).or (goOut b ss ks bo sl n (p + 1) (scan b ss bo sl p none)) = _
      rw [e]
      show goOut b ss ks bo sl n (p + 1) none = _
      refine ih (p + 1) (by omega) fun q hq => ?_
      have := hc q hq
      obtain ⟨g1, g2, g3, g4⟩ := mem_oCands.mp hq
      have hne : ¬ candS b bo sl p q.2 = true := List.find?_eq_none.mp hf q.2 g1
      have : q.1 ≠ p := fun z => hne (by
        unfold candS
        rw [Bool.and_eq_true, Bool.and_eq_true]
        exact ⟨by simp; omega, by simpa using g2, by simpa using g3⟩)
      omega
def oS : Option Nat → Slot
  | none => .dat .none
  | some s => .dat (nD s)
theorem lo0_e {b : Belt} {bo sl : List Nat} (hb : b.Ok) (hbo : Rise b.F.length bo) (pl : D) (p s : Nat) (hs : s < b.S.length) (spot : Option Nat) (j7 j8 j9 j10 : Slot) :
    ∃ k7 k8 k9 : Slot, l_law_out_0 [.dat (eB b), .dat pl, .dat (tN bo), .dat (tN sl), oS spot, .dat (nD p), .dat (nD s), j7, j8, j9, j10] = .next [.dat (eB b), .dat pl, .dat (tN bo), .dat (tN sl), oS (spot.or (if candS b bo sl p s then some s else none)), .dat (nD p), .dat (nD s), k7, k8, k9, j10] := by
  have f6 := hb.f6; have l3 := rise_len hbo
  obtain ⟨x, hx⟩ := get_some hs
  refine ⟨.dat (nD x.at_), .dat (nD x.cost), .dat (tN x.own), ?_⟩
  unfold l_law_out_0
  rw [sSeq_n (h := by simp only [bnd_ok, bnd_err, then_ok, then_err, fVar0, fVarS, fC_e, fOp_e, fUn_e, asB_e, asI_e, fT_e, fAnd_e, fOr_e, fNot_e, fAndV_e, fOrV_e, fNotV_e, fIf_e, fChain_e, aNil_e, aCons_e, fTup_e, fLst_e, fCall_e, dTup_e, dLst_e, gAdd_i, gSub_i, gNeg_i, gEq_i, gNe_i, gLt_i, gLe_i, gGt_i, gGe_i, gIsN_e, gNotN_e, isN_n, isN_i, isN_t, isN_l, isN_b, gIsi_e, tyD_n, tyD_i, tyD_t, tyD_l, tyD_b, tyD_s, isaT_ii, isaT_bi, isaT_ib, isaT_bb, isaT_tt, isaT_ll, isaT_tb, isaT_ti, isaT_it, isaT_bt, isaT_lt, isaT_nt, isaT_st, gLen_l, gLen_t, gOne_l, gTuple_l, gTuple_t, gInt_b, gMin2_e, gMax2_e, fIt_e, items_l, items_t, fItA_e, gEnum_e, gZip_t, gNm0, gNmS, gNil_e, gCons_e, gTp_e, wipe0, wipeS, tYesD_e, sNil_e, sExpr_e, sRet_e, sRaise_e, sIf_e, sAsg_e, asF_e, sFor_e, endF_r, endF_n, endF_x, asO_s, fRg1_e, sFrz_e, gIx_t0, gIx_t1, gIx_t2, gIx_l0, gIx_l1, gIx_l2, Option.map_some, Option.bind_some, List.set_cons_succ, List.set_cons_zero, List.getElem?_cons_succ, List.getElem?_cons_zero, Bool.not_true, Bool.not_false, Bool.false_eq_true, ↓reduceIte, List.length_cons, List.length_nil, List.map_cons, List.map_nil, Nat.reduceAdd, Nat.reduceLeDiff, Nat.reduceLT, Bool.true_and, Bool.and_true, Bool.false_and, Bool.and_false, List.length_map, Nat.zero_le, gIx_map eS b.S s x hx]; rfl)]
  have hl : fLc (fIt (fVar 2)) (gNm 10) (fAnd (fT (fOp gIn (fVar 10) (fVar 9))) (fT (fOp gLe (fOp gIx (fOp gIx (fVar 0) (fC (.int 0))) (fVar 10)) (fVar 7)))) (fVar 10) [10] [.dat (eB b), .dat pl, .dat (tN bo), .dat (tN sl), .dat .none, .dat (nD p), .dat (nD s), .dat (nD x.at_), .dat (nD x.cost), .dat (tN x.own), j10] = .ok (lN (bo.filter (cSees b s))) := by
    rw [fLc_eq nD (fun f => if cSees b s f then some (nD f) else none) bo (by simp only [bnd_ok, bnd_err, then_ok, then_err, fVar0, fVarS, fC_e, fOp_e, fUn_e, asB_e, asI_e, fT_e, fAnd_e, fOr_e, fNot_e, fAndV_e, fOrV_e, fNotV_e, fIf_e, fChain_e, aNil_e, aCons_e, fTup_e, fLst_e, fCall_e, dTup_e, dLst_e, gAdd_i, gSub_i, gNeg_i, gEq_i, gNe_i, gLt_i, gLe_i, gGt_i, gGe_i, gIsN_e, gNotN_e, isN_n, isN_i, isN_t, isN_l, isN_b, gIsi_e, tyD_n, tyD_i, tyD_t, tyD_l, tyD_b, tyD_s, isaT_ii, isaT_bi, isaT_ib, isaT_bb, isaT_tt, isaT_ll, isaT_tb, isaT_ti, isaT_it, isaT_bt, isaT_lt, isaT_nt, isaT_st, gLen_l, gLen_t, gOne_l, gTuple_l, gTuple_t, gInt_b, gMin2_e, gMax2_e, fIt_e, items_l, items_t, fItA_e, gEnum_e, gZip_t, gNm0, gNmS, gNil_e, gCons_e, gTp_e, wipe0, wipeS, tYesD_e, sNil_e, sExpr_e, sRet_e, sRaise_e, sIf_e, sAsg_e, asF_e, sFor_e, endF_r, endF_n, endF_x, asO_s, fRg1_e, sFrz_e, gIx_t0, gIx_t1, gIx_t2, gIx_l0, gIx_l1, gIx_l2, Option.map_some, Option.bind_some, List.set_cons_succ, List.set_cons_zero, List.getElem?_cons_succ, List.getElem?_cons_zero, Bool.not_true, Bool.not_false, Bool.false_eq_true, ↓reduceIte, List.length_cons, List.length_nil, List.map_cons, List.map_nil, Nat.reduceAdd, Nat.reduceLeDiff, Nat.reduceLT, Bool.true_and, Bool.and_true, Bool.false_and, Bool.and_false, List.length_map, Nat.zero_le]) (by omega) fun f hf => ?_]
    · congr 2
      clear hbo l3
      induction bo with
      | nil => rfl
      | cons f fs ih => rw [List.filterMap_cons, List.filter_cons, ih]; cases cSees b s f <;> rfl
    · obtain ⟨y, hy⟩ := get_some (hbo.1 f hf)
      unfold cSees
      rw [sown_e hx, sat_e hx, fat_e hy]
      simp only [lcOne, bnd_ok, bnd_err, then_ok, then_err, fVar0, fVarS, fC_e, fOp_e, fUn_e, asB_e, asI_e, fT_e, fAnd_e, fOr_e, fNot_e, fAndV_e, fOrV_e, fNotV_e, fIf_e, fChain_e, aNil_e, aCons_e, fTup_e, fLst_e, fCall_e, dTup_e, dLst_e, gAdd_i, gSub_i, gNeg_i, gEq_i, gNe_i, gLt_i, gLe_i, gGt_i, gGe_i, gIsN_e, gNotN_e, isN_n, isN_i, isN_t, isN_l, isN_b, gIsi_e, tyD_n, tyD_i, tyD_t, tyD_l, tyD_b, tyD_s, isaT_ii, isaT_bi, isaT_ib, isaT_bb, isaT_tt, isaT_ll, isaT_tb, isaT_ti, isaT_it, isaT_bt, isaT_lt, isaT_nt, isaT_st, gLen_l, gLen_t, gOne_l, gTuple_l, gTuple_t, gInt_b, gMin2_e, gMax2_e, fIt_e, items_l, items_t, fItA_e, gEnum_e, gZip_t, gNm0, gNmS, gNil_e, gCons_e, gTp_e, wipe0, wipeS, tYesD_e, sNil_e, sExpr_e, sRet_e, sRaise_e, sIf_e, sAsg_e, asF_e, sFor_e, endF_r, endF_n, endF_x, asO_s, fRg1_e, sFrz_e, gIx_t0, gIx_t1, gIx_t2, gIx_l0, gIx_l1, gIx_l2, Option.map_some, Option.bind_some, List.set_cons_succ, List.set_cons_zero, List.getElem?_cons_succ, List.getElem?_cons_zero, Bool.not_true, Bool.not_false, Bool.false_eq_true, ↓reduceIte, List.length_cons, List.length_nil, List.map_cons, List.map_nil, Nat.reduceAdd, Nat.reduceLeDiff, Nat.reduceLT, Bool.true_and, Bool.and_true, Bool.false_and, Bool.and_false, List.length_map, Nat.zero_le, gIn_t, gIx_map nD b.F f y hy, Int.ofNat_le]
      cases x.own.contains f with
      | false => simp only [bnd_ok, bnd_err, then_ok, then_err, fVar0, fVarS, fC_e, fOp_e, fUn_e, asB_e, asI_e, fT_e, fAnd_e, fOr_e, fNot_e, fAndV_e, fOrV_e, fNotV_e, fIf_e, fChain_e, aNil_e, aCons_e, fTup_e, fLst_e, fCall_e, dTup_e, dLst_e, gAdd_i, gSub_i, gNeg_i, gEq_i, gNe_i, gLt_i, gLe_i, gGt_i, gGe_i, gIsN_e, gNotN_e, isN_n, isN_i, isN_t, isN_l, isN_b, gIsi_e, tyD_n, tyD_i, tyD_t, tyD_l, tyD_b, tyD_s, isaT_ii, isaT_bi, isaT_ib, isaT_bb, isaT_tt, isaT_ll, isaT_tb, isaT_ti, isaT_it, isaT_bt, isaT_lt, isaT_nt, isaT_st, gLen_l, gLen_t, gOne_l, gTuple_l, gTuple_t, gInt_b, gMin2_e, gMax2_e, fIt_e, items_l, items_t, fItA_e, gEnum_e, gZip_t, gNm0, gNmS, gNil_e, gCons_e, gTp_e, wipe0, wipeS, tYesD_e, sNil_e, sExpr_e, sRet_e, sRaise_e, sIf_e, sAsg_e, asF_e, sFor_e, endF_r, endF_n, endF_x, asO_s, fRg1_e, sFrz_e, gIx_t0, gIx_t1, gIx_t2, gIx_l0, gIx_l1, gIx_l2, Option.map_some, Option.bind_some, List.set_cons_succ, List.set_cons_zero, List.getElem?_cons_succ, List.getElem?_cons_zero, Bool.not_true, Bool.not_false, Bool.false_eq_true, ↓reduceIte, List.length_cons, List.length_nil, List.map_cons, List.map_nil, Nat.reduceAdd, Nat.reduceLeDiff, Nat.reduceLT, Bool.true_and, Bool.and_true, Bool.false_and, Bool.and_false, List.length_map, Nat.zero_le]
      | true =>
        simp only [bnd_ok, bnd_err, then_ok, then_err, fVar0, fVarS, fC_e, fOp_e, fUn_e, asB_e, asI_e, fT_e, fAnd_e, fOr_e, fNot_e, fAndV_e, fOrV_e, fNotV_e, fIf_e, fChain_e, aNil_e, aCons_e, fTup_e, fLst_e, fCall_e, dTup_e, dLst_e, gAdd_i, gSub_i, gNeg_i, gEq_i, gNe_i, gLt_i, gLe_i, gGt_i, gGe_i, gIsN_e, gNotN_e, isN_n, isN_i, isN_t, isN_l, isN_b, gIsi_e, tyD_n, tyD_i, tyD_t, tyD_l, tyD_b, tyD_s, isaT_ii, isaT_bi, isaT_ib, isaT_bb, isaT_tt, isaT_ll, isaT_tb, isaT_ti, isaT_it, isaT_bt, isaT_lt, isaT_nt, isaT_st, gLen_l, gLen_t, gOne_l, gTuple_l, gTuple_t, gInt_b, gMin2_e, gMax2_e, fIt_e, items_l, items_t, fItA_e, gEnum_e, gZip_t, gNm0, gNmS, gNil_e, gCons_e, gTp_e, wipe0, wipeS, tYesD_e, sNil_e, sExpr_e, sRet_e, sRaise_e, sIf_e, sAsg_e, asF_e, sFor_e, endF_r, endF_n, endF_x, asO_s, fRg1_e, sFrz_e, gIx_t0, gIx_t1, gIx_t2, gIx_l0, gIx_l1, gIx_l2, Option.map_some, Option.bind_some, List.set_cons_succ, List.set_cons_zero, List.getElem?_cons_succ, List.getElem?_cons_zero, Bool.not_true, Bool.not_false, Bool.false_eq_true, ↓reduceIte, List.length_cons, List.length_nil, List.map_cons, List.map_nil, Nat.reduceAdd, Nat.reduceLeDiff, Nat.reduceLT, Bool.true_and, Bool.and_true, Bool.false_and, Bool.and_false, List.length_map, Nat.zero_le]
        cases decide (y ≤ x.at_) <;> rfl
  cases spot with
  | some s0 => simp only [bnd_ok, bnd_err, then_ok, then_err, fVar0, fVarS, fC_e, fOp_e, fUn_e, asB_e, asI_e, fT_e, fAnd_e, fOr_e, fNot_e, fAndV_e, fOrV_e, fNotV_e, fIf_e, fChain_e, aNil_e, aCons_e, fTup_e, fLst_e, fCall_e, dTup_e, dLst_e, gAdd_i, gSub_i, gNeg_i, gEq_i, gNe_i, gLt_i, gLe_i, gGt_i, gGe_i, gIsN_e, gNotN_e, isN_n, isN_i, isN_t, isN_l, isN_b, gIsi_e, tyD_n, tyD_i, tyD_t, tyD_l, tyD_b, tyD_s, isaT_ii, isaT_bi, isaT_ib, isaT_bb, isaT_tt, isaT_ll, isaT_tb, isaT_ti, isaT_it, isaT_bt, isaT_lt, isaT_nt, isaT_st, gLen_l, gLen_t, gOne_l, gTuple_l, gTuple_t, gInt_b, gMin2_e, gMax2_e, fIt_e, items_l, items_t, fItA_e, gEnum_e, gZip_t, gNm0, gNmS, gNil_e, gCons_e, gTp_e, wipe0, wipeS, tYesD_e, sNil_e, sExpr_e, sRet_e, sRaise_e, sIf_e, sAsg_e, asF_e, sFor_e, endF_r, endF_n, endF_x, asO_s, fRg1_e, sFrz_e, gIx_t0, gIx_t1, gIx_t2, gIx_l0, gIx_l1, gIx_l2, Option.map_some, Option.bind_some, List.set_cons_succ, List.set_cons_zero, List.getElem?_cons_succ, List.getElem?_cons_zero, Bool.not_true, Bool.not_false, Bool.false_eq_true, ↓reduceIte, List.length_cons, List.length_nil, List.map_cons, List.map_nil, Nat.reduceAdd, Nat.reduceLeDiff, Nat.reduceLT, Bool.true_and, Bool.and_true, Bool.false_and, Bool.and_false, List.length_map, Nat.zero_le, oS, Option.or]
  | none =>
    have c1 : (((x.at_ : Nat) : Int) == ((p : Nat) : Int)) = (sat b s == p) := by
      rw [sat_e hx]
      by_cases h : x.at_ = p
      · rw [h]; simp
      · have h1 : (((x.at_ : Nat) : Int) == ((p : Nat) : Int)) = false := by simp; omega
        have h2 : (x.at_ == p) = false := by simpa using h
        rw [h1, h2]
    simp only [bnd_ok, bnd_err, then_ok, then_err, fVar0, fVarS, fC_e, fOp_e, fUn_e, asB_e, asI_e, fT_e, fAnd_e, fOr_e, fNot_e, fAndV_e, fOrV_e, fNotV_e, fIf_e, fChain_e, aNil_e, aCons_e, fTup_e, fLst_e, fCall_e, dTup_e, dLst_e, gAdd_i, gSub_i, gNeg_i, gEq_i, gNe_i, gLt_i, gLe_i, gGt_i, gGe_i, gIsN_e, gNotN_e, isN_n, isN_i, isN_t, isN_l, isN_b, gIsi_e, tyD_n, tyD_i, tyD_t, tyD_l, tyD_b, tyD_s, isaT_ii, isaT_bi, isaT_ib, isaT_bb, isaT_tt, isaT_ll, isaT_tb, isaT_ti, isaT_it, isaT_bt, isaT_lt, isaT_nt, isaT_st, gLen_l, gLen_t, gOne_l, gTuple_l, gTuple_t, gInt_b, gMin2_e, gMax2_e, fIt_e, items_l, items_t, fItA_e, gEnum_e, gZip_t, gNm0, gNmS, gNil_e, gCons_e, gTp_e, wipe0, wipeS, tYesD_e, sNil_e, sExpr_e, sRet_e, sRaise_e, sIf_e, sAsg_e, asF_e, sFor_e, endF_r, endF_n, endF_x, asO_s, fRg1_e, sFrz_e, gIx_t0, gIx_t1, gIx_t2, gIx_l0, gIx_l1, gIx_l2, Option.map_some, Option.bind_some, List.set_cons_succ, List.set_cons_zero, List.getElem?_cons_succ, List.getElem?_cons_zero, Bool.not_true, Bool.not_false, Bool.false_eq_true, ↓reduceIte, List.length_cons, List.length_nil, List.map_cons, List.map_nil, Nat.reduceAdd, Nat.reduceLeDiff, Nat.reduceLT, Bool.true_and, Bool.and_true, Bool.false_and, Bool.and_false, List.length_map, Nat.zero_le, oS, Option.none_or, c1, gNotIn_t]
    unfold candS
    cases sat b s == p with
    | false => simp only [bnd_ok, bnd_err, then_ok, then_err, fVar0, fVarS, fC_e, fOp_e, fUn_e, asB_e, asI_e, fT_e, fAnd_e, fOr_e, fNot_e, fAndV_e, fOrV_e, fNotV_e, fIf_e, fChain_e, aNil_e, aCons_e, fTup_e, fLst_e, fCall_e, dTup_e, dLst_e, gAdd_i, gSub_i, gNeg_i, gEq_i, gNe_i, gLt_i, gLe_i, gGt_i, gGe_i, gIsN_e, gNotN_e, isN_n, isN_i, isN_t, isN_l, isN_b, gIsi_e, tyD_n, tyD_i, tyD_t, tyD_l, tyD_b, tyD_s, isaT_ii, isaT_bi, isaT_ib, isaT_bb, isaT_tt, isaT_ll, isaT_tb, isaT_ti, isaT_it, isaT_bt, isaT_lt, isaT_nt, isaT_st, gLen_l, gLen_t, gOne_l, gTuple_l, gTuple_t, gInt_b, gMin2_e, gMax2_e, fIt_e, items_l, items_t, fItA_e, gEnum_e, gZip_t, gNm0, gNmS, gNil_e, gCons_e, gTp_e, wipe0, wipeS, tYesD_e, sNil_e, sExpr_e, sRet_e, sRaise_e, sIf_e, sAsg_e, asF_e, sFor_e, endF_r, endF_n, endF_x, asO_s, fRg1_e, sFrz_e, gIx_t0, gIx_t1, gIx_t2, gIx_l0, gIx_l1, gIx_l2, Option.map_some, Option.bind_some, List.set_cons_succ, List.set_cons_zero, List.getElem?_cons_succ, List.getElem?_cons_zero, Bool.not_true, Bool.not_false, Bool.false_eq_true, ↓reduceIte, List.length_cons, List.length_nil, List.map_cons, List.map_nil, Nat.reduceAdd, Nat.reduceLeDiff, Nat.reduceLT, Bool.true_and, Bool.and_true, Bool.false_and, Bool.and_false, List.length_map, Nat.zero_le]
    | true =>
      simp only [bnd_ok, bnd_err, then_ok, then_err, fVar0, fVarS, fC_e, fOp_e, fUn_e, asB_e, asI_e, fT_e, fAnd_e, fOr_e, fNot_e, fAndV_e, fOrV_e, fNotV_e, fIf_e, fChain_e, aNil_e, aCons_e, fTup_e, fLst_e, fCall_e, dTup_e, dLst_e, gAdd_i, gSub_i, gNeg_i, gEq_i, gNe_i, gLt_i, gLe_i, gGt_i, gGe_i, gIsN_e, gNotN_e, isN_n, isN_i, isN_t, isN_l, isN_b, gIsi_e, tyD_n, tyD_i, tyD_t, tyD_l, tyD_b, tyD_s, isaT_ii, isaT_bi, isaT_ib, isaT_bb, isaT_tt, isaT_ll, isaT_tb, isaT_ti, isaT_it, isaT_bt, isaT_lt, isaT_nt, isaT_st, gLen_l, gLen_t, gOne_l, gTuple_l, gTuple_t, gInt_b, gMin2_e, gMax2_e, fIt_e, items_l, items_t, fItA_e, gEnum_e, gZip_t, gNm0, gNmS, gNil_e, gCons_e, gTp_e, wipe0, wipeS, tYesD_e, sNil_e, sExpr_e, sRet_e, sRaise_e, sIf_e, sAsg_e, asF_e, sFor_e, endF_r, endF_n, endF_x, asO_s, fRg1_e, sFrz_e, gIx_t0, gIx_t1, gIx_t2, gIx_l0, gIx_l1, gIx_l2, Option.map_some, Option.bind_some, List.set_cons_succ, List.set_cons_zero, List.getElem?_cons_succ, List.getElem?_cons_zero, Bool.not_true, Bool.not_false, Bool.false_eq_true, ↓reduceIte, List.length_cons, List.length_nil, List.map_cons, List.map_nil, Nat.reduceAdd, Nat.reduceLeDiff, Nat.reduceLT, Bool.true_and, Bool.and_true, Bool.false_and, Bool.and_false, List.length_map, Nat.zero_le]
      cases sl.contains s with
      | true => simp only [bnd_ok, bnd_err, then_ok, then_err, fVar0, fVarS, fC_e, fOp_e, fUn_e, asB_e, asI_e, fT_e, fAnd_e, fOr_e, fNot_e, fAndV_e, fOrV_e, fNotV_e, fIf_e, fChain_e, aNil_e, aCons_e, fTup_e, fLst_e, fCall_e, dTup_e, dLst_e, gAdd_i, gSub_i, gNeg_i, gEq_i, gNe_i, gLt_i, gLe_i, gGt_i, gGe_i, gIsN_e, gNotN_e, isN_n, isN_i, isN_t, isN_l, isN_b, gIsi_e, tyD_n, tyD_i, tyD_t, tyD_l, tyD_b, tyD_s, isaT_ii, isaT_bi, isaT_ib, isaT_bb, isaT_tt, isaT_ll, isaT_tb, isaT_ti, isaT_it, isaT_bt, isaT_lt, isaT_nt, isaT_st, gLen_l, gLen_t, gOne_l, gTuple_l, gTuple_t, gInt_b, gMin2_e, gMax2_e, fIt_e, items_l, items_t, fItA_e, gEnum_e, gZip_t, gNm0, gNmS, gNil_e, gCons_e, gTp_e, wipe0, wipeS, tYesD_e, sNil_e, sExpr_e, sRet_e, sRaise_e, sIf_e, sAsg_e, asF_e, sFor_e, endF_r, endF_n, endF_x, asO_s, fRg1_e, sFrz_e, gIx_t0, gIx_t1, gIx_t2, gIx_l0, gIx_l1, gIx_l2, Option.map_some, Option.bind_some, List.set_cons_succ, List.set_cons_zero, List.getElem?_cons_succ, List.getElem?_cons_zero, Bool.not_true, Bool.not_false, Bool.false_eq_true, ↓reduceIte, List.length_cons, List.length_nil, List.map_cons, List.map_nil, Nat.reduceAdd, Nat.reduceLeDiff, Nat.reduceLT, Bool.true_and, Bool.and_true, Bool.false_and, Bool.and_false, List.length_map, Nat.zero_le]
      | false =>
        simp only [bnd_ok, bnd_err, then_ok, then_err, fVar0, fVarS, fC_e, fOp_e, fUn_e, asB_e, asI_e, fT_e, fAnd_e, fOr_e, fNot_e, fAndV_e, fOrV_e, fNotV_e, fIf_e, fChain_e, aNil_e, aCons_e, fTup_e, fLst_e, fCall_e, dTup_e, dLst_e, gAdd_i, gSub_i, gNeg_i, gEq_i, gNe_i, gLt_i, gLe_i, gGt_i, gGe_i, gIsN_e, gNotN_e, isN_n, isN_i, isN_t, isN_l, isN_b, gIsi_e, tyD_n, tyD_i, tyD_t, tyD_l, tyD_b, tyD_s, isaT_ii, isaT_bi, isaT_ib, isaT_bb, isaT_tt, isaT_ll, isaT_tb, isaT_ti, isaT_it, isaT_bt, isaT_lt, isaT_nt, isaT_st, gLen_l, gLen_t, gOne_l, gTuple_l, gTuple_t, gInt_b, gMin2_e, gMax2_e, fIt_e, items_l, items_t, fItA_e, gEnum_e, gZip_t, gNm0, gNmS, gNil_e, gCons_e, gTp_e, wipe0, wipeS, tYesD_e, sNil_e, sExpr_e, sRet_e, sRaise_e, sIf_e, sAsg_e, asF_e, sFor_e, endF_r, endF_n, endF_x, asO_s, fRg1_e, sFrz_e, gIx_t0, gIx_t1, gIx_t2, gIx_l0, gIx_l1, gIx_l2, Option.map_some, Option.bind_some, List.set_cons_succ, List.set_cons_zero, List.getElem?_cons_succ, List.getElem?_cons_zero, Bool.not_true, Bool.not_false, Bool.false_eq_true, ↓reduceIte, List.length_cons, List.length_nil, List.map_cons, List.map_nil, Nat.reduceAdd, Nat.reduceLeDiff, Nat.reduceLT, Bool.true_and, Bool.and_true, Bool.false_and, Bool.and_false, List.length_map, Nat.zero_le, hl, ne_nil (lay_ns _)]
        have e : (!((bo.filter (cSees b s)).map nD).isEmpty) = bo.any (cSees b s) := by rw [List.isEmpty_map]; exact any_filter _ _
        rw [e]
        cases bo.any (cSees b s) <;> simp only [bnd_ok, bnd_err, then_ok, then_err, fVar0, fVarS, fC_e, fOp_e, fUn_e, asB_e, asI_e, fT_e, fAnd_e, fOr_e, fNot_e, fAndV_e, fOrV_e, fNotV_e, fIf_e, fChain_e, aNil_e, aCons_e, fTup_e, fLst_e, fCall_e, dTup_e, dLst_e, gAdd_i, gSub_i, gNeg_i, gEq_i, gNe_i, gLt_i, gLe_i, gGt_i, gGe_i, gIsN_e, gNotN_e, isN_n, isN_i, isN_t, isN_l, isN_b, gIsi_e, tyD_n, tyD_i, tyD_t, tyD_l, tyD_b, tyD_s, isaT_ii, isaT_bi, isaT_ib, isaT_bb, isaT_tt, isaT_ll, isaT_tb, isaT_ti, isaT_it, isaT_bt, isaT_lt, isaT_nt, isaT_st, gLen_l, gLen_t, gOne_l, gTuple_l, gTuple_t, gInt_b, gMin2_e, gMax2_e, fIt_e, items_l, items_t, fItA_e, gEnum_e, gZip_t, gNm0, gNmS, gNil_e, gCons_e, gTp_e, wipe0, wipeS, tYesD_e, sNil_e, sExpr_e, sRet_e, sRaise_e, sIf_e, sAsg_e, asF_e, sFor_e, endF_r, endF_n, endF_x, asO_s, fRg1_e, sFrz_e, gIx_t0, gIx_t1, gIx_t2, gIx_l0, gIx_l1, gIx_l2, Option.map_some, Option.bind_some, List.set_cons_succ, List.set_cons_zero, List.getElem?_cons_succ, List.getElem?_cons_zero, Bool.not_true, Bool.not_false, Bool.false_eq_true, ↓reduceIte, List.length_cons, List.length_nil, List.map_cons, List.map_nil, Nat.reduceAdd, Nat.reduceLeDiff, Nat.reduceLT, Bool.true_and, Bool.and_true, Bool.false_and, Bool.and_false, List.length_map, Nat.zero_le]

theorem find_snoc {α : Type} (p : α → Bool) (xs : List α) (x : α) : (xs ++ [x]).find? p = (xs.find? p).or (if p x = true then some x else none) := by
  rw [List.find?_append, List.find?_cons]
  cases p x <;> rfl
theorem lo0_loop {b : Belt} {ss bo sl : List Nat} (hb : b.Ok) (hbo : Rise b.F.length bo) (hss : ∀ s ∈ ss, s < b.S.length) (pl : D) (p : Nat) (spot : Option Nat) (j6 j7 j8 j9 j10 : Slot) :
    ∃ k6 k7 k8 k9 : Slot, forLoop (gNm 6) l_law_out_0 (ss.map nD) [.dat (eB b), .dat pl, .dat (tN bo), .dat (tN sl), oS spot, .dat (nD p), j6, j7, j8, j9, j10] = .next [.dat (eB b), .dat pl, .dat (tN bo), .dat (tN sl), oS (scan b ss bo sl p spot), .dat (nD p), k6, k7, k8, k9, j10] := by
  obtain ⟨ρ, h1, k6, k7, k8, k9, rfl⟩ := for_inv nD (gt := gNm 6) (body := l_law_out_0)
    (fun pre ρ => ∃ k6 k7 k8 k9 : Slot, ρ = [.dat (eB b), .dat pl, .dat (tN bo), .dat (tN sl), oS (scan b pre bo sl p spot), .dat (nD p), k6, k7, k8, k9, j10]) ss (fun pre s post ρ e ⟨k6, k7, k8, k9, hρ⟩ => by
      subst hρ
      obtain ⟨i7, i8, i9, h⟩ := lo0_e (sl := sl) hb hbo pl p s (hss s (by rw [e]; simp)) (scan b pre bo sl p spot) k7 k8 k9 j10
      refine ⟨_, forOne_n (by simp only [bnd_ok, bnd_err, then_ok, then_err, fVar0, fVarS, fC_e, fOp_e, fUn_e, asB_e, asI_e, fT_e, fAnd_e, fOr_e, fNot_e, fAndV_e, fOrV_e, fNotV_e, fIf_e, fChain_e, aNil_e, aCons_e, fTup_e, fLst_e, fCall_e, dTup_e, dLst_e, gAdd_i, gSub_i, gNeg_i, gEq_i, gNe_i, gLt_i, gLe_i, gGt_i, gGe_i, gIsN_e, gNotN_e, isN_n, isN_i, isN_t, isN_l, isN_b, gIsi_e, tyD_n, tyD_i, tyD_t, tyD_l, tyD_b, tyD_s, isaT_ii, isaT_bi, isaT_ib, isaT_bb, isaT_tt, isaT_ll, isaT_tb, isaT_ti, isaT_it, isaT_bt, isaT_lt, isaT_nt, isaT_st, gLen_l, gLen_t, gOne_l, gTuple_l, gTuple_t, gInt_b, gMin2_e, gMax2_e, fIt_e, items_l, items_t, fItA_e, gEnum_e, gZip_t, gNm0, gNmS, gNil_e, gCons_e, gTp_e, wipe0, wipeS, tYesD_e, sNil_e, sExpr_e, sRet_e, sRaise_e, sIf_e, sAsg_e, asF_e, sFor_e, endF_r, endF_n, endF_x, asO_s, fRg1_e, sFrz_e, gIx_t0, gIx_t1, gIx_t2, gIx_l0, gIx_l1, gIx_l2, Option.map_some, Option.bind_some, List.set_cons_succ, List.set_cons_zero, List.getElem?_cons_succ, List.getElem?_cons_zero, Bool.not_true, Bool.not_false, Bool.false_eq_true, ↓reduceIte, List.length_cons, List.length_nil, List.map_cons, List.map_nil, Nat.reduceAdd, Nat.reduceLeDiff, Nat.reduceLT, Bool.true_and, Bool.and_true, Bool.false_and, Bool.and_false, List.length_map, Nat.zero_le]) h, .dat (nD s), i7, i8, i9, ?_⟩
      unfold scan
      rw [find_snoc, Option.or_assoc]) (ρ := [.dat (eB b), .dat pl, .dat (tN bo), .dat (tN sl), oS spot, .dat (nD p), j6, j7, j8, j9, j10]) ⟨j6, j7, j8, j9, by unfold scan; rw [List.find?_nil, Option.or_none]⟩
  exact ⟨k6, k7, k8, k9, h1⟩
theorem findSome_find {α β : Type} (p : α → Bool) (f : α → β) : ∀ xs : List α, (xs.findSome? fun x => if p x = true then some (f x) else none) = (xs.find? p).map f
  | [] => rfl
  | x :: xs => by
    rw [List.findSome?_cons, List.find?_cons]
    cases h : p x with
    | true => rfl
    | false => exact findSome_find p f xs
theorem natbeq (a b : Nat) : ((a : Int) == (b : Int)) = (a == b) := by
  by_cases h : a = b
  · rw [h]; simp
  · have h1 : ((a : Int) == (b : Int)) = false := by simp; omega
    have h2 : (a == b) = false := by simpa using h
    rw [h1, h2]
theorem lo1_loop {b : Belt} {ks : List Nat} (hks : ∀ k ∈ ks, k < b.K.length) (pl x2 x3 : D) (p : Nat) (spot : Option Nat) (j6 j7 j8 j9 j10 : Slot) :
    match kick b ks p spot with
    | some r => forLoop (gNm 6) l_law_out_1 (ks.map nD) [.dat (eB b), .dat pl, .dat x2, .dat x3, oS spot, .dat (nD p), j6, j7, j8, j9, j10] = .ret (eK r)
    | none => ∃ k6 : Slot, forLoop (gNm 6) l_law_out_1 (ks.map nD) [.dat (eB b), .dat pl, .dat x2, .dat x3, oS spot, .dat (nD p), j6, j7, j8, j9, j10] = .next [.dat (eB b), .dat pl, .dat x2, .dat x3, oS spot, .dat (nD p), k6, j7, j8, j9, j10] := by
  have L := for_find nD (gt := gNm 6) (body := l_law_out_1) (fun ρ => ∃ k6, ρ = [.dat (eB b), .dat pl, .dat x2, .dat x3, oS spot, .dat (nD p), k6, j7, j8, j9, j10])
    (fun k => spot.bind fun s => if (kat b k == p) = true then some (eK (s, k)) else none) ks (fun k hk ρ ⟨k6, hρ⟩ => by
      subst hρ
      obtain ⟨x, hx⟩ := get_some (hks k hk)
      cases spot with
      | none =>
        refine ⟨_, forOne_n (by simp only [bnd_ok, bnd_err, then_ok, then_err, fVar0, fVarS, fC_e, fOp_e, fUn_e, asB_e, asI_e, fT_e, fAnd_e, fOr_e, fNot_e, fAndV_e, fOrV_e, fNotV_e, fIf_e, fChain_e, aNil_e, aCons_e, fTup_e, fLst_e, fCall_e, dTup_e, dLst_e, gAdd_i, gSub_i, gNeg_i, gEq_i, gNe_i, gLt_i, gLe_i, gGt_i, gGe_i, gIsN_e, gNotN_e, isN_n, isN_i, isN_t, isN_l, isN_b, gIsi_e, tyD_n, tyD_i, tyD_t, tyD_l, tyD_b, tyD_s, isaT_ii, isaT_bi, isaT_ib, isaT_bb, isaT_tt, isaT_ll, isaT_tb, isaT_ti, isaT_it, isaT_bt, isaT_lt, isaT_nt, isaT_st, gLen_l, gLen_t, gOne_l, gTuple_l, gTuple_t, gInt_b, gMin2_e, gMax2_e, fIt_e, items_l, items_t, fItA_e, gEnum_e, gZip_t, gNm0, gNmS, gNil_e, gCons_e, gTp_e, wipe0, wipeS, tYesD_e, sNil_e, sExpr_e, sRet_e, sRaise_e, sIf_e, sAsg_e, asF_e, sFor_e, endF_r, endF_n, endF_x, asO_s, fRg1_e, sFrz_e, gIx_t0, gIx_t1, gIx_t2, gIx_l0, gIx_l1, gIx_l2, Option.map_some, Option.bind_some, List.set_cons_succ, List.set_cons_zero, List.getElem?_cons_succ, List.getElem?_cons_zero, Bool.not_true, Bool.not_false, Bool.false_eq_true, ↓reduceIte, List.length_cons, List.length_nil, List.map_cons, List.map_nil, Nat.reduceAdd, Nat.reduceLeDiff, Nat.reduceLT, Bool.true_and, Bool.and_true, Bool.false_and, Bool.and_false, List.length_map, Nat.zero_le]; rfl) ?_, .dat (nD k), rfl⟩
        unfold l_law_out_1
        simp only [bnd_ok, bnd_err, then_ok, then_err, fVar0, fVarS, fC_e, fOp_e, fUn_e, asB_e, asI_e, fT_e, fAnd_e, fOr_e, fNot_e, fAndV_e, fOrV_e, fNotV_e, fIf_e, fChain_e, aNil_e, aCons_e, fTup_e, fLst_e, fCall_e, dTup_e, dLst_e, gAdd_i, gSub_i, gNeg_i, gEq_i, gNe_i, gLt_i, gLe_i, gGt_i, gGe_i, gIsN_e, gNotN_e, isN_n, isN_i, isN_t, isN_l, isN_b, gIsi_e, tyD_n, tyD_i, tyD_t, tyD_l, tyD_b, tyD_s, isaT_ii, isaT_bi, isaT_ib, isaT_bb, isaT_tt, isaT_ll, isaT_tb, isaT_ti, isaT_it, isaT_bt, isaT_lt, isaT_nt, isaT_st, gLen_l, gLen_t, gOne_l, gTuple_l, gTuple_t, gInt_b, gMin2_e, gMax2_e, fIt_e, items_l, items_t, fItA_e, gEnum_e, gZip_t, gNm0, gNmS, gNil_e, gCons_e, gTp_e, wipe0, wipeS, tYesD_e, sNil_e, sExpr_e, sRet_e, sRaise_e, sIf_e, sAsg_e, asF_e, sFor_e, endF_r, endF_n, endF_x, asO_s, fRg1_e, sFrz_e, gIx_t0, gIx_t1, gIx_t2, gIx_l0, gIx_l1, gIx_l2, Option.map_some, Option.bind_some, List.set_cons_succ, List.set_cons_zero, List.getElem?_cons_succ, List.getElem?_cons_zero, Bool.not_true, Bool.not_false, Bool.false_eq_true, ↓reduceIte, List.length_cons, List.length_nil, List.map_cons, List.map_nil, Nat.reduceAdd, Nat.reduceLeDiff, Nat.reduceLT, Bool.true_and, Bool.and_true, Bool.false_and, Bool.and_false, List.length_map, Nat.zero_le, oS]
      | some s =>
        rw [Option.bind_some, kat_e hx]
        cases hp : x.1 == p with
        | true =>
          rw [if_pos rfl]
          refine forOne_r (by simp only [bnd_ok, bnd_err, then_ok, then_err, fVar0, fVarS, fC_e, fOp_e, fUn_e, asB_e, asI_e, fT_e, fAnd_e, fOr_e, fNot_e, fAndV_e, fOrV_e, fNotV_e, fIf_e, fChain_e, aNil_e, aCons_e, fTup_e, fLst_e, fCall_e, dTup_e, dLst_e, gAdd_i, gSub_i, gNeg_i, gEq_i, gNe_i, gLt_i, gLe_i, gGt_i, gGe_i, gIsN_e, gNotN_e, isN_n, isN_i, isN_t, isN_l, isN_b, gIsi_e, tyD_n, tyD_i, tyD_t, tyD_l, tyD_b, tyD_s, isaT_ii, isaT_bi, isaT_ib, isaT_bb, isaT_tt, isaT_ll, isaT_tb, isaT_ti, isaT_it, isaT_bt, isaT_lt, isaT_nt, isaT_st, gLen_l, gLen_t, gOne_l, gTuple_l, gTuple_t, gInt_b, gMin2_e, gMax2_e, fIt_e, items_l, items_t, fItA_e, gEnum_e, gZip_t, gNm0, gNmS, gNil_e, gCons_e, gTp_e, wipe0, wipeS, tYesD_e, sNil_e, sExpr_e, sRet_e, sRaise_e, sIf_e, sAsg_e, asF_e, sFor_e, endF_r, endF_n, endF_x, asO_s, fRg1_e, sFrz_e, gIx_t0, gIx_t1, gIx_t2, gIx_l0, gIx_l1, gIx_l2, Option.map_some, Option.bind_some, List.set_cons_succ, List.set_cons_zero, List.getElem?_cons_succ, List.getElem?_cons_zero, Bool.not_true, Bool.not_false, Bool.false_eq_true, ↓reduceIte, List.length_cons, List.length_nil, List.map_cons, List.map_nil, Nat.reduceAdd, Nat.reduceLeDiff, Nat.reduceLT, Bool.true_and, Bool.and_true, Bool.false_and, Bool.and_false, List.length_map, Nat.zero_le]; rfl) ?_
          unfold l_law_out_1
          simp only [bnd_ok, bnd_err, then_ok, then_err, fVar0, fVarS, fC_e, fOp_e, fUn_e, asB_e, asI_e, fT_e, fAnd_e, fOr_e, fNot_e, fAndV_e, fOrV_e, fNotV_e, fIf_e, fChain_e, aNil_e, aCons_e, fTup_e, fLst_e, fCall_e, dTup_e, dLst_e, gAdd_i, gSub_i, gNeg_i, gEq_i, gNe_i, gLt_i, gLe_i, gGt_i, gGe_i, gIsN_e, gNotN_e, isN_n, isN_i, isN_t, isN_l, isN_b, gIsi_e, tyD_n, tyD_i, tyD_t, tyD_l, tyD_b, tyD_s, isaT_ii, isaT_bi, isaT_ib, isaT_bb, isaT_tt, isaT_ll, isaT_tb, isaT_ti, isaT_it, isaT_bt, isaT_lt, isaT_nt, isaT_st, gLen_l, gLen_t, gOne_l, gTuple_l, gTuple_t, gInt_b, gMin2_e, gMax2_e, fIt_e, items_l, items_t, fItA_e, gEnum_e, gZip_t, gNm0, gNmS, gNil_e, gCons_e, gTp_e, wipe0, wipeS, tYesD_e, sNil_e, sExpr_e, sRet_e, sRaise_e, sIf_e, sAsg_e, asF_e, sFor_e, endF_r, endF_n, endF_x, asO_s, fRg1_e, sFrz_e, gIx_t0, gIx_t1, gIx_t2, gIx_l0, gIx_l1, gIx_l2, Option.map_some, Option.bind_some, List.set_cons_succ, List.set_cons_zero, List.getElem?_cons_succ, List.getElem?_cons_zero, Bool.not_true, Bool.not_false, Bool.false_eq_true, ↓reduceIte, List.length_cons, List.length_nil, List.map_cons, List.map_nil, Nat.reduceAdd, Nat.reduceLeDiff, Nat.reduceLT, Bool.true_and, Bool.and_true, Bool.false_and, Bool.and_false, List.length_map, Nat.zero_le, oS, gIx_map eK b.K k x hx, natbeq, hp]
        | false =>
          rw [if_neg (by decide)]
          refine ⟨_, forOne_n (by simp only [bnd_ok, bnd_err, then_ok, then_err, fVar0, fVarS, fC_e, fOp_e, fUn_e, asB_e, asI_e, fT_e, fAnd_e, fOr_e, fNot_e, fAndV_e, fOrV_e, fNotV_e, fIf_e, fChain_e, aNil_e, aCons_e, fTup_e, fLst_e, fCall_e, dTup_e, dLst_e, gAdd_i, gSub_i, gNeg_i, gEq_i, gNe_i, gLt_i, gLe_i, gGt_i, gGe_i, gIsN_e, gNotN_e, isN_n, isN_i, isN_t, isN_l, isN_b, gIsi_e, tyD_n, tyD_i, tyD_t, tyD_l, tyD_b, tyD_s, isaT_ii, isaT_bi, isaT_ib, isaT_bb, isaT_tt, isaT_ll, isaT_tb, isaT_ti, isaT_it, isaT_bt, isaT_lt, isaT_nt, isaT_st, gLen_l, gLen_t, gOne_l, gTuple_l, gTuple_t, gInt_b, gMin2_e, gMax2_e, fIt_e, items_l, items_t, fItA_e, gEnum_e, gZip_t, gNm0, gNmS, gNil_e, gCons_e, gTp_e, wipe0, wipeS, tYesD_e, sNil_e, sExpr_e, sRet_e, sRaise_e, sIf_e, sAsg_e, asF_e, sFor_e, endF_r, endF_n, endF_x, asO_s, fRg1_e, sFrz_e, gIx_t0, gIx_t1, gIx_t2, gIx_l0, gIx_l1, gIx_l2, Option.map_some, Option.bind_some, List.set_cons_succ, List.set_cons_zero, List.getElem?_cons_succ, List.getElem?_cons_zero, Bool.not_true, Bool.not_false, Bool.false_eq_true, ↓reduceIte, List.length_cons, List.length_nil, List.map_cons, List.map_nil, Nat.reduceAdd, Nat.reduceLeDiff, Nat.reduceLT, Bool.true_and, Bool.and_true, Bool.false_and, Bool.and_false, List.length_map, Nat.zero_le]; rfl) ?_, .dat (nD k), rfl⟩
          unfold l_law_out_1
          simp only [bnd_ok, bnd_err, then_ok, then_err, fVar0, fVarS, fC_e, fOp_e, fUn_e, asB_e, asI_e, fT_e, fAnd_e, fOr_e, fNot_e, fAndV_e, fOrV_e, fNotV_e, fIf_e, fChain_e, aNil_e, aCons_e, fTup_e, fLst_e, fCall_e, dTup_e, dLst_e, gAdd_i, gSub_i, gNeg_i, gEq_i, gNe_i, gLt_i, gLe_i, gGt_i, gGe_i, gIsN_e, gNotN_e, isN_n, isN_i, isN_t, isN_l, isN_b, gIsi_e, tyD_n, tyD_i, tyD_t, tyD_l, tyD_b, tyD_s, isaT_ii, isaT_bi, isaT_ib, isaT_bb, isaT_tt, isaT_ll, isaT_tb, isaT_ti, isaT_it, isaT_bt, isaT_lt, isaT_nt, isaT_st, gLen_l, gLen_t, gOne_l, gTuple_l, gTuple_t, gInt_b, gMin2_e, gMax2_e, fIt_e, items_l, items_t, fItA_e, gEnum_e, gZip_t, gNm0, gNmS, gNil_e, gCons_e, gTp_e, wipe0, wipeS, tYesD_e, sNil_e, sExpr_e, sRet_e, sRaise_e, sIf_e, sAsg_e, asF_e, sFor_e, endF_r, endF_n, endF_x, asO_s, fRg1_e, sFrz_e, gIx_t0, gIx_t1, gIx_t2, gIx_l0, gIx_l1, gIx_l2, Option.map_some, Option.bind_some, List.set_cons_succ, List.set_cons_zero, List.getElem?_cons_succ, List.getElem?_cons_zero, Bool.not_true, Bool.not_false, Bool.false_eq_true, ↓reduceIte, List.length_cons, List.length_nil, List.map_cons, List.map_nil, Nat.reduceAdd, Nat.reduceLeDiff, Nat.reduceLT, Bool.true_and, Bool.and_true, Bool.false_and, Bool.and_false, List.length_map, Nat.zero_le, oS, gIx_map eK b.K k x hx, natbeq, hp]) (ρ := [.dat (eB b), .dat pl, .dat x2, .dat x3, oS spot, .dat (nD p), j6, j7, j8, j9, j10]) ⟨j6, rfl⟩
  have e : (ks.findSome? fun k => spot.bind fun s => if (kat b k == p) = true then some (eK (s, k)) else none) = (kick b ks p spot).map eK := by
    unfold kick
    cases spot with
    | none =>
      show ks.findSome? (fun _ => none) = none
      exact List.findSome?_eq_none_iff.mpr fun _ _ => rfl
    | some s =>
      show (ks.findSome? fun k => if (kat b k == p) = true then some (eK (s, k)) else none) = ((ks.find? fun k => kat b k == p).map fun k => (s, k)).map eK
      rw [findSome_find (fun k => kat b k == p), Option.map_map]
      rfl
  rw [e] at L
  cases hk : kick b ks p spot with
  | some r => rw [hk] at L; exact L
  | none =>
    rw [hk] at L
    obtain ⟨ρ', h1, k6, rfl⟩ := L
    exact ⟨k6, h1⟩
theorem lo_loop {b : Belt} {ss ks bo sl : List Nat} (hb : b.Ok) (hbo : Rise b.F.length bo) (hss : ∀ s ∈ ss, s < b.S.length) (hks : ∀ k ∈ ks, k < b.K.length) : ∀ (n p : Nat) (spot : Option Nat) (j5 j6 j7 j8 j9 j10 : Slot),
    match goOut b ss ks bo sl n p spot with
    | some r => forLoop (gNm 5) l_law_out_2 ((List.range' p n).map nD) [.dat (eB b), .dat (eP ss ks), .dat (tN bo), .dat (tN sl), oS spot, j5, j6, j7, j8, j9, j10] = .ret (eK r)
    | none => ∃ ρ', forLoop (gNm 5) l_law_out_2 ((List.range' p n).map nD) [.dat (eB b), .dat (eP ss ks), .dat (tN bo), .dat (tN sl), oS spot, j5, j6, j7, j8, j9, j10] = .next ρ' := by
  intro n
  induction n with
  | zero =>
    intro p spot j5 j6 j7 j8 j9 j10
    exact ⟨_, rfl⟩
  | succ n ih =>
    intro p spot j5 j6 j7 j8 j9 j10
    obtain ⟨k6, k7, k8, k9, h0⟩ := lo0_loop (ss := ss) (sl := sl) hb hbo hss (eP ss ks) p spot j6 j7 j8 j9 j10
    have h1 := lo1_loop (b := b) hks (eP ss ks) (tN bo) (tN sl) p (scan b ss bo sl p spot) k6 k7 k8 k9 j10
    have eg : goOut b ss ks bo sl (n + 1) p spot = (kick b ks p (scan b ss bo sl p spot)).or (goOut b ss ks bo sl n (p + 1) (scan b ss bo sl p spot)) := rfl
    rw [eg, List.range'_succ, List.map_cons]
    cases hk : kick b ks p (scan b ss bo sl p spot) with
    | some r =>
      rw [hk] at h1
      refine forLoop_ret (forOne_r (ρ1 := [.dat (eB b), .dat (eP ss ks), .dat (tN bo), .dat (tN sl), oS spot, .dat (nD p), j6, j7, j8, j9, j10]) (by simp only [bnd_ok, bnd_err, then_ok, then_err, fVar0, fVarS, fC_e, fOp_e, fUn_e, asB_e, asI_e, fT_e, fAnd_e, fOr_e, fNot_e, fAndV_e, fOrV_e, fNotV_e, fIf_e, fChain_e, aNil_e, aCons_e, fTup_e, fLst_e, fCall_e, dTup_e, dLst_e, gAdd_i, gSub_i, gNeg_i, gEq_i, gNe_i, gLt_i, gLe_i, gGt_i, gGe_i, gIsN_e, gNotN_e, isN_n, isN_i, isN_t, isN_l, isN_b, gIsi_e, tyD_n, tyD_i, tyD_t, tyD_l, tyD_b, tyD_s, isaT_ii, isaT_bi, isaT_ib, isaT_bb, isaT_tt, isaT_ll, isaT_tb, isaT_ti, isaT_it, isaT_bt, isaT_lt, isaT_nt, isaT_st, gLen_l, gLen_t, gOne_l, gTuple_l, gTuple_t, gInt_b, gMin2_e, gMax2_e, fIt_e, items_l, items_t, fItA_e, gEnum_e, gZip_t, gNm0, gNmS, gNil_e, gCons_e, gTp_e, wipe0, wipeS, tYesD_e, sNil_e, sExpr_e, sRet_e, sRaise_e, sIf_e, sAsg_e, asF_e, sFor_e, endF_r, endF_n, endF_x, asO_s, fRg1_e, sFrz_e, gIx_t0, gIx_t1, gIx_t2, gIx_l0, gIx_l1, gIx_l2, Option.map_some, Option.bind_some, List.set_cons_succ, List.set_cons_zero, List.getElem?_cons_succ, List.getElem?_cons_zero, Bool.not_true, Bool.not_false, Bool.false_eq_true, ↓reduceIte, List.length_cons, List.length_nil, List.map_cons, List.map_nil, Nat.reduceAdd, Nat.reduceLeDiff, Nat.reduceLT, Bool.true_and, Bool.and_true, Bool.false_and, Bool.and_false, List.length_map, Nat.zero_le]) ?_)
      unfold l_law_out_2
      rw [sSeq_n (h := by simp only [bnd_ok, bnd_err, then_ok, then_err, fVar0, fVarS, fC_e, fOp_e, fUn_e, asB_e, asI_e, fT_e, fAnd_e, fOr_e, fNot_e, fAndV_e, fOrV_e, fNotV_e, fIf_e, fChain_e, aNil_e, aCons_e, fTup_e, fLst_e, fCall_e, dTup_e, dLst_e, gAdd_i, gSub_i, gNeg_i, gEq_i, gNe_i, gLt_i, gLe_i, gGt_i, gGe_i, gIsN_e, gNotN_e, isN_n, isN_i, isN_t, isN_l, isN_b, gIsi_e, tyD_n, tyD_i, tyD_t, tyD_l, tyD_b, tyD_s, isaT_ii, isaT_bi, isaT_ib, isaT_bb, isaT_tt, isaT_ll, isaT_tb, isaT_ti, isaT_it, isaT_bt, isaT_lt, isaT_nt, isaT_st, gLen_l, gLen_t, gOne_l, gTuple_l, gTuple_t, gInt_b, gMin2_e, gMax2_e, fIt_e, items_l, items_t, fItA_e, gEnum_e, gZip_t, gNm0, gNmS, gNil_e, gCons_e, gTp_e, wipe0, wipeS, tYesD_e, sNil_e, sExpr_e, sRet_e, sRaise_e, sIf_e, sAsg_e, asF_e, sFor_e, endF_r, endF_n, endF_x, asO_s, fRg1_e, sFrz_e, gIx_t0, gIx_t1, gIx_t2, gIx_l0, gIx_l1, gIx_l2, Option.map_some, Option.bind_some, List.set_cons_succ, List.set_cons_zero, List.getElem?_cons_succ, List.getElem?_cons_zero, Bool.not_true, Bool.not_false, Bool.false_eq_true, ↓reduceIte, List.length_cons, List.length_nil, List.map_cons, List.map_nil, Nat.reduceAdd, Nat.reduceLeDiff, Nat.reduceLT, Bool.true_and, Bool.and_true, Bool.false_and, Bool.and_false, List.length_map, Nat.zero_le]; exact h0)]
      simp only [bnd_ok, bnd_err, then_ok, then_err, fVar0, fVarS, fC_e, fOp_e, fUn_e, asB_e, asI_e, fT_e, fAnd_e, fOr_e, fNot_e, fAndV_e, fOrV_e, fNotV_e, fIf_e, fChain_e, aNil_e, aCons_e, fTup_e, fLst_e, fCall_e, dTup_e, dLst_e, gAdd_i, gSub_i, gNeg_i, gEq_i, gNe_i, gLt_i, gLe_i, gGt_i, gGe_i, gIsN_e, gNotN_e, isN_n, isN_i, isN_t, isN_l, isN_b, gIsi_e, tyD_n, tyD_i, tyD_t, tyD_l, tyD_b, tyD_s, isaT_ii, isaT_bi, isaT_ib, isaT_bb, isaT_tt, isaT_ll, isaT_tb, isaT_ti, isaT_it, isaT_bt, isaT_lt, isaT_nt, isaT_st, gLen_l, gLen_t, gOne_l, gTuple_l, gTuple_t, gInt_b, gMin2_e, gMax2_e, fIt_e, items_l, items_t, fItA_e, gEnum_e, gZip_t, gNm0, gNmS, gNil_e, gCons_e, gTp_e, wipe0, wipeS, tYesD_e, sNil_e, sExpr_e, sRet_e, sRaise_e, sIf_e, sAsg_e, asF_e, sFor_e, endF_r, endF_n, endF_x, asO_s, fRg1_e, sFrz_e, gIx_t0, gIx_t1, gIx_t2, gIx_l0, gIx_l1, gIx_l2, Option.map_some, Option.bind_some, List.set_cons_succ, List.set_cons_zero, List.getElem?_cons_succ, List.getElem?_cons_zero, Bool.not_true, Bool.not_false, Bool.false_eq_true, ↓reduceIte, List.length_cons, List.length_nil, List.map_cons, List.map_nil, Nat.reduceAdd, Nat.reduceLeDiff, Nat.reduceLT, Bool.true_and, Bool.and_true, Bool.false_and, Bool.and_false, List.length_map, Nat.zero_le]
      exact h1
    | none =>
      rw [hk] at h1
      obtain ⟨k6', h1⟩ := h1
      rw [Option.none_or]
      have hf : forOne (gNm 5) l_law_out_2 (nD p) [.dat (eB b), .dat (eP ss ks), .dat (tN bo), .dat (tN sl), oS spot, j5, j6, j7, j8, j9, j10] = .next [.dat (eB b), .dat (eP ss ks), .dat (tN bo), .dat (tN sl), oS (scan b ss bo sl p spot), .dat (nD p), k6', k7, k8, k9, j10] := by
        refine forOne_n (ρ1 := [.dat (eB b), .dat (eP ss ks), .dat (tN bo), .dat (tN sl), oS spot, .dat (nD p), j6, j7, j8, j9, j10]) (by simp only [bnd_ok, bnd_err, then_ok, then_err, fVar0, fVarS, fC_e, fOp_e, fUn_e, asB_e, asI_e, fT_e, fAnd_e, fOr_e, fNot_e, fAndV_e, fOrV_e, fNotV_e, fIf_e, fChain_e, aNil_e, aCons_e, fTup_e, fLst_e, fCall_e, dTup_e, dLst_e, gAdd_i, gSub_i, gNeg_i, gEq_i, gNe_i, gLt_i, gLe_i, gGt_i, gGe_i, gIsN_e, gNotN_e, isN_n, isN_i, isN_t, isN_l, isN_b, gIsi_e, tyD_n, tyD_i, tyD_t, tyD_l, tyD_b, tyD_s, isaT_ii, isaT_bi, isaT_ib, isaT_bb, isaT_tt, isaT_ll, isaT_tb, isaT_ti, isaT_it, isaT_bt, isaT_lt, isaT_nt, isaT_st, gLen_l, gLen_t, gOne_l, gTuple_l, gTuple_t, gInt_b, gMin2_e, gMax2_e, fIt_e, items_l, items_t, fItA_e, gEnum_e, gZip_t, gNm0, gNmS, gNil_e, gCons_e, gTp_e, wipe0, wipeS, tYesD_e, sNil_e, sExpr_e, sRet_e, sRaise_e, sIf_e, sAsg_e, asF_e, sFor_e, endF_r, endF_n, endF_x, asO_s, fRg1_e, sFrz_e, gIx_t0, gIx_t1, gIx_t2, gIx_l0, gIx_l1, gIx_l2, Option.map_some, Option.bind_some, List.set_cons_succ, List.set_cons_zero, List.getElem?_cons_succ, List.getElem?_cons_zero, Bool.not_true, Bool.not_false, Bool.false_eq_true, ↓reduceIte, List.length_cons, List.length_nil, List.map_cons, List.map_nil, Nat.reduceAdd, Nat.reduceLeDiff, Nat.reduceLT, Bool.true_and, Bool.and_true, Bool.false_and, Bool.and_false, List.length_map, Nat.zero_le]) ?_
        unfold l_law_out_2
        rw [sSeq_n (h := by simp only [bnd_ok, bnd_err, then_ok, then_err, fVar0, fVarS, fC_e, fOp_e, fUn_e, asB_e, asI_e, fT_e, fAnd_e, fOr_e, fNot_e, fAndV_e, fOrV_e, fNotV_e, fIf_e, fChain_e, aNil_e, aCons_e, fTup_e, fLst_e, fCall_e, dTup_e, dLst_e, gAdd_i, gSub_i, gNeg_i, gEq_i, gNe_i, gLt_i, gLe_i, gGt_i, gGe_i, gIsN_e, gNotN_e, isN_n, isN_i, isN_t, isN_l, isN_b, gIsi_e, tyD_n, tyD_i, tyD_t, tyD_l, tyD_b, tyD_s, isaT_ii, isaT_bi, isaT_ib, isaT_bb, isaT_tt, isaT_ll, isaT_tb, isaT_ti, isaT_it, isaT_bt, isaT_lt, isaT_nt, isaT_st, gLen_l, gLen_t, gOne_l, gTuple_l, gTuple_t, gInt_b, gMin2_e, gMax2_e, fIt_e, items_l, items_t, fItA_e, gEnum_e, gZip_t, gNm0, gNmS, gNil_e, gCons_e, gTp_e, wipe0, wipeS, tYesD_e, sNil_e, sExpr_e, sRet_e, sRaise_e, sIf_e, sAsg_e, asF_e, sFor_e, endF_r, endF_n, endF_x, asO_s, fRg1_e, sFrz_e, gIx_t0, gIx_t1, gIx_t2, gIx_l0, gIx_l1, gIx_l2, Option.map_some, Option.bind_some, List.set_cons_succ, List.set_cons_zero, List.getElem?_cons_succ, List.getElem?_cons_zero, Bool.not_true, Bool.not_false, Bool.false_eq_true, ↓reduceIte, List.length_cons, List.length_nil, List.map_cons, List.map_nil, Nat.reduceAdd, Nat.reduceLeDiff, Nat.reduceLT, Bool.true_and, Bool.and_true, Bool.false_and, Bool.and_false, List.length_map, Nat.zero_le]; exact h0)]
        simp only [bnd_ok, bnd_err, then_ok, then_err, fVar0, fVarS, fC_e, fOp_e, fUn_e, asB_e, asI_e, fT_e, fAnd_e, fOr_e, fNot_e, fAndV_e, fOrV_e, fNotV_e, fIf_e, fChain_e, aNil_e, aCons_e, fTup_e, fLst_e, fCall_e, dTup_e, dLst_e, gAdd_i, gSub_i, gNeg_i, gEq_i, gNe_i, gLt_i, gLe_i, gGt_i, gGe_i, gIsN_e, gNotN_e, isN_n, isN_i, isN_t, isN_l, isN_b, gIsi_e, tyD_n, tyD_i, tyD_t, tyD_l, tyD_b, tyD_s, isaT_ii, isaT_bi, isaT_ib, isaT_bb, isaT_tt, isaT_ll, isaT_tb, isaT_ti, isaT_it, isaT_bt, isaT_lt, isaT_nt, isaT_st, gLen_l, gLen_t, gOne_l, gTuple_l, gTuple_t, gInt_b, gMin2_e, gMax2_e, fIt_e, items_l, items_t, fItA_e, gEnum_e, gZip_t, gNm0, gNmS, gNil_e, gCons_e, gTp_e, wipe0, wipeS, tYesD_e, sNil_e, sExpr_e, sRet_e, sRaise_e, sIf_e, sAsg_e, asF_e, sFor_e, endF_r, endF_n, endF_x, asO_s, fRg1_e, sFrz_e, gIx_t0, gIx_t1, gIx_t2, gIx_l0, gIx_l1, gIx_l2, Option.map_some, Option.bind_some, List.set_cons_succ, List.set_cons_zero, List.getElem?_cons_succ, List.getElem?_cons_zero, Bool.not_true, Bool.not_false, Bool.false_eq_true, ↓reduceIte, List.length_cons, List.length_nil, List.map_cons, List.map_nil, Nat.reduceAdd, Nat.reduceLeDiff, Nat.reduceLT, Bool.true_and, Bool.and_true, Bool.false_and, Bool.and_false, List.length_map, Nat.zero_le]
        exact h1
      rw [forLoop_cons hf]
      exact ih (p + 1) (scan b ss bo sl p spot) (.dat (nD p)) k6' k7 k8 k9 j10
theorem sat_le {b : Belt} (h : b.Ok) {s : Nat} (hs : s < b.S.length) : sat b s ≤ 99 := by
  obtain ⟨x, hx⟩ := get_some hs
  rw [sat_e hx]
  exact (h.s x (List.mem_of_getElem? hx)).1
theorem kat_le {b : Belt} (h : b.Ok) {s : Nat} (hs : s < b.K.length) : kat b s ≤ 99 := by
  obtain ⟨x, hx⟩ := get_some hs
  rw [kat_e hx]
  exact (h.k x (List.mem_of_getElem? hx)).1
theorem law_out_e {b : Belt} {ss ks bo sl : List Nat} (h : b.Ok) (p : PlanOk b ss ks) (hb : Rise b.F.length bo) : m_law_out [eB b, eP ss ks, tN bo, tN sl] = .ok (oP (cOut b ss ks bo sl)) := by
  rw [q_law_out]
  unfold b_law_out
  rw [sSeq_n (h := by simp only [bnd_ok, bnd_err, then_ok, then_err, fVar0, fVarS, fC_e, fOp_e, fUn_e, asB_e, asI_e, fT_e, fAnd_e, fOr_e, fNot_e, fAndV_e, fOrV_e, fNotV_e, fIf_e, fChain_e, aNil_e, aCons_e, fTup_e, fLst_e, fCall_e, dTup_e, dLst_e, gAdd_i, gSub_i, gNeg_i, gEq_i, gNe_i, gLt_i, gLe_i, gGt_i, gGe_i, gIsN_e, gNotN_e, isN_n, isN_i, isN_t, isN_l, isN_b, gIsi_e, tyD_n, tyD_i, tyD_t, tyD_l, tyD_b, tyD_s, isaT_ii, isaT_bi, isaT_ib, isaT_bb, isaT_tt, isaT_ll, isaT_tb, isaT_ti, isaT_it, isaT_bt, isaT_lt, isaT_nt, isaT_st, gLen_l, gLen_t, gOne_l, gTuple_l, gTuple_t, gInt_b, gMin2_e, gMax2_e, fIt_e, items_l, items_t, fItA_e, gEnum_e, gZip_t, gNm0, gNmS, gNil_e, gCons_e, gTp_e, wipe0, wipeS, tYesD_e, sNil_e, sExpr_e, sRet_e, sRaise_e, sIf_e, sAsg_e, asF_e, sFor_e, endF_r, endF_n, endF_x, asO_s, fRg1_e, sFrz_e, gIx_t0, gIx_t1, gIx_t2, gIx_l0, gIx_l1, gIx_l2, Option.map_some, Option.bind_some, List.set_cons_succ, List.set_cons_zero, List.getElem?_cons_succ, List.getElem?_cons_zero, Bool.not_true, Bool.not_false, Bool.false_eq_true, ↓reduceIte, List.length_cons, List.length_nil, List.map_cons, List.map_nil, Nat.reduceAdd, Nat.reduceLeDiff, Nat.reduceLT, Bool.true_and, Bool.and_true, Bool.false_and, Bool.and_false, List.length_map, Nat.zero_le]; rfl)]
  have L := lo_loop (sl := sl) h hb p.s.1 p.k.1 100 0 none .non .non .non .non .non .non
  rw [goOut_n (fun s hs => sat_le h (p.s.1 s hs)) p.s.2 (fun k hk => kat_le h (p.k.1 k hk)) p.k.2 100 0 rfl (fun _ _ => Nat.zero_le _)] at L
  have r100 : gRng1 [.int 100] = .ok ((List.range' 0 100).map nD) := by rw [← List.range_eq_range']; exact rng_e 100 (by decide)
  cases hc : cOut b ss ks bo sl with
  | some r =>
    rw [hc] at L
    rw [sSeq_r (d := eK r) (h := by simp only [bnd_ok, bnd_err, then_ok, then_err, fVar0, fVarS, fC_e, fOp_e, fUn_e, asB_e, asI_e, fT_e, fAnd_e, fOr_e, fNot_e, fAndV_e, fOrV_e, fNotV_e, fIf_e, fChain_e, aNil_e, aCons_e, fTup_e, fLst_e, fCall_e, dTup_e, dLst_e, gAdd_i, gSub_i, gNeg_i, gEq_i, gNe_i, gLt_i, gLe_i, gGt_i, gGe_i, gIsN_e, gNotN_e, isN_n, isN_i, isN_t, isN_l, isN_b, gIsi_e, tyD_n, tyD_i, tyD_t, tyD_l, tyD_b, tyD_s, isaT_ii, isaT_bi, isaT_ib, isaT_bb, isaT_tt, isaT_ll, isaT_tb, isaT_ti, isaT_it, isaT_bt, isaT_lt, isaT_nt, isaT_st, gLen_l, gLen_t, gOne_l, gTuple_l, gTuple_t, gInt_b, gMin2_e, gMax2_e, fIt_e, items_l, items_t, fItA_e, gEnum_e, gZip_t, gNm0, gNmS, gNil_e, gCons_e, gTp_e, wipe0, wipeS, tYesD_e, sNil_e, sExpr_e, sRet_e, sRaise_e, sIf_e, sAsg_e, asF_e, sFor_e, endF_r, endF_n, endF_x, asO_s, fRg1_e, sFrz_e, gIx_t0, gIx_t1, gIx_t2, gIx_l0, gIx_l1, gIx_l2, Option.map_some, Option.bind_some, List.set_cons_succ, List.set_cons_zero, List.getElem?_cons_succ, List.getElem?_cons_zero, Bool.not_true, Bool.not_false, Bool.false_eq_true, ↓reduceIte, List.length_cons, List.length_nil, List.map_cons, List.map_nil, Nat.reduceAdd, Nat.reduceLeDiff, Nat.reduceLT, Bool.true_and, Bool.and_true, Bool.false_and, Bool.and_false, List.length_map, Nat.zero_le, r100]; exact L)]
    rfl
  | none =>
    rw [hc] at L
    obtain ⟨ρ', L⟩ := L
    rw [sSeq_n (h := by simp only [bnd_ok, bnd_err, then_ok, then_err, fVar0, fVarS, fC_e, fOp_e, fUn_e, asB_e, asI_e, fT_e, fAnd_e, fOr_e, fNot_e, fAndV_e, fOrV_e, fNotV_e, fIf_e, fChain_e, aNil_e, aCons_e, fTup_e, fLst_e, fCall_e, dTup_e, dLst_e, gAdd_i, gSub_i, gNeg_i, gEq_i, gNe_i, gLt_i, gLe_i, gGt_i, gGe_i, gIsN_e, gNotN_e, isN_n, isN_i, isN_t, isN_l, isN_b, gIsi_e, tyD_n, tyD_i, tyD_t, tyD_l, tyD_b, tyD_s, isaT_ii, isaT_bi, isaT_ib, isaT_bb, isaT_tt, isaT_ll, isaT_tb, isaT_ti, isaT_it, isaT_bt, isaT_lt, isaT_nt, isaT_st, gLen_l, gLen_t, gOne_l, gTuple_l, gTuple_t, gInt_b, gMin2_e, gMax2_e, fIt_e, items_l, items_t, fItA_e, gEnum_e, gZip_t, gNm0, gNmS, gNil_e, gCons_e, gTp_e, wipe0, wipeS, tYesD_e, sNil_e, sExpr_e, sRet_e, sRaise_e, sIf_e, sAsg_e, asF_e, sFor_e, endF_r, endF_n, endF_x, asO_s, fRg1_e, sFrz_e, gIx_t0, gIx_t1, gIx_t2, gIx_l0, gIx_l1, gIx_l2, Option.map_some, Option.bind_some, List.set_cons_succ, List.set_cons_zero, List.getElem?_cons_succ, List.getElem?_cons_zero, Bool.not_true, Bool.not_false, Bool.false_eq_true, ↓reduceIte, List.length_cons, List.length_nil, List.map_cons, List.map_nil, Nat.reduceAdd, Nat.reduceLeDiff, Nat.reduceLT, Bool.true_and, Bool.and_true, Bool.false_and, Bool.and_false, List.length_map, Nat.zero_le, r100]; exact L)]
    rfl
end Bl
namespace Bl
open PySem L2 Dl
/-! ### all rows -/
def cRows : Nat → List (List Nat)
  | 0 => [[]]
  | n + 1 => cRows n ++ (cRows n).map (· ++ [n])
theorem rows_len : ∀ n, (cRows n).length = 2 ^ n
  | 0 => rfl
  | n + 1 => by
    show (cRows n ++ (cRows n).map (· ++ [n])).length = _
    rw [List.length_append, List.length_map, rows_len n, Nat.pow_succ]
    omega
theorem mem_rows : ∀ {n : Nat} {xs : List Nat}, xs ∈ cRows n ↔ Rise n xs
  | 0, xs => by
    show xs ∈ [[]] ↔ _
    rw [List.mem_singleton]
    constructor
    · rintro rfl; exact ⟨by simp, .nil⟩
    · intro h
      cases xs with
      | nil => rfl
      | cons x xs => exact absurd (h.1 x List.mem_cons_self) (Nat.not_lt_zero _)
  | n + 1, xs => by
    show xs ∈ cRows n ++ (cRows n).map (· ++ [n]) ↔ _
    rw [List.mem_append, List.mem_map]
    constructor
    · rintro (h | ⟨ys, h, rfl⟩)
      · have h := mem_rows.mp h
        exact ⟨fun x hx => Nat.lt_succ_of_lt (h.1 x hx), h.2⟩
      · have h := mem_rows.mp h
        refine ⟨fun x hx => ?_, ?_⟩
        · rcases List.mem_append.mp hx with hx | hx
          · exact Nat.lt_succ_of_lt (h.1 x hx)
          · rw [List.mem_singleton.mp hx]; exact Nat.lt_succ_self _
        · rw [List.pairwise_append]
          refine ⟨h.2, by simp, fun x hx y hy => ?_⟩
          rw [List.mem_singleton.mp hy]
          exact h.1 x hx
    · intro h
      rcases List.eq_nil_or_concat xs with rfl | ⟨ys, y, rfl⟩
      · exact .inl (mem_rows.mpr ⟨by simp, .nil⟩)
      · rw [List.concat_eq_append] at *
        obtain ⟨h1, h2⟩ := h
        rw [List.pairwise_append] at h2
        have hy := h1 y (by simp)
        by_cases e : y = n
        · subst e
          exact .inr ⟨ys, mem_rows.mpr ⟨fun x hx => h2.2.2 x hx y (by simp), h2.1⟩, rfl⟩
        · refine .inl (mem_rows.mpr ⟨fun x hx => ?_, by rw [List.pairwise_append]; exact h2⟩)
          rcases List.mem_append.mp hx with hx | hx
          · have := h2.2.2 x hx y (by simp)
            omega
          · rw [List.mem_singleton.mp hx]; omega
theorem pow_le (n : Nat) (h : n ≤ 12) : 2 ^ n ≤ 4096 := Nat.pow_le_pow_right (by decide) h
theorem rows_gen (n : Nat) (hn : n ≤ 12) : endF (sSeq (sOwn 1 (aCons (fTup aNil) aNil)) (sSeq (sFor (fItA gRng1 (aCons (fVar 0) aNil)) (gNm 2) (sFrz 1 (sAsg (fOp gAdd (fVar 1) (fLc (fIt (fVar 1)) (gNm 3) tYesD (fOp gAdd (fVar 3) (fTup (aCons (fVar 2) aNil))) [3])) (gNm 1)))) (sFrz 1 (sRet (fVar 1)))) [.dat (nD n), .non, .non, .non]) = .ok (.list ((cRows n).map tN)) := by
  rw [sSeq_n (h := sOwn_l 1 _ _ [.tuple []] (by simp only [bnd_ok, bnd_err, then_ok, then_err, fVar0, fVarS, fC_e, fOp_e, fUn_e, asB_e, asI_e, fT_e, fAnd_e, fOr_e, fNot_e, fAndV_e, fOrV_e, fNotV_e, fIf_e, fChain_e, aNil_e, aCons_e, fTup_e, fLst_e, fCall_e, dTup_e, dLst_e, gAdd_i, gSub_i, gNeg_i, gEq_i, gNe_i, gLt_i, gLe_i, gGt_i, gGe_i, gIsN_e, gNotN_e, isN_n, isN_i, isN_t, isN_l, isN_b, gIsi_e, tyD_n, tyD_i, tyD_t, tyD_l, tyD_b, tyD_s, isaT_ii, isaT_bi, isaT_ib, isaT_bb, isaT_tt, isaT_ll, isaT_tb, isaT_ti, isaT_it, isaT_bt, isaT_lt, isaT_nt, isaT_st, gLen_l, gLen_t, gOne_l, gTuple_l, gTuple_t, gInt_b, gMin2_e, gMax2_e, fIt_e, items_l, items_t, fItA_e, gEnum_e, gZip_t, gNm0, gNmS, gNil_e, gCons_e, gTp_e, wipe0, wipeS, tYesD_e, sNil_e, sExpr_e, sRet_e, sRaise_e, sIf_e, sAsg_e, asF_e, sFor_e, endF_r, endF_n, endF_x, asO_s, fRg1_e, sFrz_e, gIx_t0, gIx_t1, gIx_t2, gIx_l0, gIx_l1, gIx_l2, Option.map_some, Option.bind_some, List.set_cons_succ, List.set_cons_zero, List.getElem?_cons_succ, List.getElem?_cons_zero, Bool.not_true, Bool.not_false, Bool.false_eq_true, ↓reduceIte, List.length_cons, List.length_nil, List.map_cons, List.map_nil, Nat.reduceAdd, Nat.reduceLeDiff, Nat.reduceLT, Bool.true_and, Bool.and_true, Bool.false_and, Bool.and_false, List.length_map, Nat.zero_le]) (by simp) (by simp))]
  simp only [List.set_cons_succ, List.set_cons_zero]
  obtain ⟨ρ, h1, s1, j2, j3, rfl, h2⟩ := for_inv nD (gt := gNm 2) (body := (sFrz 1 (sAsg (fOp gAdd (fVar 1) (fLc (fIt (fVar 1)) (gNm 3) tYesD (fOp gAdd (fVar 3) (fTup (aCons (fVar 2) aNil))) [3])) (gNm 1))))
    (fun pre ρ => ∃ s1 j2 j3, ρ = [.dat (nD n), s1, j2, j3] ∧ (s1 = .own ((cRows pre.length).map tN) ∨ s1 = .dat (.list ((cRows pre.length).map tN)))) (List.range n) (fun pre x post ρ e ⟨s1, j2, j3, hρ, hs⟩ => by
      subst hρ
      have hx : x = pre.length := by
        have h1 : (List.range n)[pre.length]? = some x := by rw [e]; simp
        rw [List.getElem?_range (by
          have := congrArg List.length e
          simp at this
          omega)] at h1
        exact (Option.some.inj h1).symm
      have hlt : x < n := List.mem_range.mp (by rw [e]; simp)
      have hp := pow_le pre.length (by omega)
      have hrl := rows_len pre.length
      refine ⟨[.dat (nD n), .dat (.list ((cRows (pre ++ [x]).length).map tN)), .dat (nD x), j3], forOne_n (by simp only [bnd_ok, bnd_err, then_ok, then_err, fVar0, fVarS, fC_e, fOp_e, fUn_e, asB_e, asI_e, fT_e, fAnd_e, fOr_e, fNot_e, fAndV_e, fOrV_e, fNotV_e, fIf_e, fChain_e, aNil_e, aCons_e, fTup_e, fLst_e, fCall_e, dTup_e, dLst_e, gAdd_i, gSub_i, gNeg_i, gEq_i, gNe_i, gLt_i, gLe_i, gGt_i, gGe_i, gIsN_e, gNotN_e, isN_n, isN_i, isN_t, isN_l, isN_b, gIsi_e, tyD_n, tyD_i, tyD_t, tyD_l, tyD_b, tyD_s, isaT_ii, isaT_bi, isaT_ib, isaT_bb, isaT_tt, isaT_ll, isaT_tb, isaT_ti, isaT_it, isaT_bt, isaT_lt, isaT_nt, isaT_st, gLen_l, gLen_t, gOne_l, gTuple_l, gTuple_t, gInt_b, gMin2_e, gMax2_e, fIt_e, items_l, items_t, fItA_e, gEnum_e, gZip_t, gNm0, gNmS, gNil_e, gCons_e, gTp_e, wipe0, wipeS, tYesD_e, sNil_e, sExpr_e, sRet_e, sRaise_e, sIf_e, sAsg_e, asF_e, sFor_e, endF_r, endF_n, endF_x, asO_s, fRg1_e, sFrz_e, gIx_t0, gIx_t1, gIx_t2, gIx_l0, gIx_l1, gIx_l2, Option.map_some, Option.bind_some, List.set_cons_succ, List.set_cons_zero, List.getElem?_cons_succ, List.getElem?_cons_zero, Bool.not_true, Bool.not_false, Bool.false_eq_true, ↓reduceIte, List.length_cons, List.length_nil, List.map_cons, List.map_nil, Nat.reduceAdd, Nat.reduceLeDiff, Nat.reduceLT, Bool.true_and, Bool.and_true, Bool.false_and, Bool.and_false, List.length_map, Nat.zero_le]; rfl) ?_, _, _, _, rfl, .inr rfl⟩
      have ef : frz 1 [.dat (nD n), s1, .dat (nD x), j3] = [.dat (nD n), .dat (.list ((cRows pre.length).map tN)), .dat (nD x), j3] := by
        rcases hs with rfl | rfl
        · rw [frz_e (h := rfl)]; rfl
        · rw [frz_d (h := rfl)]
      rw [sFrz_e, ef]
      simp only [bnd_ok, bnd_err, then_ok, then_err, fVar0, fVarS, fC_e, fOp_e, fUn_e, asB_e, asI_e, fT_e, fAnd_e, fOr_e, fNot_e, fAndV_e, fOrV_e, fNotV_e, fIf_e, fChain_e, aNil_e, aCons_e, fTup_e, fLst_e, fCall_e, dTup_e, dLst_e, gAdd_i, gSub_i, gNeg_i, gEq_i, gNe_i, gLt_i, gLe_i, gGt_i, gGe_i, gIsN_e, gNotN_e, isN_n, isN_i, isN_t, isN_l, isN_b, gIsi_e, tyD_n, tyD_i, tyD_t, tyD_l, tyD_b, tyD_s, isaT_ii, isaT_bi, isaT_ib, isaT_bb, isaT_tt, isaT_ll, isaT_tb, isaT_ti, isaT_it, isaT_bt, isaT_lt, isaT_nt, isaT_st, gLen_l, gLen_t, gOne_l, gTuple_l, gTuple_t, gInt_b, gMin2_e, gMax2_e, fIt_e, items_l, items_t, fItA_e, gEnum_e, gZip_t, gNm0, gNmS, gNil_e, gCons_e, gTp_e, wipe0, wipeS, tYesD_e, sNil_e, sExpr_e, sRet_e, sRaise_e, sIf_e, sAsg_e, asF_e, sFor_e, endF_r, endF_n, endF_x, asO_s, fRg1_e, sFrz_e, gIx_t0, gIx_t1, gIx_t2, gIx_l0, gIx_l1, gIx_l2, Option.map_some, Option.bind_some, List.set_cons_succ, List.set_cons_zero, List.getElem?_cons_succ, List.getElem?_cons_zero, Bool.not_true, Bool.not_false, Bool.false_eq_true, ↓reduceIte, List.length_cons, List.length_nil, List.map_cons, List.map_nil, Nat.reduceAdd, Nat.reduceLeDiff, Nat.reduceLT, Bool.true_and, Bool.and_true, Bool.false_and, Bool.and_false, List.length_map, Nat.zero_le]
      rw [fLc_map tN (fun r => tN (r ++ [x])) (cRows pre.length) (by simp only [bnd_ok, bnd_err, then_ok, then_err, fVar0, fVarS, fC_e, fOp_e, fUn_e, asB_e, asI_e, fT_e, fAnd_e, fOr_e, fNot_e, fAndV_e, fOrV_e, fNotV_e, fIf_e, fChain_e, aNil_e, aCons_e, fTup_e, fLst_e, fCall_e, dTup_e, dLst_e, gAdd_i, gSub_i, gNeg_i, gEq_i, gNe_i, gLt_i, gLe_i, gGt_i, gGe_i, gIsN_e, gNotN_e, isN_n, isN_i, isN_t, isN_l, isN_b, gIsi_e, tyD_n, tyD_i, tyD_t, tyD_l, tyD_b, tyD_s, isaT_ii, isaT_bi, isaT_ib, isaT_bb, isaT_tt, isaT_ll, isaT_tb, isaT_ti, isaT_it, isaT_bt, isaT_lt, isaT_nt, isaT_st, gLen_l, gLen_t, gOne_l, gTuple_l, gTuple_t, gInt_b, gMin2_e, gMax2_e, fIt_e, items_l, items_t, fItA_e, gEnum_e, gZip_t, gNm0, gNmS, gNil_e, gCons_e, gTp_e, wipe0, wipeS, tYesD_e, sNil_e, sExpr_e, sRet_e, sRaise_e, sIf_e, sAsg_e, asF_e, sFor_e, endF_r, endF_n, endF_x, asO_s, fRg1_e, sFrz_e, gIx_t0, gIx_t1, gIx_t2, gIx_l0, gIx_l1, gIx_l2, Option.map_some, Option.bind_some, List.set_cons_succ, List.set_cons_zero, List.getElem?_cons_succ, List.getElem?_cons_zero, Bool.not_true, Bool.not_false, Bool.false_eq_true, ↓reduceIte, List.length_cons, List.length_nil, List.map_cons, List.map_nil, Nat.reduceAdd, Nat.reduceLeDiff, Nat.reduceLT, Bool.true_and, Bool.and_true, Bool.false_and, Bool.and_false, List.length_map, Nat.zero_le]) (by omega) fun r hr => ?_]
      · simp only [bnd_ok, bnd_err, then_ok, then_err, fVar0, fVarS, fC_e, fOp_e, fUn_e, asB_e, asI_e, fT_e, fAnd_e, fOr_e, fNot_e, fAndV_e, fOrV_e, fNotV_e, fIf_e, fChain_e, aNil_e, aCons_e, fTup_e, fLst_e, fCall_e, dTup_e, dLst_e, gAdd_i, gSub_i, gNeg_i, gEq_i, gNe_i, gLt_i, gLe_i, gGt_i, gGe_i, gIsN_e, gNotN_e, isN_n, isN_i, isN_t, isN_l, isN_b, gIsi_e, tyD_n, tyD_i, tyD_t, tyD_l, tyD_b, tyD_s, isaT_ii, isaT_bi, isaT_ib, isaT_bb, isaT_tt, isaT_ll, isaT_tb, isaT_ti, isaT_it, isaT_bt, isaT_lt, isaT_nt, isaT_st, gLen_l, gLen_t, gOne_l, gTuple_l, gTuple_t, gInt_b, gMin2_e, gMax2_e, fIt_e, items_l, items_t, fItA_e, gEnum_e, gZip_t, gNm0, gNmS, gNil_e, gCons_e, gTp_e, wipe0, wipeS, tYesD_e, sNil_e, sExpr_e, sRet_e, sRaise_e, sIf_e, sAsg_e, asF_e, sFor_e, endF_r, endF_n, endF_x, asO_s, fRg1_e, sFrz_e, gIx_t0, gIx_t1, gIx_t2, gIx_l0, gIx_l1, gIx_l2, Option.map_some, Option.bind_some, List.set_cons_succ, List.set_cons_zero, List.getElem?_cons_succ, List.getElem?_cons_zero, Bool.not_true, Bool.not_false, Bool.false_eq_true, ↓reduceIte, List.length_cons, List.length_nil, List.map_cons, List.map_nil, Nat.reduceAdd, Nat.reduceLeDiff, Nat.reduceLT, Bool.true_and, Bool.and_true, Bool.false_and, Bool.and_false, List.length_map, Nat.zero_le]
        rw [gAdd_l _ _ (by simp; omega)]
        simp only [bnd_ok, bnd_err, then_ok, then_err, fVar0, fVarS, fC_e, fOp_e, fUn_e, asB_e, asI_e, fT_e, fAnd_e, fOr_e, fNot_e, fAndV_e, fOrV_e, fNotV_e, fIf_e, fChain_e, aNil_e, aCons_e, fTup_e, fLst_e, fCall_e, dTup_e, dLst_e, gAdd_i, gSub_i, gNeg_i, gEq_i, gNe_i, gLt_i, gLe_i, gGt_i, gGe_i, gIsN_e, gNotN_e, isN_n, isN_i, isN_t, isN_l, isN_b, gIsi_e, tyD_n, tyD_i, tyD_t, tyD_l, tyD_b, tyD_s, isaT_ii, isaT_bi, isaT_ib, isaT_bb, isaT_tt, isaT_ll, isaT_tb, isaT_ti, isaT_it, isaT_bt, isaT_lt, isaT_nt, isaT_st, gLen_l, gLen_t, gOne_l, gTuple_l, gTuple_t, gInt_b, gMin2_e, gMax2_e, fIt_e, items_l, items_t, fItA_e, gEnum_e, gZip_t, gNm0, gNmS, gNil_e, gCons_e, gTp_e, wipe0, wipeS, tYesD_e, sNil_e, sExpr_e, sRet_e, sRaise_e, sIf_e, sAsg_e, asF_e, sFor_e, endF_r, endF_n, endF_x, asO_s, fRg1_e, sFrz_e, gIx_t0, gIx_t1, gIx_t2, gIx_l0, gIx_l1, gIx_l2, Option.map_some, Option.bind_some, List.set_cons_succ, List.set_cons_zero, List.getElem?_cons_succ, List.getElem?_cons_zero, Bool.not_true, Bool.not_false, Bool.false_eq_true, ↓reduceIte, List.length_cons, List.length_nil, List.map_cons, List.map_nil, Nat.reduceAdd, Nat.reduceLeDiff, Nat.reduceLT, Bool.true_and, Bool.and_true, Bool.false_and, Bool.and_false, List.length_map, Nat.zero_le, List.length_append]
        have : (cRows (pre.length + 1)).map tN = (cRows pre.length).map tN ++ (cRows pre.length).map fun r => tN (r ++ [x]) := by
          show (cRows pre.length ++ (cRows pre.length).map (· ++ [pre.length])).map tN = _
          rw [List.map_append, List.map_map, hx]
          rfl
        rw [this]
      · have hr := rise_len (mem_rows.mp hr)
        simp only [lcOne, bnd_ok, bnd_err, then_ok, then_err, fVar0, fVarS, fC_e, fOp_e, fUn_e, asB_e, asI_e, fT_e, fAnd_e, fOr_e, fNot_e, fAndV_e, fOrV_e, fNotV_e, fIf_e, fChain_e, aNil_e, aCons_e, fTup_e, fLst_e, fCall_e, dTup_e, dLst_e, gAdd_i, gSub_i, gNeg_i, gEq_i, gNe_i, gLt_i, gLe_i, gGt_i, gGe_i, gIsN_e, gNotN_e, isN_n, isN_i, isN_t, isN_l, isN_b, gIsi_e, tyD_n, tyD_i, tyD_t, tyD_l, tyD_b, tyD_s, isaT_ii, isaT_bi, isaT_ib, isaT_bb, isaT_tt, isaT_ll, isaT_tb, isaT_ti, isaT_it, isaT_bt, isaT_lt, isaT_nt, isaT_st, gLen_l, gLen_t, gOne_l, gTuple_l, gTuple_t, gInt_b, gMin2_e, gMax2_e, fIt_e, items_l, items_t, fItA_e, gEnum_e, gZip_t, gNm0, gNmS, gNil_e, gCons_e, gTp_e, wipe0, wipeS, tYesD_e, sNil_e, sExpr_e, sRet_e, sRaise_e, sIf_e, sAsg_e, asF_e, sFor_e, endF_r, endF_n, endF_x, asO_s, fRg1_e, sFrz_e, gIx_t0, gIx_t1, gIx_t2, gIx_l0, gIx_l1, gIx_l2, Option.map_some, Option.bind_some, List.set_cons_succ, List.set_cons_zero, List.getElem?_cons_succ, List.getElem?_cons_zero, Bool.not_true, Bool.not_false, Bool.false_eq_true, ↓reduceIte, List.length_cons, List.length_nil, List.map_cons, List.map_nil, Nat.reduceAdd, Nat.reduceLeDiff, Nat.reduceLT, Bool.true_and, Bool.and_true, Bool.false_and, Bool.and_false, List.length_map, Nat.zero_le]
        rw [gAdd_t _ _ (by simp; omega)]
        simp only [bnd_ok, bnd_err, then_ok, then_err, fVar0, fVarS, fC_e, fOp_e, fUn_e, asB_e, asI_e, fT_e, fAnd_e, fOr_e, fNot_e, fAndV_e, fOrV_e, fNotV_e, fIf_e, fChain_e, aNil_e, aCons_e, fTup_e, fLst_e, fCall_e, dTup_e, dLst_e, gAdd_i, gSub_i, gNeg_i, gEq_i, gNe_i, gLt_i, gLe_i, gGt_i, gGe_i, gIsN_e, gNotN_e, isN_n, isN_i, isN_t, isN_l, isN_b, gIsi_e, tyD_n, tyD_i, tyD_t, tyD_l, tyD_b, tyD_s, isaT_ii, isaT_bi, isaT_ib, isaT_bb, isaT_tt, isaT_ll, isaT_tb, isaT_ti, isaT_it, isaT_bt, isaT_lt, isaT_nt, isaT_st, gLen_l, gLen_t, gOne_l, gTuple_l, gTuple_t, gInt_b, gMin2_e, gMax2_e, fIt_e, items_l, items_t, fItA_e, gEnum_e, gZip_t, gNm0, gNmS, gNil_e, gCons_e, gTp_e, wipe0, wipeS, tYesD_e, sNil_e, sExpr_e, sRet_e, sRaise_e, sIf_e, sAsg_e, asF_e, sFor_e, endF_r, endF_n, endF_x, asO_s, fRg1_e, sFrz_e, gIx_t0, gIx_t1, gIx_t2, gIx_l0, gIx_l1, gIx_l2, Option.map_some, Option.bind_some, List.set_cons_succ, List.set_cons_zero, List.getElem?_cons_succ, List.getElem?_cons_zero, Bool.not_true, Bool.not_false, Bool.false_eq_true, ↓reduceIte, List.length_cons, List.length_nil, List.map_cons, List.map_nil, Nat.reduceAdd, Nat.reduceLeDiff, Nat.reduceLT, Bool.true_and, Bool.and_true, Bool.false_and, Bool.and_false, List.length_map, Nat.zero_le, tN, List.map_append]) (ρ := [.dat (nD n), .own [.tuple []], .non, .non]) ⟨_, _, _, rfl, .inl rfl⟩
  rw [sSeq_n (h := by simp only [bnd_ok, bnd_err, then_ok, then_err, fVar0, fVarS, fC_e, fOp_e, fUn_e, asB_e, asI_e, fT_e, fAnd_e, fOr_e, fNot_e, fAndV_e, fOrV_e, fNotV_e, fIf_e, fChain_e, aNil_e, aCons_e, fTup_e, fLst_e, fCall_e, dTup_e, dLst_e, gAdd_i, gSub_i, gNeg_i, gEq_i, gNe_i, gLt_i, gLe_i, gGt_i, gGe_i, gIsN_e, gNotN_e, isN_n, isN_i, isN_t, isN_l, isN_b, gIsi_e, tyD_n, tyD_i, tyD_t, tyD_l, tyD_b, tyD_s, isaT_ii, isaT_bi, isaT_ib, isaT_bb, isaT_tt, isaT_ll, isaT_tb, isaT_ti, isaT_it, isaT_bt, isaT_lt, isaT_nt, isaT_st, gLen_l, gLen_t, gOne_l, gTuple_l, gTuple_t, gInt_b, gMin2_e, gMax2_e, fIt_e, items_l, items_t, fItA_e, gEnum_e, gZip_t, gNm0, gNmS, gNil_e, gCons_e, gTp_e, wipe0, wipeS, tYesD_e, sNil_e, sExpr_e, sRet_e, sRaise_e, sIf_e, sAsg_e, asF_e, sFor_e, endF_r, endF_n, endF_x, asO_s, fRg1_e, sFrz_e, gIx_t0, gIx_t1, gIx_t2, gIx_l0, gIx_l1, gIx_l2, Option.map_some, Option.bind_some, List.set_cons_succ, List.set_cons_zero, List.getElem?_cons_succ, List.getElem?_cons_zero, Bool.not_true, Bool.not_false, Bool.false_eq_true, ↓reduceIte, List.length_cons, List.length_nil, List.map_cons, List.map_nil, Nat.reduceAdd, Nat.reduceLeDiff, Nat.reduceLT, Bool.true_and, Bool.and_true, Bool.false_and, Bool.and_false, List.length_map, Nat.zero_le, rng_e n (by omega), h1]; rfl)]
  rw [List.length_range] at h2
  have ef : frz 1 [.dat (nD n), s1, j2, j3] = [.dat (nD n), .dat (.list ((cRows n).map tN)), j2, j3] := by
    rcases h2 with rfl | rfl
    · rw [frz_e (h := rfl)]; rfl
    · rw [frz_d (h := rfl)]
  rw [sFrz_e, ef]
  simp only [bnd_ok, bnd_err, then_ok, then_err, fVar0, fVarS, fC_e, fOp_e, fUn_e, asB_e, asI_e, fT_e, fAnd_e, fOr_e, fNot_e, fAndV_e, fOrV_e, fNotV_e, fIf_e, fChain_e, aNil_e, aCons_e, fTup_e, fLst_e, fCall_e, dTup_e, dLst_e, gAdd_i, gSub_i, gNeg_i, gEq_i, gNe_i, gLt_i, gLe_i, gGt_i, gGe_i, gIsN_e, gNotN_e, isN_n, isN_i, isN_t, isN_l, isN_b, gIsi_e, tyD_n, tyD_i, tyD_t, tyD_l, tyD_b, tyD_s, isaT_ii, isaT_bi, isaT_ib, isaT_bb, isaT_tt, isaT_ll, isaT_tb, isaT_ti, isaT_it, isaT_bt, isaT_lt, isaT_nt, isaT_st, gLen_l, gLen_t, gOne_l, gTuple_l, gTuple_t, gInt_b, gMin2_e, gMax2_e, fIt_e, items_l, items_t, fItA_e, gEnum_e, gZip_t, gNm0, gNmS, gNil_e, gCons_e, gTp_e, wipe0, wipeS, tYesD_e, sNil_e, sExpr_e, sRet_e, sRaise_e, sIf_e, sAsg_e, asF_e, sFor_e, endF_r, endF_n, endF_x, asO_s, fRg1_e, sFrz_e, gIx_t0, gIx_t1, gIx_t2, gIx_l0, gIx_l1, gIx_l2, Option.map_some, Option.bind_some, List.set_cons_succ, List.set_cons_zero, List.getElem?_cons_succ, List.getElem?_cons_zero, Bool.not_true, Bool.not_false, Bool.false_eq_true, ↓reduceIte, List.length_cons, List.length_nil, List.map_cons, List.map_nil, Nat.reduceAdd, Nat.reduceLeDiff, Nat.reduceLT, Bool.true_and, Bool.and_true, Bool.false_and, Bool.and_false, List.length_map, Nat.zero_le]
theorem law_rows_e (n : Nat) (hn : n ≤ 12) : m_law_rows [nD n] = .ok (.list ((cRows n).map tN)) := by
  rw [q_law_rows]; exact rows_gen n hn
theorem all_rows_e (n : Nat) (hn : n ≤ 12) : m_all_rows [nD n] = .ok (.list ((cRows n).map tN)) := by
  rw [q_all_rows]; exact rows_gen n hn
/-! ### useful spots -/
theorem mem_use {b : Belt} {ss ks : List Nat} {f s : Nat} : s ∈ cUse b ss ks f ↔ s ∈ ss ∧ cSees b s f = true ∧ ∃ k ∈ ks, sat b s ≤ kat b k := by
  unfold cUse
  rw [List.mem_filter, Bool.and_eq_true, first_some]
theorem out1_some {b : Belt} {ss ks sl : List Nat} {f : Nat} : (cOut b ss ks [f] sl).isSome = true ↔ ∃ s ∈ cUse b ss ks f, s ∉ sl := by
  rw [out_some]
  constructor
  · rintro ⟨s, h1, h2, ⟨g, hg, h3⟩, h4⟩
    rw [List.mem_singleton.mp hg] at h3
    exact ⟨s, mem_use.mpr ⟨h1, h3, h4⟩, h2⟩
  · rintro ⟨s, h1, h2⟩
    obtain ⟨g1, g2, g3⟩ := mem_use.mp h1
    exact ⟨s, g1, h2, ⟨f, by simp, g2⟩, g3⟩
theorem out1_none {b : Belt} {ss ks sl : List Nat} {f : Nat} : (cOut b ss ks [f] sl).isSome = false ↔ ∀ s ∈ cUse b ss ks f, s ∈ sl := by
  constructor
  · intro h s hs
    by_cases hm : s ∈ sl
    · exact hm
    · rw [out1_some.mpr ⟨s, hs, hm⟩] at h; cases h
  · intro h
    cases hc : (cOut b ss ks [f] sl).isSome with
    | false => rfl
    | true => obtain ⟨s, h1, h2⟩ := out1_some.mp hc; exact absurd (h s h1) h2
theorem use_rise {b : Belt} {ss ks : List Nat} (f : Nat) {m : Nat} (h : Rise m ss) : Rise m (cUse b ss ks f) := ⟨fun x hx => h.1 x (List.mem_filter.mp hx).1, h.2.filter _⟩
theorem law_holds_e {b : Belt} {ss ks : List Nat} {f : Nat} (h : b.Ok) (p : PlanOk b ss ks) (hf : f < b.F.length) : m_law_holds [eB b, eP ss ks, nD f] = .ok (lN (cUse b ss ks f)) := by
  have s8 := h.s8; have l1 := rise_len p.s
  rw [q_law_holds]
  unfold b_law_holds
  simp only [bnd_ok, bnd_err, then_ok, then_err, fVar0, fVarS, fC_e, fOp_e, fUn_e, asB_e, asI_e, fT_e, fAnd_e, fOr_e, fNot_e, fAndV_e, fOrV_e, fNotV_e, fIf_e, fChain_e, aNil_e, aCons_e, fTup_e, fLst_e, fCall_e, dTup_e, dLst_e, gAdd_i, gSub_i, gNeg_i, gEq_i, gNe_i, gLt_i, gLe_i, gGt_i, gGe_i, gIsN_e, gNotN_e, isN_n, isN_i, isN_t, isN_l, isN_b, gIsi_e, tyD_n, tyD_i, tyD_t, tyD_l, tyD_b, tyD_s, isaT_ii, isaT_bi, isaT_ib, isaT_bb, isaT_tt, isaT_ll, isaT_tb, isaT_ti, isaT_it, isaT_bt, isaT_lt, isaT_nt, isaT_st, gLen_l, gLen_t, gOne_l, gTuple_l, gTuple_t, gInt_b, gMin2_e, gMax2_e, fIt_e, items_l, items_t, fItA_e, gEnum_e, gZip_t, gNm0, gNmS, gNil_e, gCons_e, gTp_e, wipe0, wipeS, tYesD_e, sNil_e, sExpr_e, sRet_e, sRaise_e, sIf_e, sAsg_e, asF_e, sFor_e, endF_r, endF_n, endF_x, asO_s, fRg1_e, sFrz_e, gIx_t0, gIx_t1, gIx_t2, gIx_l0, gIx_l1, gIx_l2, Option.map_some, Option.bind_some, List.set_cons_succ, List.set_cons_zero, List.getElem?_cons_succ, List.getElem?_cons_zero, Bool.not_true, Bool.not_false, Bool.false_eq_true, ↓reduceIte, List.length_cons, List.length_nil, List.map_cons, List.map_nil, Nat.reduceAdd, Nat.reduceLeDiff, Nat.reduceLT, Bool.true_and, Bool.and_true, Bool.false_and, Bool.and_false, List.length_map, Nat.zero_le]
  rw [fLc_eq nD (fun s => if (cSees b s f && (cFirst b ks (sat b s)).isSome) = true then some (nD s) else none) ss (by simp only [bnd_ok, bnd_err, then_ok, then_err, fVar0, fVarS, fC_e, fOp_e, fUn_e, asB_e, asI_e, fT_e, fAnd_e, fOr_e, fNot_e, fAndV_e, fOrV_e, fNotV_e, fIf_e, fChain_e, aNil_e, aCons_e, fTup_e, fLst_e, fCall_e, dTup_e, dLst_e, gAdd_i, gSub_i, gNeg_i, gEq_i, gNe_i, gLt_i, gLe_i, gGt_i, gGe_i, gIsN_e, gNotN_e, isN_n, isN_i, isN_t, isN_l, isN_b, gIsi_e, tyD_n, tyD_i, tyD_t, tyD_l, tyD_b, tyD_s, isaT_ii, isaT_bi, isaT_ib, isaT_bb, isaT_tt, isaT_ll, isaT_tb, isaT_ti, isaT_it, isaT_bt, isaT_lt, isaT_nt, isaT_st, gLen_l, gLen_t, gOne_l, gTuple_l, gTuple_t, gInt_b, gMin2_e, gMax2_e, fIt_e, items_l, items_t, fItA_e, gEnum_e, gZip_t, gNm0, gNmS, gNil_e, gCons_e, gTp_e, wipe0, wipeS, tYesD_e, sNil_e, sExpr_e, sRet_e, sRaise_e, sIf_e, sAsg_e, asF_e, sFor_e, endF_r, endF_n, endF_x, asO_s, fRg1_e, sFrz_e, gIx_t0, gIx_t1, gIx_t2, gIx_l0, gIx_l1, gIx_l2, Option.map_some, Option.bind_some, List.set_cons_succ, List.set_cons_zero, List.getElem?_cons_succ, List.getElem?_cons_zero, Bool.not_true, Bool.not_false, Bool.false_eq_true, ↓reduceIte, List.length_cons, List.length_nil, List.map_cons, List.map_nil, Nat.reduceAdd, Nat.reduceLeDiff, Nat.reduceLT, Bool.true_and, Bool.and_true, Bool.false_and, Bool.and_false, List.length_map, Nat.zero_le]) (by omega) fun s hs => ?_]
  · simp only [bnd_ok, bnd_err, then_ok, then_err, fVar0, fVarS, fC_e, fOp_e, fUn_e, asB_e, asI_e, fT_e, fAnd_e, fOr_e, fNot_e, fAndV_e, fOrV_e, fNotV_e, fIf_e, fChain_e, aNil_e, aCons_e, fTup_e, fLst_e, fCall_e, dTup_e, dLst_e, gAdd_i, gSub_i, gNeg_i, gEq_i, gNe_i, gLt_i, gLe_i, gGt_i, gGe_i, gIsN_e, gNotN_e, isN_n, isN_i, isN_t, isN_l, isN_b, gIsi_e, tyD_n, tyD_i, tyD_t, tyD_l, tyD_b, tyD_s, isaT_ii, isaT_bi, isaT_ib, isaT_bb, isaT_tt, isaT_ll, isaT_tb, isaT_ti, isaT_it, isaT_bt, isaT_lt, isaT_nt, isaT_st, gLen_l, gLen_t, gOne_l, gTuple_l, gTuple_t, gInt_b, gMin2_e, gMax2_e, fIt_e, items_l, items_t, fItA_e, gEnum_e, gZip_t, gNm0, gNmS, gNil_e, gCons_e, gTp_e, wipe0, wipeS, tYesD_e, sNil_e, sExpr_e, sRet_e, sRaise_e, sIf_e, sAsg_e, asF_e, sFor_e, endF_r, endF_n, endF_x, asO_s, fRg1_e, sFrz_e, gIx_t0, gIx_t1, gIx_t2, gIx_l0, gIx_l1, gIx_l2, Option.map_some, Option.bind_some, List.set_cons_succ, List.set_cons_zero, List.getElem?_cons_succ, List.getElem?_cons_zero, Bool.not_true, Bool.not_false, Bool.false_eq_true, ↓reduceIte, List.length_cons, List.length_nil, List.map_cons, List.map_nil, Nat.reduceAdd, Nat.reduceLeDiff, Nat.reduceLT, Bool.true_and, Bool.and_true, Bool.false_and, Bool.and_false, List.length_map, Nat.zero_le]
    congr 2
    unfold cUse
    clear p l1
    induction ss with
    | nil => rfl
    | cons x xs ih =>
      rw [List.filterMap_cons, List.filter_cons, ih]
      cases (cSees b x f && (cFirst b ks (sat b x)).isSome) <;> rfl
  · have p1 : PlanOk b [s] ks := ⟨⟨fun x hx => by rw [List.mem_singleton.mp hx]; exact p.s.1 s hs, by simp⟩, p.k⟩
    have eo := law_out_e (bo := [f]) (sl := []) h p1 ⟨fun x hx => by rw [List.mem_singleton.mp hx]; exact hf, by simp⟩
    have eo : m_law_out [eB b, .tuple [.tuple [nD s], tN ks], .tuple [nD f], .tuple []] = .ok (oP (cOut b [s] ks [f] [])) := eo
    simp only [lcOne, bnd_ok, bnd_err, then_ok, then_err, fVar0, fVarS, fC_e, fOp_e, fUn_e, asB_e, asI_e, fT_e, fAnd_e, fOr_e, fNot_e, fAndV_e, fOrV_e, fNotV_e, fIf_e, fChain_e, aNil_e, aCons_e, fTup_e, fLst_e, fCall_e, dTup_e, dLst_e, gAdd_i, gSub_i, gNeg_i, gEq_i, gNe_i, gLt_i, gLe_i, gGt_i, gGe_i, gIsN_e, gNotN_e, isN_n, isN_i, isN_t, isN_l, isN_b, gIsi_e, tyD_n, tyD_i, tyD_t, tyD_l, tyD_b, tyD_s, isaT_ii, isaT_bi, isaT_ib, isaT_bb, isaT_tt, isaT_ll, isaT_tb, isaT_ti, isaT_it, isaT_bt, isaT_lt, isaT_nt, isaT_st, gLen_l, gLen_t, gOne_l, gTuple_l, gTuple_t, gInt_b, gMin2_e, gMax2_e, fIt_e, items_l, items_t, fItA_e, gEnum_e, gZip_t, gNm0, gNmS, gNil_e, gCons_e, gTp_e, wipe0, wipeS, tYesD_e, sNil_e, sExpr_e, sRet_e, sRaise_e, sIf_e, sAsg_e, asF_e, sFor_e, endF_r, endF_n, endF_x, asO_s, fRg1_e, sFrz_e, gIx_t0, gIx_t1, gIx_t2, gIx_l0, gIx_l1, gIx_l2, Option.map_some, Option.bind_some, List.set_cons_succ, List.set_cons_zero, List.getElem?_cons_succ, List.getElem?_cons_zero, Bool.not_true, Bool.not_false, Bool.false_eq_true, ↓reduceIte, List.length_cons, List.length_nil, List.map_cons, List.map_nil, Nat.reduceAdd, Nat.reduceLeDiff, Nat.reduceLT, Bool.true_and, Bool.and_true, Bool.false_and, Bool.and_false, List.length_map, Nat.zero_le, eo, isN_oP]
    have : (cOut b [s] ks [f] []).isSome = (cSees b s f && (cFirst b ks (sat b s)).isSome) := by
      rw [Bool.eq_iff_iff, out1_some, Bool.and_eq_true, first_some]
      constructor
      · rintro ⟨x, hx, _⟩
        obtain ⟨g1, g2, g3⟩ := mem_use.mp hx
        rw [List.mem_singleton.mp g1] at g2 g3
        exact ⟨g2, g3⟩
      · rintro ⟨g2, g3⟩
        exact ⟨s, mem_use.mpr ⟨by simp, g2, g3⟩, by simp⟩
    rw [this, Bool.not_not]
    cases (cSees b s f && (cFirst b ks (sat b s)).isSome) <;> rfl
end Bl
namespace Bl
open PySem L2 Dl
/-! ### all slips tried -/
theorem nodup_sub : ∀ {xs ys : List Nat}, xs.Nodup → (∀ x ∈ xs, x ∈ ys) → xs.length ≤ ys.length
  | [], _, _, _ => Nat.zero_le _
  | x :: xs, ys, hn, h => by
    obtain ⟨h1, h2⟩ := List.nodup_cons.mp hn
    have hx := h x List.mem_cons_self
    have := nodup_sub (ys := ys.erase x) h2 fun y hy => by
      refine (List.mem_erase_of_ne ?_).mpr (h y (List.mem_cons_of_mem _ hy))
      rintro rfl
      exact h1 hy
    rw [List.length_erase_of_mem hx] at this
    have : 0 < ys.length := List.length_pos_of_mem hx
    simp only [List.length_cons]
    omega
def pick (ss row : List Nat) : List Nat := row.map fun i => ss.getD i 0
theorem getD_mem {ss : List Nat} {i : Nat} (h : i < ss.length) : ss.getD i 0 ∈ ss := by
  rw [List.getD_eq_getElem?_getD, List.getElem?_eq_getElem h]
  exact List.getElem_mem h
theorem pick_range (ss : List Nat) : pick ss (List.range ss.length) = ss := by
  unfold pick
  refine List.ext_getElem (by simp) fun i h1 h2 => ?_
  simp [h2]
theorem pick_rise {ss row : List Nat} {m : Nat} (h : Rise m ss) (hr : Rise ss.length row) : Rise m (pick ss row) := by
  refine ⟨fun x hx => ?_, ?_⟩
  · obtain ⟨i, hi, rfl⟩ := List.mem_map.mp hx
    exact h.1 _ (getD_mem (hr.1 i hi))
  · unfold pick
    rw [List.pairwise_map]
    refine hr.2.imp_of_mem fun {a b} ha hb hab => ?_
    have h1 := hr.1 a ha
    have h2 := hr.1 b hb
    have := List.pairwise_iff_getElem.mp h.2 a b h1 h2 hab
    simpa [h1, h2] using this
theorem pick_sub {ss row : List Nat} (hr : Rise ss.length row) : ∀ x ∈ pick ss row, x ∈ ss := by
  intro x hx
  obtain ⟨i, hi, rfl⟩ := List.mem_map.mp hx
  exact getD_mem (hr.1 i hi)
def badRow (b : Belt) (ss ks : List Nat) (c f : Nat) (row : List Nat) : Bool := decide (row.length ≤ c) && !(cOut b ss ks [f] (pick ss row)).isSome
theorem any_bad {b : Belt} {ss ks : List Nat} {c f : Nat} (hs : ss.Pairwise (· < ·)) : (cRows ss.length).any (badRow b ss ks c f) = decide ((cUse b ss ks f).length ≤ c) := by
  rw [Bool.eq_iff_iff, List.any_eq_true, decide_eq_true_iff]
  constructor
  · rintro ⟨row, hr, hb⟩
    unfold badRow at hb
    rw [Bool.and_eq_true, decide_eq_true_iff, Bool.not_eq_true'] at hb
    have h1 := out1_none.mp hb.2
    have h2 := nodup_sub ((nodup_of hs).filter _) h1
    unfold pick at h2
    rw [List.length_map] at h2
    exact Nat.le_trans h2 hb.1
  · intro hc
    refine ⟨(List.range ss.length).filter fun i => cSees b (ss.getD i 0) f && (cFirst b ks (sat b (ss.getD i 0))).isSome, mem_rows.mpr ⟨fun x hx => List.mem_range.mp (List.mem_filter.mp hx).1, (rise_range _).filter _⟩, ?_⟩
    have e : pick ss ((List.range ss.length).filter fun i => cSees b (ss.getD i 0) f && (cFirst b ks (sat b (ss.getD i 0))).isSome) = cUse b ss ks f := by
      unfold cUse
      conv => rhs; rw [← pick_range ss]
      unfold pick
      rw [List.filter_map]
      rfl
    unfold badRow
    rw [Bool.and_eq_true, decide_eq_true_iff, Bool.not_eq_true', e]
    refine ⟨?_, out1_none.mpr fun s hs => hs⟩
    have := congrArg List.length e
    unfold pick at this
    rw [List.length_map] at this
    omega
theorem lt_least {b : Belt} {ss ks : List Nat} {c : Nat} (h : 1 ≤ b.F.length) : c < cLeast b ss ks ↔ ∀ f < b.F.length, c < (cUse b ss ks f).length := by
  unfold cLeast
  constructor
  · intro hc f hf
    exact Nat.lt_of_lt_of_le hc (minL_le (List.mem_map.mpr ⟨f, List.mem_range.mpr hf, rfl⟩))
  · intro hc
    obtain ⟨f, hf, e⟩ := List.mem_map.mp (minL_mem (xs := (List.range b.F.length).map fun f => (cUse b ss ks f).length) (by
      intro z
      have := congrArg List.length z
      rw [List.length_map, List.length_range, List.length_nil] at this
      omega))
    rw [← e]
    exact hc f (List.mem_range.mp hf)
theorem fs_any {α : Type} (p : α → Bool) (d : D) : ∀ xs : List α, (xs.findSome? fun x => if p x = true then some d else none) = if xs.any p = true then some d else none
  | [] => rfl
  | x :: xs => by
    rw [List.findSome?_cons, List.any_cons]
    cases p x with
    | true => rfl
    | false => exact fs_any p d xs
theorem slips_e {b : Belt} {ss ks row : List Nat} {g : Nat} (hr : Rise ss.length row) (hl : ss.length ≤ 12) {ρ : Dl.Env} {i j v : Nat} (hv : fVar i ρ = .ok (tN row)) (hw : wipeE ρ [v] = ρ.set v .non) (hj : fVar j (ρ.set v .non) = .ok (eP ss ks)) (hj' : ∀ d, gNm v d (ρ.set v .non) = some (ρ.set v (.dat d))) (hj2 : ∀ d, fVar j (ρ.set v (.dat d)) = .ok (eP ss ks)) (hj3 : ∀ d, fVar v (ρ.set v (.dat d)) = .ok d) :
    fLc (fIt (fVar i)) (gNm v) tYesD (fOp gIx (fOp gIx (fVar j) (fC (.int 0))) (fVar v)) [v] ρ = .ok (lN (pick ss row)) := by
  have := rise_len hr
  rw [fLc_map nD (fun i => nD (ss.getD i 0)) row (by simp only [bnd_ok, bnd_err, then_ok, then_err, fVar0, fVarS, fC_e, fOp_e, fUn_e, asB_e, asI_e, fT_e, fAnd_e, fOr_e, fNot_e, fAndV_e, fOrV_e, fNotV_e, fIf_e, fChain_e, aNil_e, aCons_e, fTup_e, fLst_e, fCall_e, dTup_e, dLst_e, gAdd_i, gSub_i, gNeg_i, gEq_i, gNe_i, gLt_i, gLe_i, gGt_i, gGe_i, gIsN_e, gNotN_e, isN_n, isN_i, isN_t, isN_l, isN_b, gIsi_e, tyD_n, tyD_i, tyD_t, tyD_l, tyD_b, tyD_s, isaT_ii, isaT_bi, isaT_ib, isaT_bb, isaT_tt, isaT_ll, isaT_tb, isaT_ti, isaT_it, isaT_bt, isaT_lt, isaT_nt, isaT_st, gLen_l, gLen_t, gOne_l, gTuple_l, gTuple_t, gInt_b, gMin2_e, gMax2_e, fIt_e, items_l, items_t, fItA_e, gEnum_e, gZip_t, gNm0, gNmS, gNil_e, gCons_e, gTp_e, wipe0, wipeS, tYesD_e, sNil_e, sExpr_e, sRet_e, sRaise_e, sIf_e, sAsg_e, asF_e, sFor_e, endF_r, endF_n, endF_x, asO_s, fRg1_e, sFrz_e, gIx_t0, gIx_t1, gIx_t2, gIx_l0, gIx_l1, gIx_l2, Option.map_some, Option.bind_some, List.set_cons_succ, List.set_cons_zero, List.getElem?_cons_succ, List.getElem?_cons_zero, Bool.not_true, Bool.not_false, Bool.false_eq_true, ↓reduceIte, List.length_cons, List.length_nil, List.map_cons, List.map_nil, Nat.reduceAdd, Nat.reduceLeDiff, Nat.reduceLT, Bool.true_and, Bool.and_true, Bool.false_and, Bool.and_false, List.length_map, Nat.zero_le, hv]) (by omega) fun i hi => ?_]
  · unfold pick lN
    rw [List.map_map]
    rfl
  · rw [hw]
    have hi := hr.1 i hi
    have e : gIx (tN ss) (nD i) = .ok (nD (ss.getD i 0)) := gIx_map nD ss i _ (by rw [List.getD_eq_getElem?_getD, List.getElem?_eq_getElem hi]; rfl)
    simp only [lcOne, bnd_ok, bnd_err, then_ok, then_err, fVar0, fVarS, fC_e, fOp_e, fUn_e, asB_e, asI_e, fT_e, fAnd_e, fOr_e, fNot_e, fAndV_e, fOrV_e, fNotV_e, fIf_e, fChain_e, aNil_e, aCons_e, fTup_e, fLst_e, fCall_e, dTup_e, dLst_e, gAdd_i, gSub_i, gNeg_i, gEq_i, gNe_i, gLt_i, gLe_i, gGt_i, gGe_i, gIsN_e, gNotN_e, isN_n, isN_i, isN_t, isN_l, isN_b, gIsi_e, tyD_n, tyD_i, tyD_t, tyD_l, tyD_b, tyD_s, isaT_ii, isaT_bi, isaT_ib, isaT_bb, isaT_tt, isaT_ll, isaT_tb, isaT_ti, isaT_it, isaT_bt, isaT_lt, isaT_nt, isaT_st, gLen_l, gLen_t, gOne_l, gTuple_l, gTuple_t, gInt_b, gMin2_e, gMax2_e, fIt_e, items_l, items_t, fItA_e, gEnum_e, gZip_t, gNm0, gNmS, gNil_e, gCons_e, gTp_e, wipe0, wipeS, tYesD_e, sNil_e, sExpr_e, sRet_e, sRaise_e, sIf_e, sAsg_e, asF_e, sFor_e, endF_r, endF_n, endF_x, asO_s, fRg1_e, sFrz_e, gIx_t0, gIx_t1, gIx_t2, gIx_l0, gIx_l1, gIx_l2, Option.map_some, Option.bind_some, List.set_cons_succ, List.set_cons_zero, List.getElem?_cons_succ, List.getElem?_cons_zero, Bool.not_true, Bool.not_false, Bool.false_eq_true, ↓reduceIte, List.length_cons, List.length_nil, List.map_cons, List.map_nil, Nat.reduceAdd, Nat.reduceLeDiff, Nat.reduceLT, Bool.true_and, Bool.and_true, Bool.false_and, Bool.and_false, List.length_map, Nat.zero_le, hj', hj2, hj3, e]
theorem law_bears_e {b : Belt} {ss ks : List Nat} {c : Nat} (h : b.Ok) (p : PlanOk b ss ks) : m_law_bears [eB b, eP ss ks, nD c] = .ok (.bool (decide (c < cLeast b ss ks))) := by
  have s8 := h.s8; have f6 := h.f6; have f1 := h.f1; have l1 := rise_len p.s
  rw [q_law_bears]
  unfold b_law_bears
  have L := for_find nD (gt := gNm 3) (body := l_law_bears_1) (fun ρ => ∃ j3 j4 j5 j6, ρ = [.dat (eB b), .dat (eP ss ks), .dat (nD c), j3, j4, j5, j6])
    (fun f => if decide ((cUse b ss ks f).length ≤ c) = true then some (.bool false) else none) (List.range b.F.length) (fun f hf ρ ⟨j3, j4, j5, j6, hρ⟩ => by
      subst hρ
      have hf := List.mem_range.mp hf
      have L := for_find tN (gt := gNm 4) (body := l_law_bears_0) (fun ρ => ∃ j4 j5 j6, ρ = [.dat (eB b), .dat (eP ss ks), .dat (nD c), .dat (nD f), j4, j5, j6])
        (fun row => if badRow b ss ks c f row = true then some (.bool false) else none) (cRows ss.length) (fun row hr ρ ⟨j4, j5, j6, hρ⟩ => by
          subst hρ
          have hr := mem_rows.mp hr
          have eo := law_out_e (bo := [f]) (sl := pick ss row) h p ⟨fun x hx => by rw [List.mem_singleton.mp hx]; exact hf, by simp⟩
          have eo : m_law_out [eB b, eP ss ks, .tuple [nD f], tN (pick ss row)] = .ok (oP (cOut b ss ks [f] (pick ss row))) := eo
          have es := slips_e (b := b) (g := 0) (ρ := [.dat (eB b), .dat (eP ss ks), .dat (nD c), .dat (nD f), .dat (tN row), j5, j6]) (i := 4) (j := 1) (v := 6) hr (by omega) rfl rfl rfl (fun _ => rfl) (fun _ => rfl) (fun _ => rfl)
          have ed : decide ((row.length : Int) ≤ (c : Int)) = decide (row.length ≤ c) := by simp
          unfold badRow
          cases h1 : decide (row.length ≤ c) with
          | false =>
            refine ⟨_, forOne_n (ρ1 := [.dat (eB b), .dat (eP ss ks), .dat (nD c), .dat (nD f), .dat (tN row), j5, j6]) (by simp only [bnd_ok, bnd_err, then_ok, then_err, fVar0, fVarS, fC_e, fOp_e, fUn_e, asB_e, asI_e, fT_e, fAnd_e, fOr_e, fNot_e, fAndV_e, fOrV_e, fNotV_e, fIf_e, fChain_e, aNil_e, aCons_e, fTup_e, fLst_e, fCall_e, dTup_e, dLst_e, gAdd_i, gSub_i, gNeg_i, gEq_i, gNe_i, gLt_i, gLe_i, gGt_i, gGe_i, gIsN_e, gNotN_e, isN_n, isN_i, isN_t, isN_l, isN_b, gIsi_e, tyD_n, tyD_i, tyD_t, tyD_l, tyD_b, tyD_s, isaT_ii, isaT_bi, isaT_ib, isaT_bb, isaT_tt, isaT_ll, isaT_tb, isaT_ti, isaT_it, isaT_bt, isaT_lt, isaT_nt, isaT_st, gLen_l, gLen_t, gOne_l, gTuple_l, gTuple_t, gInt_b, gMin2_e, gMax2_e, fIt_e, items_l, items_t, fItA_e, gEnum_e, gZip_t, gNm0, gNmS, gNil_e, gCons_e, gTp_e, wipe0, wipeS, tYesD_e, sNil_e, sExpr_e, sRet_e, sRaise_e, sIf_e, sAsg_e, asF_e, sFor_e, endF_r, endF_n, endF_x, asO_s, fRg1_e, sFrz_e, gIx_t0, gIx_t1, gIx_t2, gIx_l0, gIx_l1, gIx_l2, Option.map_some, Option.bind_some, List.set_cons_succ, List.set_cons_zero, List.getElem?_cons_succ, List.getElem?_cons_zero, Bool.not_true, Bool.not_false, Bool.false_eq_true, ↓reduceIte, List.length_cons, List.length_nil, List.map_cons, List.map_nil, Nat.reduceAdd, Nat.reduceLeDiff, Nat.reduceLT, Bool.true_and, Bool.and_true, Bool.false_and, Bool.and_false, List.length_map, Nat.zero_le]) ?_, .dat (tN row), .dat (tN (pick ss row)), j6, rfl⟩
            unfold l_law_bears_0
            rw [sSeq_n (h := by simp only [bnd_ok, bnd_err, then_ok, then_err, fVar0, fVarS, fC_e, fOp_e, fUn_e, asB_e, asI_e, fT_e, fAnd_e, fOr_e, fNot_e, fAndV_e, fOrV_e, fNotV_e, fIf_e, fChain_e, aNil_e, aCons_e, fTup_e, fLst_e, fCall_e, dTup_e, dLst_e, gAdd_i, gSub_i, gNeg_i, gEq_i, gNe_i, gLt_i, gLe_i, gGt_i, gGe_i, gIsN_e, gNotN_e, isN_n, isN_i, isN_t, isN_l, isN_b, gIsi_e, tyD_n, tyD_i, tyD_t, tyD_l, tyD_b, tyD_s, isaT_ii, isaT_bi, isaT_ib, isaT_bb, isaT_tt, isaT_ll, isaT_tb, isaT_ti, isaT_it, isaT_bt, isaT_lt, isaT_nt, isaT_st, gLen_l, gLen_t, gOne_l, gTuple_l, gTuple_t, gInt_b, gMin2_e, gMax2_e, fIt_e, items_l, items_t, fItA_e, gEnum_e, gZip_t, gNm0, gNmS, gNil_e, gCons_e, gTp_e, wipe0, wipeS, tYesD_e, sNil_e, sExpr_e, sRet_e, sRaise_e, sIf_e, sAsg_e, asF_e, sFor_e, endF_r, endF_n, endF_x, asO_s, fRg1_e, sFrz_e, gIx_t0, gIx_t1, gIx_t2, gIx_l0, gIx_l1, gIx_l2, Option.map_some, Option.bind_some, List.set_cons_succ, List.set_cons_zero, List.getElem?_cons_succ, List.getElem?_cons_zero, Bool.not_true, Bool.not_false, Bool.false_eq_true, ↓reduceIte, List.length_cons, List.length_nil, List.map_cons, List.map_nil, Nat.reduceAdd, Nat.reduceLeDiff, Nat.reduceLT, Bool.true_and, Bool.and_true, Bool.false_and, Bool.and_false, List.length_map, Nat.zero_le, es]; rfl)]
            simp only [bnd_ok, bnd_err, then_ok, then_err, fVar0, fVarS, fC_e, fOp_e, fUn_e, asB_e, asI_e, fT_e, fAnd_e, fOr_e, fNot_e, fAndV_e, fOrV_e, fNotV_e, fIf_e, fChain_e, aNil_e, aCons_e, fTup_e, fLst_e, fCall_e, dTup_e, dLst_e, gAdd_i, gSub_i, gNeg_i, gEq_i, gNe_i, gLt_i, gLe_i, gGt_i, gGe_i, gIsN_e, gNotN_e, isN_n, isN_i, isN_t, isN_l, isN_b, gIsi_e, tyD_n, tyD_i, tyD_t, tyD_l, tyD_b, tyD_s, isaT_ii, isaT_bi, isaT_ib, isaT_bb, isaT_tt, isaT_ll, isaT_tb, isaT_ti, isaT_it, isaT_bt, isaT_lt, isaT_nt, isaT_st, gLen_l, gLen_t, gOne_l, gTuple_l, gTuple_t, gInt_b, gMin2_e, gMax2_e, fIt_e, items_l, items_t, fItA_e, gEnum_e, gZip_t, gNm0, gNmS, gNil_e, gCons_e, gTp_e, wipe0, wipeS, tYesD_e, sNil_e, sExpr_e, sRet_e, sRaise_e, sIf_e, sAsg_e, asF_e, sFor_e, endF_r, endF_n, endF_x, asO_s, fRg1_e, sFrz_e, gIx_t0, gIx_t1, gIx_t2, gIx_l0, gIx_l1, gIx_l2, Option.map_some, Option.bind_some, List.set_cons_succ, List.set_cons_zero, List.getElem?_cons_succ, List.getElem?_cons_zero, Bool.not_true, Bool.not_false, Bool.false_eq_true, ↓reduceIte, List.length_cons, List.length_nil, List.map_cons, List.map_nil, Nat.reduceAdd, Nat.reduceLeDiff, Nat.reduceLT, Bool.true_and, Bool.and_true, Bool.false_and, Bool.and_false, List.length_map, Nat.zero_le, ed, h1]
          | true =>
            cases h2 : (cOut b ss ks [f] (pick ss row)).isSome with
            | true =>
              refine ⟨_, forOne_n (ρ1 := [.dat (eB b), .dat (eP ss ks), .dat (nD c), .dat (nD f), .dat (tN row), j5, j6]) (by simp only [bnd_ok, bnd_err, then_ok, then_err, fVar0, fVarS, fC_e, fOp_e, fUn_e, asB_e, asI_e, fT_e, fAnd_e, fOr_e, fNot_e, fAndV_e, fOrV_e, fNotV_e, fIf_e, fChain_e, aNil_e, aCons_e, fTup_e, fLst_e, fCall_e, dTup_e, dLst_e, gAdd_i, gSub_i, gNeg_i, gEq_i, gNe_i, gLt_i, gLe_i, gGt_i, gGe_i, gIsN_e, gNotN_e, isN_n, isN_i, isN_t, isN_l, isN_b, gIsi_e, tyD_n, tyD_i, tyD_t, tyD_l, tyD_b, tyD_s, isaT_ii, isaT_bi, isaT_ib, isaT_bb, isaT_tt, isaT_ll, isaT_tb, isaT_ti, isaT_it, isaT_bt, isaT_lt, isaT_nt, isaT_st, gLen_l, gLen_t, gOne_l, gTuple_l, gTuple_t, gInt_b, gMin2_e, gMax2_e, fIt_e, items_l, items_t, fItA_e, gEnum_e, gZip_t, gNm0, gNmS, gNil_e, gCons_e, gTp_e, wipe0, wipeS, tYesD_e, sNil_e, sExpr_e, sRet_e, sRaise_e, sIf_e, sAsg_e, asF_e, sFor_e, endF_r, endF_n, endF_x, asO_s, fRg1_e, sFrz_e, gIx_t0, gIx_t1, gIx_t2, gIx_l0, gIx_l1, gIx_l2, Option.map_some, Option.bind_some, List.set_cons_succ, List.set_cons_zero, List.getElem?_cons_succ, List.getElem?_cons_zero, Bool.not_true, Bool.not_false, Bool.false_eq_true, ↓reduceIte, List.length_cons, List.length_nil, List.map_cons, List.map_nil, Nat.reduceAdd, Nat.reduceLeDiff, Nat.reduceLT, Bool.true_and, Bool.and_true, Bool.false_and, Bool.and_false, List.length_map, Nat.zero_le]) ?_, .dat (tN row), .dat (tN (pick ss row)), j6, rfl⟩
              unfold l_law_bears_0
              rw [sSeq_n (h := by simp only [bnd_ok, bnd_err, then_ok, then_err, fVar0, fVarS, fC_e, fOp_e, fUn_e, asB_e, asI_e, fT_e, fAnd_e, fOr_e, fNot_e, fAndV_e, fOrV_e, fNotV_e, fIf_e, fChain_e, aNil_e, aCons_e, fTup_e, fLst_e, fCall_e, dTup_e, dLst_e, gAdd_i, gSub_i, gNeg_i, gEq_i, gNe_i, gLt_i, gLe_i, gGt_i, gGe_i, gIsN_e, gNotN_e, isN_n, isN_i, isN_t, isN_l, isN_b, gIsi_e, tyD_n, tyD_i, tyD_t, tyD_l, tyD_b, tyD_s, isaT_ii, isaT_bi, isaT_ib, isaT_bb, isaT_tt, isaT_ll, isaT_tb, isaT_ti, isaT_it, isaT_bt, isaT_lt, isaT_nt, isaT_st, gLen_l, gLen_t, gOne_l, gTuple_l, gTuple_t, gInt_b, gMin2_e, gMax2_e, fIt_e, items_l, items_t, fItA_e, gEnum_e, gZip_t, gNm0, gNmS, gNil_e, gCons_e, gTp_e, wipe0, wipeS, tYesD_e, sNil_e, sExpr_e, sRet_e, sRaise_e, sIf_e, sAsg_e, asF_e, sFor_e, endF_r, endF_n, endF_x, asO_s, fRg1_e, sFrz_e, gIx_t0, gIx_t1, gIx_t2, gIx_l0, gIx_l1, gIx_l2, Option.map_some, Option.bind_some, List.set_cons_succ, List.set_cons_zero, List.getElem?_cons_succ, List.getElem?_cons_zero, Bool.not_true, Bool.not_false, Bool.false_eq_true, ↓reduceIte, List.length_cons, List.length_nil, List.map_cons, List.map_nil, Nat.reduceAdd, Nat.reduceLeDiff, Nat.reduceLT, Bool.true_and, Bool.and_true, Bool.false_and, Bool.and_false, List.length_map, Nat.zero_le, es]; rfl)]
              simp only [bnd_ok, bnd_err, then_ok, then_err, fVar0, fVarS, fC_e, fOp_e, fUn_e, asB_e, asI_e, fT_e, fAnd_e, fOr_e, fNot_e, fAndV_e, fOrV_e, fNotV_e, fIf_e, fChain_e, aNil_e, aCons_e, fTup_e, fLst_e, fCall_e, dTup_e, dLst_e, gAdd_i, gSub_i, gNeg_i, gEq_i, gNe_i, gLt_i, gLe_i, gGt_i, gGe_i, gIsN_e, gNotN_e, isN_n, isN_i, isN_t, isN_l, isN_b, gIsi_e, tyD_n, tyD_i, tyD_t, tyD_l, tyD_b, tyD_s, isaT_ii, isaT_bi, isaT_ib, isaT_bb, isaT_tt, isaT_ll, isaT_tb, isaT_ti, isaT_it, isaT_bt, isaT_lt, isaT_nt, isaT_st, gLen_l, gLen_t, gOne_l, gTuple_l, gTuple_t, gInt_b, gMin2_e, gMax2_e, fIt_e, items_l, items_t, fItA_e, gEnum_e, gZip_t, gNm0, gNmS, gNil_e, gCons_e, gTp_e, wipe0, wipeS, tYesD_e, sNil_e, sExpr_e, sRet_e, sRaise_e, sIf_e, sAsg_e, asF_e, sFor_e, endF_r, endF_n, endF_x, asO_s, fRg1_e, sFrz_e, gIx_t0, gIx_t1, gIx_t2, gIx_l0, gIx_l1, gIx_l2, Option.map_some, Option.bind_some, List.set_cons_succ, List.set_cons_zero, List.getElem?_cons_succ, List.getElem?_cons_zero, Bool.not_true, Bool.not_false, Bool.false_eq_true, ↓reduceIte, List.length_cons, List.length_nil, List.map_cons, List.map_nil, Nat.reduceAdd, Nat.reduceLeDiff, Nat.reduceLT, Bool.true_and, Bool.and_true, Bool.false_and, Bool.and_false, List.length_map, Nat.zero_le, ed, h1, eo, isN_oP, h2]
            | false =>
              refine forOne_r (ρ1 := [.dat (eB b), .dat (eP ss ks), .dat (nD c), .dat (nD f), .dat (tN row), j5, j6]) (by simp only [bnd_ok, bnd_err, then_ok, then_err, fVar0, fVarS, fC_e, fOp_e, fUn_e, asB_e, asI_e, fT_e, fAnd_e, fOr_e, fNot_e, fAndV_e, fOrV_e, fNotV_e, fIf_e, fChain_e, aNil_e, aCons_e, fTup_e, fLst_e, fCall_e, dTup_e, dLst_e, gAdd_i, gSub_i, gNeg_i, gEq_i, gNe_i, gLt_i, gLe_i, gGt_i, gGe_i, gIsN_e, gNotN_e, isN_n, isN_i, isN_t, isN_l, isN_b, gIsi_e, tyD_n, tyD_i, tyD_t, tyD_l, tyD_b, tyD_s, isaT_ii, isaT_bi, isaT_ib, isaT_bb, isaT_tt, isaT_ll, isaT_tb, isaT_ti, isaT_it, isaT_bt, isaT_lt, isaT_nt, isaT_st, gLen_l, gLen_t, gOne_l, gTuple_l, gTuple_t, gInt_b, gMin2_e, gMax2_e, fIt_e, items_l, items_t, fItA_e, gEnum_e, gZip_t, gNm0, gNmS, gNil_e, gCons_e, gTp_e, wipe0, wipeS, tYesD_e, sNil_e, sExpr_e, sRet_e, sRaise_e, sIf_e, sAsg_e, asF_e, sFor_e, endF_r, endF_n, endF_x, asO_s, fRg1_e, sFrz_e, gIx_t0, gIx_t1, gIx_t2, gIx_l0, gIx_l1, gIx_l2, Option.map_some, Option.bind_some, List.set_cons_succ, List.set_cons_zero, List.getElem?_cons_succ, List.getElem?_cons_zero, Bool.not_true, Bool.not_false, Bool.false_eq_true, ↓reduceIte, List.length_cons, List.length_nil, List.map_cons, List.map_nil, Nat.reduceAdd, Nat.reduceLeDiff, Nat.reduceLT, Bool.true_and, Bool.and_true, Bool.false_and, Bool.and_false, List.length_map, Nat.zero_le]) ?_
              unfold l_law_bears_0
              rw [sSeq_n (h := by simp only [bnd_ok, bnd_err, then_ok, then_err, fVar0, fVarS, fC_e, fOp_e, fUn_e, asB_e, asI_e, fT_e, fAnd_e, fOr_e, fNot_e, fAndV_e, fOrV_e, fNotV_e, fIf_e, fChain_e, aNil_e, aCons_e, fTup_e, fLst_e, fCall_e, dTup_e, dLst_e, gAdd_i, gSub_i, gNeg_i, gEq_i, gNe_i, gLt_i, gLe_i, gGt_i, gGe_i, gIsN_e, gNotN_e, isN_n, isN_i, isN_t, isN_l, isN_b, gIsi_e, tyD_n, tyD_i, tyD_t, tyD_l, tyD_b, tyD_s, isaT_ii, isaT_bi, isaT_ib, isaT_bb, isaT_tt, isaT_ll, isaT_tb, isaT_ti, isaT_it, isaT_bt, isaT_lt, isaT_nt, isaT_st, gLen_l, gLen_t, gOne_l, gTuple_l, gTuple_t, gInt_b, gMin2_e, gMax2_e, fIt_e, items_l, items_t, fItA_e, gEnum_e, gZip_t, gNm0, gNmS, gNil_e, gCons_e, gTp_e, wipe0, wipeS, tYesD_e, sNil_e, sExpr_e, sRet_e, sRaise_e, sIf_e, sAsg_e, asF_e, sFor_e, endF_r, endF_n, endF_x, asO_s, fRg1_e, sFrz_e, gIx_t0, gIx_t1, gIx_t2, gIx_l0, gIx_l1, gIx_l2, Option.map_some, Option.bind_some, List.set_cons_succ, List.set_cons_zero, List.getElem?_cons_succ, List.getElem?_cons_zero, Bool.not_true, Bool.not_false, Bool.false_eq_true, ↓reduceIte, List.length_cons, List.length_nil, List.map_cons, List.map_nil, Nat.reduceAdd, Nat.reduceLeDiff, Nat.reduceLT, Bool.true_and, Bool.and_true, Bool.false_and, Bool.and_false, List.length_map, Nat.zero_le, es]; rfl)]
              simp only [bnd_ok, bnd_err, then_ok, then_err, fVar0, fVarS, fC_e, fOp_e, fUn_e, asB_e, asI_e, fT_e, fAnd_e, fOr_e, fNot_e, fAndV_e, fOrV_e, fNotV_e, fIf_e, fChain_e, aNil_e, aCons_e, fTup_e, fLst_e, fCall_e, dTup_e, dLst_e, gAdd_i, gSub_i, gNeg_i, gEq_i, gNe_i, gLt_i, gLe_i, gGt_i, gGe_i, gIsN_e, gNotN_e, isN_n, isN_i, isN_t, isN_l, isN_b, gIsi_e, tyD_n, tyD_i, tyD_t, tyD_l, tyD_b, tyD_s, isaT_ii, isaT_bi, isaT_ib, isaT_bb, isaT_tt, isaT_ll, isaT_tb, isaT_ti, isaT_it, isaT_bt, isaT_lt, isaT_nt, isaT_st, gLen_l, gLen_t, gOne_l, gTuple_l, gTuple_t, gInt_b, gMin2_e, gMax2_e, fIt_e, items_l, items_t, fItA_e, gEnum_e, gZip_t, gNm0, gNmS, gNil_e, gCons_e, gTp_e, wipe0, wipeS, tYesD_e, sNil_e, sExpr_e, sRet_e, sRaise_e, sIf_e, sAsg_e, asF_e, sFor_e, endF_r, endF_n, endF_x, asO_s, fRg1_e, sFrz_e, gIx_t0, gIx_t1, gIx_t2, gIx_l0, gIx_l1, gIx_l2, Option.map_some, Option.bind_some, List.set_cons_succ, List.set_cons_zero, List.getElem?_cons_succ, List.getElem?_cons_zero, Bool.not_true, Bool.not_false, Bool.false_eq_true, ↓reduceIte, List.length_cons, List.length_nil, List.map_cons, List.map_nil, Nat.reduceAdd, Nat.reduceLeDiff, Nat.reduceLT, Bool.true_and, Bool.and_true, Bool.false_and, Bool.and_false, List.length_map, Nat.zero_le, ed, h1, eo, isN_oP, h2]) (ρ := [.dat (eB b), .dat (eP ss ks), .dat (nD c), .dat (nD f), j4, j5, j6]) ⟨_, _, _, rfl⟩
      rw [fs_any, any_bad p.s.2] at L
      cases hd : decide ((cUse b ss ks f).length ≤ c) with
      | true =>
        rw [hd] at L
        refine forOne_r (ρ1 := [.dat (eB b), .dat (eP ss ks), .dat (nD c), .dat (nD f), j4, j5, j6]) (by simp only [bnd_ok, bnd_err, then_ok, then_err, fVar0, fVarS, fC_e, fOp_e, fUn_e, asB_e, asI_e, fT_e, fAnd_e, fOr_e, fNot_e, fAndV_e, fOrV_e, fNotV_e, fIf_e, fChain_e, aNil_e, aCons_e, fTup_e, fLst_e, fCall_e, dTup_e, dLst_e, gAdd_i, gSub_i, gNeg_i, gEq_i, gNe_i, gLt_i, gLe_i, gGt_i, gGe_i, gIsN_e, gNotN_e, isN_n, isN_i, isN_t, isN_l, isN_b, gIsi_e, tyD_n, tyD_i, tyD_t, tyD_l, tyD_b, tyD_s, isaT_ii, isaT_bi, isaT_ib, isaT_bb, isaT_tt, isaT_ll, isaT_tb, isaT_ti, isaT_it, isaT_bt, isaT_lt, isaT_nt, isaT_st, gLen_l, gLen_t, gOne_l, gTuple_l, gTuple_t, gInt_b, gMin2_e, gMax2_e, fIt_e, items_l, items_t, fItA_e, gEnum_e, gZip_t, gNm0, gNmS, gNil_e, gCons_e, gTp_e, wipe0, wipeS, tYesD_e, sNil_e, sExpr_e, sRet_e, sRaise_e, sIf_e, sAsg_e, asF_e, sFor_e, endF_r, endF_n, endF_x, asO_s, fRg1_e, sFrz_e, gIx_t0, gIx_t1, gIx_t2, gIx_l0, gIx_l1, gIx_l2, Option.map_some, Option.bind_some, List.set_cons_succ, List.set_cons_zero, List.getElem?_cons_succ, List.getElem?_cons_zero, Bool.not_true, Bool.not_false, Bool.false_eq_true, ↓reduceIte, List.length_cons, List.length_nil, List.map_cons, List.map_nil, Nat.reduceAdd, Nat.reduceLeDiff, Nat.reduceLT, Bool.true_and, Bool.and_true, Bool.false_and, Bool.and_false, List.length_map, Nat.zero_le]) ?_
        unfold l_law_bears_1
        simp only [bnd_ok, bnd_err, then_ok, then_err, fVar0, fVarS, fC_e, fOp_e, fUn_e, asB_e, asI_e, fT_e, fAnd_e, fOr_e, fNot_e, fAndV_e, fOrV_e, fNotV_e, fIf_e, fChain_e, aNil_e, aCons_e, fTup_e, fLst_e, fCall_e, dTup_e, dLst_e, gAdd_i, gSub_i, gNeg_i, gEq_i, gNe_i, gLt_i, gLe_i, gGt_i, gGe_i, gIsN_e, gNotN_e, isN_n, isN_i, isN_t, isN_l, isN_b, gIsi_e, tyD_n, tyD_i, tyD_t, tyD_l, tyD_b, tyD_s, isaT_ii, isaT_bi, isaT_ib, isaT_bb, isaT_tt, isaT_ll, isaT_tb, isaT_ti, isaT_it, isaT_bt, isaT_lt, isaT_nt, isaT_st, gLen_l, gLen_t, gOne_l, gTuple_l, gTuple_t, gInt_b, gMin2_e, gMax2_e, fIt_e, items_l, items_t, fItA_e, gEnum_e, gZip_t, gNm0, gNmS, gNil_e, gCons_e, gTp_e, wipe0, wipeS, tYesD_e, sNil_e, sExpr_e, sRet_e, sRaise_e, sIf_e, sAsg_e, asF_e, sFor_e, endF_r, endF_n, endF_x, asO_s, fRg1_e, sFrz_e, gIx_t0, gIx_t1, gIx_t2, gIx_l0, gIx_l1, gIx_l2, Option.map_some, Option.bind_some, List.set_cons_succ, List.set_cons_zero, List.getElem?_cons_succ, List.getElem?_cons_zero, Bool.not_true, Bool.not_false, Bool.false_eq_true, ↓reduceIte, List.length_cons, List.length_nil, List.map_cons, List.map_nil, Nat.reduceAdd, Nat.reduceLeDiff, Nat.reduceLT, Bool.true_and, Bool.and_true, Bool.false_and, Bool.and_false, List.length_map, Nat.zero_le, law_rows_e ss.length (by omega)]
        exact L
      | false =>
        rw [hd] at L
        obtain ⟨ρ', L, k4, k5, k6, rfl⟩ := L
        refine ⟨_, forOne_n (ρ1 := [.dat (eB b), .dat (eP ss ks), .dat (nD c), .dat (nD f), j4, j5, j6]) (by simp only [bnd_ok, bnd_err, then_ok, then_err, fVar0, fVarS, fC_e, fOp_e, fUn_e, asB_e, asI_e, fT_e, fAnd_e, fOr_e, fNot_e, fAndV_e, fOrV_e, fNotV_e, fIf_e, fChain_e, aNil_e, aCons_e, fTup_e, fLst_e, fCall_e, dTup_e, dLst_e, gAdd_i, gSub_i, gNeg_i, gEq_i, gNe_i, gLt_i, gLe_i, gGt_i, gGe_i, gIsN_e, gNotN_e, isN_n, isN_i, isN_t, isN_l, isN_b, gIsi_e, tyD_n, tyD_i, tyD_t, tyD_l, tyD_b, tyD_s, isaT_ii, isaT_bi, isaT_ib, isaT_bb, isaT_tt, isaT_ll, isaT_tb, isaT_ti, isaT_it, isaT_bt, isaT_lt, isaT_nt, isaT_st, gLen_l, gLen_t, gOne_l, gTuple_l, gTuple_t, gInt_b, gMin2_e, gMax2_e, fIt_e, items_l, items_t, fItA_e, gEnum_e, gZip_t, gNm0, gNmS, gNil_e, gCons_e, gTp_e, wipe0, wipeS, tYesD_e, sNil_e, sExpr_e, sRet_e, sRaise_e, sIf_e, sAsg_e, asF_e, sFor_e, endF_r, endF_n, endF_x, asO_s, fRg1_e, sFrz_e, gIx_t0, gIx_t1, gIx_t2, gIx_l0, gIx_l1, gIx_l2, Option.map_some, Option.bind_some, List.set_cons_succ, List.set_cons_zero, List.getElem?_cons_succ, List.getElem?_cons_zero, Bool.not_true, Bool.not_false, Bool.false_eq_true, ↓reduceIte, List.length_cons, List.length_nil, List.map_cons, List.map_nil, Nat.reduceAdd, Nat.reduceLeDiff, Nat.reduceLT, Bool.true_and, Bool.and_true, Bool.false_and, Bool.and_false, List.length_map, Nat.zero_le]) ?_, .dat (nD f), k4, k5, k6, rfl⟩
        unfold l_law_bears_1
        simp only [bnd_ok, bnd_err, then_ok, then_err, fVar0, fVarS, fC_e, fOp_e, fUn_e, asB_e, asI_e, fT_e, fAnd_e, fOr_e, fNot_e, fAndV_e, fOrV_e, fNotV_e, fIf_e, fChain_e, aNil_e, aCons_e, fTup_e, fLst_e, fCall_e, dTup_e, dLst_e, gAdd_i, gSub_i, gNeg_i, gEq_i, gNe_i, gLt_i, gLe_i, gGt_i, gGe_i, gIsN_e, gNotN_e, isN_n, isN_i, isN_t, isN_l, isN_b, gIsi_e, tyD_n, tyD_i, tyD_t, tyD_l, tyD_b, tyD_s, isaT_ii, isaT_bi, isaT_ib, isaT_bb, isaT_tt, isaT_ll, isaT_tb, isaT_ti, isaT_it, isaT_bt, isaT_lt, isaT_nt, isaT_st, gLen_l, gLen_t, gOne_l, gTuple_l, gTuple_t, gInt_b, gMin2_e, gMax2_e, fIt_e, items_l, items_t, fItA_e, gEnum_e, gZip_t, gNm0, gNmS, gNil_e, gCons_e, gTp_e, wipe0, wipeS, tYesD_e, sNil_e, sExpr_e, sRet_e, sRaise_e, sIf_e, sAsg_e, asF_e, sFor_e, endF_r, endF_n, endF_x, asO_s, fRg1_e, sFrz_e, gIx_t0, gIx_t1, gIx_t2, gIx_l0, gIx_l1, gIx_l2, Option.map_some, Option.bind_some, List.set_cons_succ, List.set_cons_zero, List.getElem?_cons_succ, List.getElem?_cons_zero, Bool.not_true, Bool.not_false, Bool.false_eq_true, ↓reduceIte, List.length_cons, List.length_nil, List.map_cons, List.map_nil, Nat.reduceAdd, Nat.reduceLeDiff, Nat.reduceLT, Bool.true_and, Bool.and_true, Bool.false_and, Bool.and_false, List.length_map, Nat.zero_le, law_rows_e ss.length (by omega)]
        exact L) (ρ := [.dat (eB b), .dat (eP ss ks), .dat (nD c), .non, .non, .non, .non]) ⟨_, _, _, _, rfl⟩
  rw [fs_any] at L
  cases ha : (List.range b.F.length).any fun f => decide ((cUse b ss ks f).length ≤ c) with
  | true =>
    rw [ha] at L
    rw [sSeq_r (d := .bool false) (h := by simp only [bnd_ok, bnd_err, then_ok, then_err, fVar0, fVarS, fC_e, fOp_e, fUn_e, asB_e, asI_e, fT_e, fAnd_e, fOr_e, fNot_e, fAndV_e, fOrV_e, fNotV_e, fIf_e, fChain_e, aNil_e, aCons_e, fTup_e, fLst_e, fCall_e, dTup_e, dLst_e, gAdd_i, gSub_i, gNeg_i, gEq_i, gNe_i, gLt_i, gLe_i, gGt_i, gGe_i, gIsN_e, gNotN_e, isN_n, isN_i, isN_t, isN_l, isN_b, gIsi_e, tyD_n, tyD_i, tyD_t, tyD_l, tyD_b, tyD_s, isaT_ii, isaT_bi, isaT_ib, isaT_bb, isaT_tt, isaT_ll, isaT_tb, isaT_ti, isaT_it, isaT_bt, isaT_lt, isaT_nt, isaT_st, gLen_l, gLen_t, gOne_l, gTuple_l, gTuple_t, gInt_b, gMin2_e, gMax2_e, fIt_e, items_l, items_t, fItA_e, gEnum_e, gZip_t, gNm0, gNmS, gNil_e, gCons_e, gTp_e, wipe0, wipeS, tYesD_e, sNil_e, sExpr_e, sRet_e, sRaise_e, sIf_e, sAsg_e, asF_e, sFor_e, endF_r, endF_n, endF_x, asO_s, fRg1_e, sFrz_e, gIx_t0, gIx_t1, gIx_t2, gIx_l0, gIx_l1, gIx_l2, Option.map_some, Option.bind_some, List.set_cons_succ, List.set_cons_zero, List.getElem?_cons_succ, List.getElem?_cons_zero, Bool.not_true, Bool.not_false, Bool.false_eq_true, ↓reduceIte, List.length_cons, List.length_nil, List.map_cons, List.map_nil, Nat.reduceAdd, Nat.reduceLeDiff, Nat.reduceLT, Bool.true_and, Bool.and_true, Bool.false_and, Bool.and_false, List.length_map, Nat.zero_le, rng_e b.F.length (by omega)]; exact L)]
    obtain ⟨f, hf, hc⟩ := List.any_eq_true.mp ha
    have : decide (c < cLeast b ss ks) = false := decide_eq_false fun z => by
      have := (lt_least f1).mp z f (List.mem_range.mp hf)
      have := of_decide_eq_true hc
      omega
    rw [this]
    rfl
  | false =>
    rw [ha] at L
    obtain ⟨ρ', L, _⟩ := L
    rw [sSeq_n (h := by simp only [bnd_ok, bnd_err, then_ok, then_err, fVar0, fVarS, fC_e, fOp_e, fUn_e, asB_e, asI_e, fT_e, fAnd_e, fOr_e, fNot_e, fAndV_e, fOrV_e, fNotV_e, fIf_e, fChain_e, aNil_e, aCons_e, fTup_e, fLst_e, fCall_e, dTup_e, dLst_e, gAdd_i, gSub_i, gNeg_i, gEq_i, gNe_i, gLt_i, gLe_i, gGt_i, gGe_i, gIsN_e, gNotN_e, isN_n, isN_i, isN_t, isN_l, isN_b, gIsi_e, tyD_n, tyD_i, tyD_t, tyD_l, tyD_b, tyD_s, isaT_ii, isaT_bi, isaT_ib, isaT_bb, isaT_tt, isaT_ll, isaT_tb, isaT_ti, isaT_it, isaT_bt, isaT_lt, isaT_nt, isaT_st, gLen_l, gLen_t, gOne_l, gTuple_l, gTuple_t, gInt_b, gMin2_e, gMax2_e, fIt_e, items_l, items_t, fItA_e, gEnum_e, gZip_t, gNm0, gNmS, gNil_e, gCons_e, gTp_e, wipe0, wipeS, tYesD_e, sNil_e, sExpr_e, sRet_e, sRaise_e, sIf_e, sAsg_e, asF_e, sFor_e, endF_r, endF_n, endF_x, asO_s, fRg1_e, sFrz_e, gIx_t0, gIx_t1, gIx_t2, gIx_l0, gIx_l1, gIx_l2, Option.map_some, Option.bind_some, List.set_cons_succ, List.set_cons_zero, List.getElem?_cons_succ, List.getElem?_cons_zero, Bool.not_true, Bool.not_false, Bool.false_eq_true, ↓reduceIte, List.length_cons, List.length_nil, List.map_cons, List.map_nil, Nat.reduceAdd, Nat.reduceLeDiff, Nat.reduceLT, Bool.true_and, Bool.and_true, Bool.false_and, Bool.and_false, List.length_map, Nat.zero_le, rng_e b.F.length (by omega)]; exact L)]
    have : decide (c < cLeast b ss ks) = true := decide_eq_true ((lt_least f1).mpr fun f hf => by
      have := List.any_eq_false.mp ha f (List.mem_range.mpr hf)
      have : ¬ (cUse b ss ks f).length ≤ c := by simpa using this
      omega)
    rw [this]
    rfl
theorem law_no_sooner_e {b : Belt} {ss ks : List Nat} (h : b.Ok) (p : PlanOk b ss ks) : m_law_no_sooner [eB b, eP ss ks] = .ok (.bool true) := by
  have s8 := h.s8; have f6 := h.f6; have f1 := h.f1; have l1 := rise_len p.s
  rw [q_law_no_sooner]
  unfold b_law_no_sooner
  rw [sSeq_n (h := by simp only [bnd_ok, bnd_err, then_ok, then_err, fVar0, fVarS, fC_e, fOp_e, fUn_e, asB_e, asI_e, fT_e, fAnd_e, fOr_e, fNot_e, fAndV_e, fOrV_e, fNotV_e, fIf_e, fChain_e, aNil_e, aCons_e, fTup_e, fLst_e, fCall_e, dTup_e, dLst_e, gAdd_i, gSub_i, gNeg_i, gEq_i, gNe_i, gLt_i, gLe_i, gGt_i, gGe_i, gIsN_e, gNotN_e, isN_n, isN_i, isN_t, isN_l, isN_b, gIsi_e, tyD_n, tyD_i, tyD_t, tyD_l, tyD_b, tyD_s, isaT_ii, isaT_bi, isaT_ib, isaT_bb, isaT_tt, isaT_ll, isaT_tb, isaT_ti, isaT_it, isaT_bt, isaT_lt, isaT_nt, isaT_st, gLen_l, gLen_t, gOne_l, gTuple_l, gTuple_t, gInt_b, gMin2_e, gMax2_e, fIt_e, items_l, items_t, fItA_e, gEnum_e, gZip_t, gNm0, gNmS, gNil_e, gCons_e, gTp_e, wipe0, wipeS, tYesD_e, sNil_e, sExpr_e, sRet_e, sRaise_e, sIf_e, sAsg_e, asF_e, sFor_e, endF_r, endF_n, endF_x, asO_s, fRg1_e, sFrz_e, gIx_t0, gIx_t1, gIx_t2, gIx_l0, gIx_l1, gIx_l2, Option.map_some, Option.bind_some, List.set_cons_succ, List.set_cons_zero, List.getElem?_cons_succ, List.getElem?_cons_zero, Bool.not_true, Bool.not_false, Bool.false_eq_true, ↓reduceIte, List.length_cons, List.length_nil, List.map_cons, List.map_nil, Nat.reduceAdd, Nat.reduceLeDiff, Nat.reduceLT, Bool.true_and, Bool.and_true, Bool.false_and, Bool.and_false, List.length_map, Nat.zero_le, tupRg_e b.F.length (by omega)]; rfl)]
  obtain ⟨ρ, h1, _⟩ := for_keep tN (gt := gNm 3) (body := l_law_no_sooner_0) (fun ρ => ∃ j3 j4 j5 j6 j7, ρ = [.dat (eB b), .dat (eP ss ks), .dat (tN (List.range b.F.length)), j3, j4, j5, j6, j7]) (cRows ss.length) (fun row hr ρ ⟨j3, j4, j5, j6, j7, hρ⟩ => by
      subst hρ
      have hr := mem_rows.mp hr
      have es := slips_e (b := b) (g := 0) (ρ := [.dat (eB b), .dat (eP ss ks), .dat (tN (List.range b.F.length)), .dat (tN row), j4, j5, j6, j7]) (i := 3) (j := 1) (v := 6) hr (by omega) rfl rfl rfl (fun _ => rfl) (fun _ => rfl) (fun _ => rfl)
      have hb : ∀ bo, Rise b.F.length bo → BotOk b ss (bo, pick ss row) := fun bo hbo => ⟨hbo, pick_rise p.s hr, pick_sub hr⟩
      have hw : Rise b.F.length (List.range b.F.length) := ⟨fun x hx => List.mem_range.mp hx, rise_range _⟩
      refine ⟨_, forOne_n (ρ1 := [.dat (eB b), .dat (eP ss ks), .dat (tN (List.range b.F.length)), .dat (tN row), j4, j5, j6, j7]) (by simp only [bnd_ok, bnd_err, then_ok, then_err, fVar0, fVarS, fC_e, fOp_e, fUn_e, asB_e, asI_e, fT_e, fAnd_e, fOr_e, fNot_e, fAndV_e, fOrV_e, fNotV_e, fIf_e, fChain_e, aNil_e, aCons_e, fTup_e, fLst_e, fCall_e, dTup_e, dLst_e, gAdd_i, gSub_i, gNeg_i, gEq_i, gNe_i, gLt_i, gLe_i, gGt_i, gGe_i, gIsN_e, gNotN_e, isN_n, isN_i, isN_t, isN_l, isN_b, gIsi_e, tyD_n, tyD_i, tyD_t, tyD_l, tyD_b, tyD_s, isaT_ii, isaT_bi, isaT_ib, isaT_bb, isaT_tt, isaT_ll, isaT_tb, isaT_ti, isaT_it, isaT_bt, isaT_lt, isaT_nt, isaT_st, gLen_l, gLen_t, gOne_l, gTuple_l, gTuple_t, gInt_b, gMin2_e, gMax2_e, fIt_e, items_l, items_t, fItA_e, gEnum_e, gZip_t, gNm0, gNmS, gNil_e, gCons_e, gTp_e, wipe0, wipeS, tYesD_e, sNil_e, sExpr_e, sRet_e, sRaise_e, sIf_e, sAsg_e, asF_e, sFor_e, endF_r, endF_n, endF_x, asO_s, fRg1_e, sFrz_e, gIx_t0, gIx_t1, gIx_t2, gIx_l0, gIx_l1, gIx_l2, Option.map_some, Option.bind_some, List.set_cons_succ, List.set_cons_zero, List.getElem?_cons_succ, List.getElem?_cons_zero, Bool.not_true, Bool.not_false, Bool.false_eq_true, ↓reduceIte, List.length_cons, List.length_nil, List.map_cons, List.map_nil, Nat.reduceAdd, Nat.reduceLeDiff, Nat.reduceLT, Bool.true_and, Bool.and_true, Bool.false_and, Bool.and_false, List.length_map, Nat.zero_le]) ?_, .dat (tN row), .dat (tN (pick ss row)), .dat (lN ((List.range b.F.length).filter fun f => (cOut b ss ks [f] (pick ss row)).isSome)), j6, j7, rfl⟩
      unfold l_law_no_sooner_0
      rw [sSeq_n (h := by simp only [bnd_ok, bnd_err, then_ok, then_err, fVar0, fVarS, fC_e, fOp_e, fUn_e, asB_e, asI_e, fT_e, fAnd_e, fOr_e, fNot_e, fAndV_e, fOrV_e, fNotV_e, fIf_e, fChain_e, aNil_e, aCons_e, fTup_e, fLst_e, fCall_e, dTup_e, dLst_e, gAdd_i, gSub_i, gNeg_i, gEq_i, gNe_i, gLt_i, gLe_i, gGt_i, gGe_i, gIsN_e, gNotN_e, isN_n, isN_i, isN_t, isN_l, isN_b, gIsi_e, tyD_n, tyD_i, tyD_t, tyD_l, tyD_b, tyD_s, isaT_ii, isaT_bi, isaT_ib, isaT_bb, isaT_tt, isaT_ll, isaT_tb, isaT_ti, isaT_it, isaT_bt, isaT_lt, isaT_nt, isaT_st, gLen_l, gLen_t, gOne_l, gTuple_l, gTuple_t, gInt_b, gMin2_e, gMax2_e, fIt_e, items_l, items_t, fItA_e, gEnum_e, gZip_t, gNm0, gNmS, gNil_e, gCons_e, gTp_e, wipe0, wipeS, tYesD_e, sNil_e, sExpr_e, sRet_e, sRaise_e, sIf_e, sAsg_e, asF_e, sFor_e, endF_r, endF_n, endF_x, asO_s, fRg1_e, sFrz_e, gIx_t0, gIx_t1, gIx_t2, gIx_l0, gIx_l1, gIx_l2, Option.map_some, Option.bind_some, List.set_cons_succ, List.set_cons_zero, List.getElem?_cons_succ, List.getElem?_cons_zero, Bool.not_true, Bool.not_false, Bool.false_eq_true, ↓reduceIte, List.length_cons, List.length_nil, List.map_cons, List.map_nil, Nat.reduceAdd, Nat.reduceLeDiff, Nat.reduceLT, Bool.true_and, Bool.and_true, Bool.false_and, Bool.and_false, List.length_map, Nat.zero_le, es]; rfl)]
      rw [sSeq_n (ρ' := [.dat (eB b), .dat (eP ss ks), .dat (tN (List.range b.F.length)), .dat (tN row), .dat (tN (pick ss row)), .dat (lN ((List.range b.F.length).filter fun f => (cOut b ss ks [f] (pick ss row)).isSome)), j6, j7]) (h := by
        simp only [bnd_ok, bnd_err, then_ok, then_err, fVar0, fVarS, fC_e, fOp_e, fUn_e, asB_e, asI_e, fT_e, fAnd_e, fOr_e, fNot_e, fAndV_e, fOrV_e, fNotV_e, fIf_e, fChain_e, aNil_e, aCons_e, fTup_e, fLst_e, fCall_e, dTup_e, dLst_e, gAdd_i, gSub_i, gNeg_i, gEq_i, gNe_i, gLt_i, gLe_i, gGt_i, gGe_i, gIsN_e, gNotN_e, isN_n, isN_i, isN_t, isN_l, isN_b, gIsi_e, tyD_n, tyD_i, tyD_t, tyD_l, tyD_b, tyD_s, isaT_ii, isaT_bi, isaT_ib, isaT_bb, isaT_tt, isaT_ll, isaT_tb, isaT_ti, isaT_it, isaT_bt, isaT_lt, isaT_nt, isaT_st, gLen_l, gLen_t, gOne_l, gTuple_l, gTuple_t, gInt_b, gMin2_e, gMax2_e, fIt_e, items_l, items_t, fItA_e, gEnum_e, gZip_t, gNm0, gNmS, gNil_e, gCons_e, gTp_e, wipe0, wipeS, tYesD_e, sNil_e, sExpr_e, sRet_e, sRaise_e, sIf_e, sAsg_e, asF_e, sFor_e, endF_r, endF_n, endF_x, asO_s, fRg1_e, sFrz_e, gIx_t0, gIx_t1, gIx_t2, gIx_l0, gIx_l1, gIx_l2, Option.map_some, Option.bind_some, List.set_cons_succ, List.set_cons_zero, List.getElem?_cons_succ, List.getElem?_cons_zero, Bool.not_true, Bool.not_false, Bool.false_eq_true, ↓reduceIte, List.length_cons, List.length_nil, List.map_cons, List.map_nil, Nat.reduceAdd, Nat.reduceLeDiff, Nat.reduceLT, Bool.true_and, Bool.and_true, Bool.false_and, Bool.and_false, List.length_map, Nat.zero_le]
        rw [fLc_eq nD (fun f => if (cOut b ss ks [f] (pick ss row)).isSome = true then some (nD f) else none) (List.range b.F.length) (by simp only [bnd_ok, bnd_err, then_ok, then_err, fVar0, fVarS, fC_e, fOp_e, fUn_e, asB_e, asI_e, fT_e, fAnd_e, fOr_e, fNot_e, fAndV_e, fOrV_e, fNotV_e, fIf_e, fChain_e, aNil_e, aCons_e, fTup_e, fLst_e, fCall_e, dTup_e, dLst_e, gAdd_i, gSub_i, gNeg_i, gEq_i, gNe_i, gLt_i, gLe_i, gGt_i, gGe_i, gIsN_e, gNotN_e, isN_n, isN_i, isN_t, isN_l, isN_b, gIsi_e, tyD_n, tyD_i, tyD_t, tyD_l, tyD_b, tyD_s, isaT_ii, isaT_bi, isaT_ib, isaT_bb, isaT_tt, isaT_ll, isaT_tb, isaT_ti, isaT_it, isaT_bt, isaT_lt, isaT_nt, isaT_st, gLen_l, gLen_t, gOne_l, gTuple_l, gTuple_t, gInt_b, gMin2_e, gMax2_e, fIt_e, items_l, items_t, fItA_e, gEnum_e, gZip_t, gNm0, gNmS, gNil_e, gCons_e, gTp_e, wipe0, wipeS, tYesD_e, sNil_e, sExpr_e, sRet_e, sRaise_e, sIf_e, sAsg_e, asF_e, sFor_e, endF_r, endF_n, endF_x, asO_s, fRg1_e, sFrz_e, gIx_t0, gIx_t1, gIx_t2, gIx_l0, gIx_l1, gIx_l2, Option.map_some, Option.bind_some, List.set_cons_succ, List.set_cons_zero, List.getElem?_cons_succ, List.getElem?_cons_zero, Bool.not_true, Bool.not_false, Bool.false_eq_true, ↓reduceIte, List.length_cons, List.length_nil, List.map_cons, List.map_nil, Nat.reduceAdd, Nat.reduceLeDiff, Nat.reduceLT, Bool.true_and, Bool.and_true, Bool.false_and, Bool.and_false, List.length_map, Nat.zero_le]) (by simp; omega) fun f hf => ?_]
        · simp only [bnd_ok, bnd_err, then_ok, then_err, fVar0, fVarS, fC_e, fOp_e, fUn_e, asB_e, asI_e, fT_e, fAnd_e, fOr_e, fNot_e, fAndV_e, fOrV_e, fNotV_e, fIf_e, fChain_e, aNil_e, aCons_e, fTup_e, fLst_e, fCall_e, dTup_e, dLst_e, gAdd_i, gSub_i, gNeg_i, gEq_i, gNe_i, gLt_i, gLe_i, gGt_i, gGe_i, gIsN_e, gNotN_e, isN_n, isN_i, isN_t, isN_l, isN_b, gIsi_e, tyD_n, tyD_i, tyD_t, tyD_l, tyD_b, tyD_s, isaT_ii, isaT_bi, isaT_ib, isaT_bb, isaT_tt, isaT_ll, isaT_tb, isaT_ti, isaT_it, isaT_bt, isaT_lt, isaT_nt, isaT_st, gLen_l, gLen_t, gOne_l, gTuple_l, gTuple_t, gInt_b, gMin2_e, gMax2_e, fIt_e, items_l, items_t, fItA_e, gEnum_e, gZip_t, gNm0, gNmS, gNil_e, gCons_e, gTp_e, wipe0, wipeS, tYesD_e, sNil_e, sExpr_e, sRet_e, sRaise_e, sIf_e, sAsg_e, asF_e, sFor_e, endF_r, endF_n, endF_x, asO_s, fRg1_e, sFrz_e, gIx_t0, gIx_t1, gIx_t2, gIx_l0, gIx_l1, gIx_l2, Option.map_some, Option.bind_some, List.set_cons_succ, List.set_cons_zero, List.getElem?_cons_succ, List.getElem?_cons_zero, Bool.not_true, Bool.not_false, Bool.false_eq_true, ↓reduceIte, List.length_cons, List.length_nil, List.map_cons, List.map_nil, Nat.reduceAdd, Nat.reduceLeDiff, Nat.reduceLT, Bool.true_and, Bool.and_true, Bool.false_and, Bool.and_false, List.length_map, Nat.zero_le, fm_filter]
        · have eo := out_e h p (hb [f] ⟨fun x hx => by rw [List.mem_singleton.mp hx]; exact List.mem_range.mp hf, by simp⟩)
          have eo : m_out [eB b, eP ss ks, .tuple [nD f], tN (pick ss row)] = .ok (oP (cOut b ss ks [f] (pick ss row))) := eo
          simp only [lcOne, bnd_ok, bnd_err, then_ok, then_err, fVar0, fVarS, fC_e, fOp_e, fUn_e, asB_e, asI_e, fT_e, fAnd_e, fOr_e, fNot_e, fAndV_e, fOrV_e, fNotV_e, fIf_e, fChain_e, aNil_e, aCons_e, fTup_e, fLst_e, fCall_e, dTup_e, dLst_e, gAdd_i, gSub_i, gNeg_i, gEq_i, gNe_i, gLt_i, gLe_i, gGt_i, gGe_i, gIsN_e, gNotN_e, isN_n, isN_i, isN_t, isN_l, isN_b, gIsi_e, tyD_n, tyD_i, tyD_t, tyD_l, tyD_b, tyD_s, isaT_ii, isaT_bi, isaT_ib, isaT_bb, isaT_tt, isaT_ll, isaT_tb, isaT_ti, isaT_it, isaT_bt, isaT_lt, isaT_nt, isaT_st, gLen_l, gLen_t, gOne_l, gTuple_l, gTuple_t, gInt_b, gMin2_e, gMax2_e, fIt_e, items_l, items_t, fItA_e, gEnum_e, gZip_t, gNm0, gNmS, gNil_e, gCons_e, gTp_e, wipe0, wipeS, tYesD_e, sNil_e, sExpr_e, sRet_e, sRaise_e, sIf_e, sAsg_e, asF_e, sFor_e, endF_r, endF_n, endF_x, asO_s, fRg1_e, sFrz_e, gIx_t0, gIx_t1, gIx_t2, gIx_l0, gIx_l1, gIx_l2, Option.map_some, Option.bind_some, List.set_cons_succ, List.set_cons_zero, List.getElem?_cons_succ, List.getElem?_cons_zero, Bool.not_true, Bool.not_false, Bool.false_eq_true, ↓reduceIte, List.length_cons, List.length_nil, List.map_cons, List.map_nil, Nat.reduceAdd, Nat.reduceLeDiff, Nat.reduceLT, Bool.true_and, Bool.and_true, Bool.false_and, Bool.and_false, List.length_map, Nat.zero_le, eo, isN_oP, Bool.not_not]
          cases (cOut b ss ks [f] (pick ss row)).isSome <;> rfl)]
      have eo := out_e h p (hb _ hw)
      simp only [bnd_ok, bnd_err, then_ok, then_err, fVar0, fVarS, fC_e, fOp_e, fUn_e, asB_e, asI_e, fT_e, fAnd_e, fOr_e, fNot_e, fAndV_e, fOrV_e, fNotV_e, fIf_e, fChain_e, aNil_e, aCons_e, fTup_e, fLst_e, fCall_e, dTup_e, dLst_e, gAdd_i, gSub_i, gNeg_i, gEq_i, gNe_i, gLt_i, gLe_i, gGt_i, gGe_i, gIsN_e, gNotN_e, isN_n, isN_i, isN_t, isN_l, isN_b, gIsi_e, tyD_n, tyD_i, tyD_t, tyD_l, tyD_b, tyD_s, isaT_ii, isaT_bi, isaT_ib, isaT_bb, isaT_tt, isaT_ll, isaT_tb, isaT_ti, isaT_it, isaT_bt, isaT_lt, isaT_nt, isaT_st, gLen_l, gLen_t, gOne_l, gTuple_l, gTuple_t, gInt_b, gMin2_e, gMax2_e, fIt_e, items_l, items_t, fItA_e, gEnum_e, gZip_t, gNm0, gNmS, gNil_e, gCons_e, gTp_e, wipe0, wipeS, tYesD_e, sNil_e, sExpr_e, sRet_e, sRaise_e, sIf_e, sAsg_e, asF_e, sFor_e, endF_r, endF_n, endF_x, asO_s, fRg1_e, sFrz_e, gIx_t0, gIx_t1, gIx_t2, gIx_l0, gIx_l1, gIx_l2, Option.map_some, Option.bind_some, List.set_cons_succ, List.set_cons_zero, List.getElem?_cons_succ, List.getElem?_cons_zero, Bool.not_true, Bool.not_false, Bool.false_eq_true, ↓reduceIte, List.length_cons, List.length_nil, List.map_cons, List.map_nil, Nat.reduceAdd, Nat.reduceLeDiff, Nat.reduceLT, Bool.true_and, Bool.and_true, Bool.false_and, Bool.and_false, List.length_map, Nat.zero_le, eo, isN_oP, ne_nil (lay_ns _), List.isEmpty_map]
      cases hc : (cOut b ss ks (List.range b.F.length) (pick ss row)).isSome with
      | true => simp only [bnd_ok, bnd_err, then_ok, then_err, fVar0, fVarS, fC_e, fOp_e, fUn_e, asB_e, asI_e, fT_e, fAnd_e, fOr_e, fNot_e, fAndV_e, fOrV_e, fNotV_e, fIf_e, fChain_e, aNil_e, aCons_e, fTup_e, fLst_e, fCall_e, dTup_e, dLst_e, gAdd_i, gSub_i, gNeg_i, gEq_i, gNe_i, gLt_i, gLe_i, gGt_i, gGe_i, gIsN_e, gNotN_e, isN_n, isN_i, isN_t, isN_l, isN_b, gIsi_e, tyD_n, tyD_i, tyD_t, tyD_l, tyD_b, tyD_s, isaT_ii, isaT_bi, isaT_ib, isaT_bb, isaT_tt, isaT_ll, isaT_tb, isaT_ti, isaT_it, isaT_bt, isaT_lt, isaT_nt, isaT_st, gLen_l, gLen_t, gOne_l, gTuple_l, gTuple_t, gInt_b, gMin2_e, gMax2_e, fIt_e, items_l, items_t, fItA_e, gEnum_e, gZip_t, gNm0, gNmS, gNil_e, gCons_e, gTp_e, wipe0, wipeS, tYesD_e, sNil_e, sExpr_e, sRet_e, sRaise_e, sIf_e, sAsg_e, asF_e, sFor_e, endF_r, endF_n, endF_x, asO_s, fRg1_e, sFrz_e, gIx_t0, gIx_t1, gIx_t2, gIx_l0, gIx_l1, gIx_l2, Option.map_some, Option.bind_some, List.set_cons_succ, List.set_cons_zero, List.getElem?_cons_succ, List.getElem?_cons_zero, Bool.not_true, Bool.not_false, Bool.false_eq_true, ↓reduceIte, List.length_cons, List.length_nil, List.map_cons, List.map_nil, Nat.reduceAdd, Nat.reduceLeDiff, Nat.reduceLT, Bool.true_and, Bool.and_true, Bool.false_and, Bool.and_false, List.length_map, Nat.zero_le]
      | false =>
        have : ((List.range b.F.length).filter fun f => (cOut b ss ks [f] (pick ss row)).isSome).isEmpty = true := by
          rw [List.isEmpty_iff, List.filter_eq_nil_iff]
          intro f hf z
          obtain ⟨s, h1, h2⟩ := out1_some.mp z
          obtain ⟨g1, g2, g3⟩ := mem_use.mp h1
          rw [out_some.mpr ⟨s, g1, h2, ⟨f, hf, g2⟩, g3⟩] at hc
          cases hc
        simp only [bnd_ok, bnd_err, then_ok, then_err, fVar0, fVarS, fC_e, fOp_e, fUn_e, asB_e, asI_e, fT_e, fAnd_e, fOr_e, fNot_e, fAndV_e, fOrV_e, fNotV_e, fIf_e, fChain_e, aNil_e, aCons_e, fTup_e, fLst_e, fCall_e, dTup_e, dLst_e, gAdd_i, gSub_i, gNeg_i, gEq_i, gNe_i, gLt_i, gLe_i, gGt_i, gGe_i, gIsN_e, gNotN_e, isN_n, isN_i, isN_t, isN_l, isN_b, gIsi_e, tyD_n, tyD_i, tyD_t, tyD_l, tyD_b, tyD_s, isaT_ii, isaT_bi, isaT_ib, isaT_bb, isaT_tt, isaT_ll, isaT_tb, isaT_ti, isaT_it, isaT_bt, isaT_lt, isaT_nt, isaT_st, gLen_l, gLen_t, gOne_l, gTuple_l, gTuple_t, gInt_b, gMin2_e, gMax2_e, fIt_e, items_l, items_t, fItA_e, gEnum_e, gZip_t, gNm0, gNmS, gNil_e, gCons_e, gTp_e, wipe0, wipeS, tYesD_e, sNil_e, sExpr_e, sRet_e, sRaise_e, sIf_e, sAsg_e, asF_e, sFor_e, endF_r, endF_n, endF_x, asO_s, fRg1_e, sFrz_e, gIx_t0, gIx_t1, gIx_t2, gIx_l0, gIx_l1, gIx_l2, Option.map_some, Option.bind_some, List.set_cons_succ, List.set_cons_zero, List.getElem?_cons_succ, List.getElem?_cons_zero, Bool.not_true, Bool.not_false, Bool.false_eq_true, ↓reduceIte, List.length_cons, List.length_nil, List.map_cons, List.map_nil, Nat.reduceAdd, Nat.reduceLeDiff, Nat.reduceLT, Bool.true_and, Bool.and_true, Bool.false_and, Bool.and_false, List.length_map, Nat.zero_le, this]) (ρ := [.dat (eB b), .dat (eP ss ks), .dat (tN (List.range b.F.length)), .non, .non, .non, .non, .non]) ⟨_, _, _, _, _, rfl⟩
  rw [sSeq_n (h := by simp only [bnd_ok, bnd_err, then_ok, then_err, fVar0, fVarS, fC_e, fOp_e, fUn_e, asB_e, asI_e, fT_e, fAnd_e, fOr_e, fNot_e, fAndV_e, fOrV_e, fNotV_e, fIf_e, fChain_e, aNil_e, aCons_e, fTup_e, fLst_e, fCall_e, dTup_e, dLst_e, gAdd_i, gSub_i, gNeg_i, gEq_i, gNe_i, gLt_i, gLe_i, gGt_i, gGe_i, gIsN_e, gNotN_e, isN_n, isN_i, isN_t, isN_l, isN_b, gIsi_e, tyD_n, tyD_i, tyD_t, tyD_l, tyD_b, tyD_s, isaT_ii, isaT_bi, isaT_ib, isaT_bb, isaT_tt, isaT_ll, isaT_tb, isaT_ti, isaT_it, isaT_bt, isaT_lt, isaT_nt, isaT_st, gLen_l, gLen_t, gOne_l, gTuple_l, gTuple_t, gInt_b, gMin2_e, gMax2_e, fIt_e, items_l, items_t, fItA_e, gEnum_e, gZip_t, gNm0, gNmS, gNil_e, gCons_e, gTp_e, wipe0, wipeS, tYesD_e, sNil_e, sExpr_e, sRet_e, sRaise_e, sIf_e, sAsg_e, asF_e, sFor_e, endF_r, endF_n, endF_x, asO_s, fRg1_e, sFrz_e, gIx_t0, gIx_t1, gIx_t2, gIx_l0, gIx_l1, gIx_l2, Option.map_some, Option.bind_some, List.set_cons_succ, List.set_cons_zero, List.getElem?_cons_succ, List.getElem?_cons_zero, Bool.not_true, Bool.not_false, Bool.false_eq_true, ↓reduceIte, List.length_cons, List.length_nil, List.map_cons, List.map_nil, Nat.reduceAdd, Nat.reduceLeDiff, Nat.reduceLT, Bool.true_and, Bool.and_true, Bool.false_and, Bool.and_false, List.length_map, Nat.zero_le, law_rows_e ss.length (by omega)]; exact h1)]
  simp only [bnd_ok, bnd_err, then_ok, then_err, fVar0, fVarS, fC_e, fOp_e, fUn_e, asB_e, asI_e, fT_e, fAnd_e, fOr_e, fNot_e, fAndV_e, fOrV_e, fNotV_e, fIf_e, fChain_e, aNil_e, aCons_e, fTup_e, fLst_e, fCall_e, dTup_e, dLst_e, gAdd_i, gSub_i, gNeg_i, gEq_i, gNe_i, gLt_i, gLe_i, gGt_i, gGe_i, gIsN_e, gNotN_e, isN_n, isN_i, isN_t, isN_l, isN_b, gIsi_e, tyD_n, tyD_i, tyD_t, tyD_l, tyD_b, tyD_s, isaT_ii, isaT_bi, isaT_ib, isaT_bb, isaT_tt, isaT_ll, isaT_tb, isaT_ti, isaT_it, isaT_bt, isaT_lt, isaT_nt, isaT_st, gLen_l, gLen_t, gOne_l, gTuple_l, gTuple_t, gInt_b, gMin2_e, gMax2_e, fIt_e, items_l, items_t, fItA_e, gEnum_e, gZip_t, gNm0, gNmS, gNil_e, gCons_e, gTp_e, wipe0, wipeS, tYesD_e, sNil_e, sExpr_e, sRet_e, sRaise_e, sIf_e, sAsg_e, asF_e, sFor_e, endF_r, endF_n, endF_x, asO_s, fRg1_e, sFrz_e, gIx_t0, gIx_t1, gIx_t2, gIx_l0, gIx_l1, gIx_l2, Option.map_some, Option.bind_some, List.set_cons_succ, List.set_cons_zero, List.getElem?_cons_succ, List.getElem?_cons_zero, Bool.not_true, Bool.not_false, Bool.false_eq_true, ↓reduceIte, List.length_cons, List.length_nil, List.map_cons, List.map_nil, Nat.reduceAdd, Nat.reduceLeDiff, Nat.reduceLT, Bool.true_and, Bool.and_true, Bool.false_and, Bool.and_false, List.length_map, Nat.zero_le]
end Bl
namespace Bl
open PySem L2 Dl
/-! ### sorted flags -/
theorem lay_bs (bs : List Bool) : PyData.canLayAll0 (bs.map PyData.bool) = true := lay_map _ _ fun x _ => by simp [PyData.canLay0]
theorem depth_bs : ∀ bs : List Bool, PyData.depthAll (bs.map PyData.bool) = 0
  | [] => by simp [PyData.depthAll]
  | b :: bs => by rw [List.map_cons, PyData.depthAll, depth_bs bs]; simp [PyData.depth]
theorem okSort_bs (bs : List Bool) : okSort (bs.map PyData.bool) = true := by
  unfold okSort alikeB
  rw [Bool.and_eq_true, Bool.and_eq_true, Bool.or_eq_true]
  refine ⟨⟨?_, .inr ?_⟩, ?_⟩
  · rw [List.all_map, List.all_eq_true]
    intro p _
    show ((bs.map PyData.bool).all _) = true
    rw [List.all_map, List.all_eq_true]
    intro q _
    simp [PySem.W.alike]
  · rw [List.all_map, List.all_eq_true]; intro p _; rfl
  · rw [List.all_map, List.all_eq_true]; intro p _; simp [PyData.depth]
theorem dSorted_bs (bs : List Bool) (h : bs.length ≤ 16777216) : dSorted (bs.map PyData.bool) = .ok (.list ((bs.map PyData.bool).mergeSort (PySem.W.dataLe false id))) := by
  unfold dSorted
  rw [if_pos ⟨okSort_bs bs, by rw [List.length_map]; exact h⟩]
theorem le_bs (a b : Bool) : PySem.W.dataLe false id (PyData.bool a) (PyData.bool b) = (!a || b) := by
  rw [PySem.W.dataLe_eq]
  show (!PySem.W.dataLt (.bool b) (.bool a)) = _
  rw [PySem.W.dataLt_bool]
  cases a <;> cases b <;> decide
theorem desc_sort (bs : List Bool) (h : bs.Pairwise fun a b => b = true → a = true) : ((bs.map PyData.bool).mergeSort (PySem.W.dataLe false id)).reverse = bs.map PyData.bool := by
  have tot : PySem.W.TotalLe (PySem.W.dataLe false (id : D → D)) := PySem.W.sortLe_total _ _ _
  have : (bs.map PyData.bool).mergeSort (PySem.W.dataLe false id) = (bs.map PyData.bool).reverse := by
    refine List.Perm.eq_of_pairwise (le := fun a b => PySem.W.dataLe false id a b = true) ?_ ?_ ?_ ?_
    · intro a b ha hb h1 h2
      have ha := (List.mergeSort_perm _ _).mem_iff.mp ha
      rw [List.mem_reverse] at hb
      obtain ⟨x, _, rfl⟩ := List.mem_map.mp ha
      obtain ⟨y, _, rfl⟩ := List.mem_map.mp hb
      rw [le_bs] at h1 h2
      cases x <;> cases y <;> first | rfl | exact absurd h1 (by decide) | exact absurd h2 (by decide)
    · exact List.pairwise_mergeSort (fun a b c => tot.trans a b c) (fun a b => by have := tot.total a b; rw [Bool.or_eq_true]; exact this) _
    · rw [List.pairwise_reverse, List.pairwise_map]
      refine h.imp fun {a b} h => ?_
      rw [le_bs]
      cases a <;> cases b <;> first | rfl | exact absurd (h rfl) (by decide)
    · exact (List.mergeSort_perm _ _).trans (List.reverse_perm _).symm
  rw [this, List.reverse_reverse]
theorem flags_e (bs : List Bool) (h : bs.Pairwise fun a b => b = true → a = true) : gNe (.list (bs.map PyData.bool)) (.list (bs.map PyData.bool)) = .ok (.bool false) := by
  show (if _ then _ else _) = _
  have lay : (PyData.list (bs.map PyData.bool)).canLay0 = true := by rw [PyData.canLay0]; exact lay_bs bs
  rw [if_pos, PySem.SeqAt.eqv_refl _ lay]
  · rfl
  · unfold okEq
    rw [lay]
    simp [PyData.depth, depth_bs]
/-! ### lets -/

/-! ### small things -/
theorem sSeq_c (g g' : Dl.Env → Fl) (ρ ρ' : Dl.Env) (h : g ρ = .cont ρ') : sSeq g g' ρ = .cont ρ' := by unfold sSeq; rw [h]
theorem sCont_e (ρ : Dl.Env) : sCont ρ = .cont ρ := id rfl
theorem ne_bb (a : Bool) : gNe (.bool a) (.bool a) = .ok (.bool false) := ne_self (by simp [PyData.canLay0]) (by simp [PyData.depth])
theorem gNe_bb (a b : Bool) : gNe (.bool a) (.bool b) = .ok (.bool (!(a == b))) := by
  rw [gNe_d (by simp [okEq, PyData.canLay0, PyData.depth])]
  simp [PyData.eqv]
theorem gList_t (xs : List D) : gList [.tuple xs] = .ok (.list xs) := id rfl
theorem ne_tN (xs : List Nat) : gNe (tN xs) (tN xs) = .ok (.bool false) := ne_self (by rw [PyData.canLay0]; exact lay_ns xs) (by simp [PyData.depth, depth_ns])
theorem ne_oN (o : Option Nat) : gNe (oN o) (oN o) = .ok (.bool false) := by
  cases o with
  | none => exact ne_self (d := .none) (by simp [PyData.canLay0]) (by simp [PyData.depth])
  | some p => simp only [oN, gNe_i, beq_self_eq_true]; rfl
theorem filter_lt (L : Nat) : ∀ n, ((List.range n).filter fun c => decide (c < L)).length = min n L
  | 0 => by simp
  | n + 1 => by
    rw [List.range_succ, List.filter_append, List.length_append, filter_lt L n, List.filter_cons, List.filter_nil]
    by_cases h : n < L
    · rw [decide_eq_true h, if_pos rfl]; simp; omega
    · rw [decide_eq_false h, if_neg (by decide)]; simp; omega
theorem desc_lt (L n : Nat) : ((List.range n).map fun c => decide (c < L)).Pairwise fun a b => b = true → a = true := by
  rw [List.pairwise_map]
  refine (rise_range n).imp fun {a b} h hb => ?_
  have := of_decide_eq_true hb
  exact decide_eq_true (by omega)
/-- a turn of a loop that goes on, with what holds then -/
def Turn (r : Fl) (P : Dl.Env → Prop) : Prop := ∃ ρ', (r = .next ρ' ∨ r = .cont ρ') ∧ P ρ'
theorem Turn.same {F : Dl.Env → Fl} {ρ : Dl.Env} {P : Dl.Env → Prop} (h : F ρ = .next ρ) (hP : P ρ) : Turn (F ρ) P := ⟨ρ, .inl h, hP⟩
theorem Turn.cont {F : Dl.Env → Fl} {ρ : Dl.Env} {P : Dl.Env → Prop} (h : F ρ = .cont ρ) (hP : P ρ) : Turn (F ρ) P := ⟨ρ, .inr h, hP⟩
theorem Turn.one {gt : D → Dl.Env → Option Dl.Env} {body : Dl.Env → Fl} {d : D} {ρ ρ1 : Dl.Env} {P : Dl.Env → Prop} (t : Turn (body ρ1) P) (h : gt d ρ = some ρ1) : ∃ ρ', forOne gt body d ρ = .next ρ' ∧ P ρ' := by
  obtain ⟨ρ', e | e, hP⟩ := t
  · exact ⟨ρ', forOne_n h e, hP⟩
  · exact ⟨ρ', forOne_c h e, hP⟩
/-! ### first faults -/
theorem lets_cases {b : Belt} {ss ks : List Nat} (f1 : 1 ≤ b.F.length) (c : Nat) : (c < cLeast b ss ks ∧ cLets b ss ks c = .none) ∨ (¬ c < cLeast b ss ks ∧ ∃ f, f < b.F.length ∧ (∃ r, ((List.range b.F.length).filter fun f => decide ((cUse b ss ks f).length ≤ c)) = f :: r) ∧ (cUse b ss ks f).length ≤ c ∧ cLets b ss ks c = .tuple [tN [f], tN (cUse b ss ks f)]) := by
  have e : cLets b ss ks c = (((List.range b.F.length).find? fun f => decide ((cUse b ss ks f).length ≤ c)).map fun f => PyData.tuple [tN [f], tN (cUse b ss ks f)]).getD .none := by
    unfold cLets
    rw [← findSome_find]
    congr 2
    funext f
    unfold cLet1
    by_cases h : (cUse b ss ks f).length ≤ c
    · rw [if_pos h, decide_eq_true h, if_pos rfl]
    · rw [if_neg h, decide_eq_false h, if_neg (by decide)]
  cases hf : (List.range b.F.length).find? fun f => decide ((cUse b ss ks f).length ≤ c) with
  | none =>
    rw [hf] at e
    refine .inl ⟨(lt_least f1).mpr fun f h => ?_, e⟩
    have := List.find?_eq_none.mp hf f (List.mem_range.mpr h)
    have : ¬ (cUse b ss ks f).length ≤ c := by simpa using this
    omega
  | some f =>
    rw [hf] at e
    have h1 := List.mem_range.mp (List.mem_of_find?_eq_some hf)
    have h2 : (cUse b ss ks f).length ≤ c := by simpa using List.find?_some hf
    refine .inr ⟨fun z => ?_, f, h1, ?_, h2, e⟩
    · have := (lt_least f1).mp z f h1
      omega
    · rw [← List.head?_filter] at hf
      cases hl : (List.range b.F.length).filter fun f => decide ((cUse b ss ks f).length ≤ c) with
      | nil => rw [hl] at hf; cases hf
      | cons g r => rw [hl] at hf; exact ⟨r, by rw [Option.some.inj hf]⟩
/-! ### counts refused -/
theorem need_count_d (d : D) (h : cCnt d 0 8 = false) : m_need_count [d] = .err "BadNumber" := by
  rw [q_need_count]
  unfold b_need_count
  simp only [bnd_ok, bnd_err, then_ok, then_err, fVar0, fVarS, fC_e, fOp_e, fUn_e, asB_e, asI_e, fT_e, fAnd_e, fOr_e, fNot_e, fAndV_e, fOrV_e, fNotV_e, fIf_e, fChain_e, aNil_e, aCons_e, fTup_e, fLst_e, fCall_e, dTup_e, dLst_e, gAdd_i, gSub_i, gNeg_i, gEq_i, gNe_i, gLt_i, gLe_i, gGt_i, gGe_i, gIsN_e, gNotN_e, isN_n, isN_i, isN_t, isN_l, isN_b, gIsi_e, tyD_n, tyD_i, tyD_t, tyD_l, tyD_b, tyD_s, isaT_ii, isaT_bi, isaT_ib, isaT_bb, isaT_tt, isaT_ll, isaT_tb, isaT_ti, isaT_it, isaT_bt, isaT_lt, isaT_nt, isaT_st, gLen_l, gLen_t, gOne_l, gTuple_l, gTuple_t, gInt_b, gMin2_e, gMax2_e, fIt_e, items_l, items_t, fItA_e, gEnum_e, gZip_t, gNm0, gNmS, gNil_e, gCons_e, gTp_e, wipe0, wipeS, tYesD_e, sNil_e, sExpr_e, sRet_e, sRaise_e, sIf_e, sAsg_e, asF_e, sFor_e, endF_r, endF_n, endF_x, asO_s, fRg1_e, sFrz_e, gIx_t0, gIx_t1, gIx_t2, gIx_l0, gIx_l1, gIx_l2, Option.map_some, Option.bind_some, List.set_cons_succ, List.set_cons_zero, List.getElem?_cons_succ, List.getElem?_cons_zero, Bool.not_true, Bool.not_false, Bool.false_eq_true, ↓reduceIte, List.length_cons, List.length_nil, List.map_cons, List.map_nil, Nat.reduceAdd, Nat.reduceLeDiff, Nat.reduceLT, Bool.true_and, Bool.and_true, Bool.false_and, Bool.and_false, List.length_map, Nat.zero_le, is_count_d, h]
theorem lets_count {b : Belt} {ss ks : List Nat} (h : b.Ok) (p : PlanOk b ss ks) (d : D) (hd : cCnt d 0 8 = false) : m_lets [eB b, eP ss ks, d] = .err "BadNumber" := by
  rw [q_lets]
  unfold b_lets
  rw [sSeq_n (h := by simp only [bnd_ok, bnd_err, then_ok, then_err, fVar0, fVarS, fC_e, fOp_e, fUn_e, asB_e, asI_e, fT_e, fAnd_e, fOr_e, fNot_e, fAndV_e, fOrV_e, fNotV_e, fIf_e, fChain_e, aNil_e, aCons_e, fTup_e, fLst_e, fCall_e, dTup_e, dLst_e, gAdd_i, gSub_i, gNeg_i, gEq_i, gNe_i, gLt_i, gLe_i, gGt_i, gGe_i, gIsN_e, gNotN_e, isN_n, isN_i, isN_t, isN_l, isN_b, gIsi_e, tyD_n, tyD_i, tyD_t, tyD_l, tyD_b, tyD_s, isaT_ii, isaT_bi, isaT_ib, isaT_bb, isaT_tt, isaT_ll, isaT_tb, isaT_ti, isaT_it, isaT_bt, isaT_lt, isaT_nt, isaT_st, gLen_l, gLen_t, gOne_l, gTuple_l, gTuple_t, gInt_b, gMin2_e, gMax2_e, fIt_e, items_l, items_t, fItA_e, gEnum_e, gZip_t, gNm0, gNmS, gNil_e, gCons_e, gTp_e, wipe0, wipeS, tYesD_e, sNil_e, sExpr_e, sRet_e, sRaise_e, sIf_e, sAsg_e, asF_e, sFor_e, endF_r, endF_n, endF_x, asO_s, fRg1_e, sFrz_e, gIx_t0, gIx_t1, gIx_t2, gIx_l0, gIx_l1, gIx_l2, Option.map_some, Option.bind_some, List.set_cons_succ, List.set_cons_zero, List.getElem?_cons_succ, List.getElem?_cons_zero, Bool.not_true, Bool.not_false, Bool.false_eq_true, ↓reduceIte, List.length_cons, List.length_nil, List.map_cons, List.map_nil, Nat.reduceAdd, Nat.reduceLeDiff, Nat.reduceLT, Bool.true_and, Bool.and_true, Bool.false_and, Bool.and_false, List.length_map, Nat.zero_le, need_belt_t h]; rfl)]
  rw [sSeq_n (h := by simp only [bnd_ok, bnd_err, then_ok, then_err, fVar0, fVarS, fC_e, fOp_e, fUn_e, asB_e, asI_e, fT_e, fAnd_e, fOr_e, fNot_e, fAndV_e, fOrV_e, fNotV_e, fIf_e, fChain_e, aNil_e, aCons_e, fTup_e, fLst_e, fCall_e, dTup_e, dLst_e, gAdd_i, gSub_i, gNeg_i, gEq_i, gNe_i, gLt_i, gLe_i, gGt_i, gGe_i, gIsN_e, gNotN_e, isN_n, isN_i, isN_t, isN_l, isN_b, gIsi_e, tyD_n, tyD_i, tyD_t, tyD_l, tyD_b, tyD_s, isaT_ii, isaT_bi, isaT_ib, isaT_bb, isaT_tt, isaT_ll, isaT_tb, isaT_ti, isaT_it, isaT_bt, isaT_lt, isaT_nt, isaT_st, gLen_l, gLen_t, gOne_l, gTuple_l, gTuple_t, gInt_b, gMin2_e, gMax2_e, fIt_e, items_l, items_t, fItA_e, gEnum_e, gZip_t, gNm0, gNmS, gNil_e, gCons_e, gTp_e, wipe0, wipeS, tYesD_e, sNil_e, sExpr_e, sRet_e, sRaise_e, sIf_e, sAsg_e, asF_e, sFor_e, endF_r, endF_n, endF_x, asO_s, fRg1_e, sFrz_e, gIx_t0, gIx_t1, gIx_t2, gIx_l0, gIx_l1, gIx_l2, Option.map_some, Option.bind_some, List.set_cons_succ, List.set_cons_zero, List.getElem?_cons_succ, List.getElem?_cons_zero, Bool.not_true, Bool.not_false, Bool.false_eq_true, ↓reduceIte, List.length_cons, List.length_nil, List.map_cons, List.map_nil, Nat.reduceAdd, Nat.reduceLeDiff, Nat.reduceLT, Bool.true_and, Bool.and_true, Bool.false_and, Bool.and_false, List.length_map, Nat.zero_le, need_plan_t h p]; rfl)]
  rw [sSeq_x (d := "BadNumber") (h := by simp only [bnd_ok, bnd_err, then_ok, then_err, fVar0, fVarS, fC_e, fOp_e, fUn_e, asB_e, asI_e, fT_e, fAnd_e, fOr_e, fNot_e, fAndV_e, fOrV_e, fNotV_e, fIf_e, fChain_e, aNil_e, aCons_e, fTup_e, fLst_e, fCall_e, dTup_e, dLst_e, gAdd_i, gSub_i, gNeg_i, gEq_i, gNe_i, gLt_i, gLe_i, gGt_i, gGe_i, gIsN_e, gNotN_e, isN_n, isN_i, isN_t, isN_l, isN_b, gIsi_e, tyD_n, tyD_i, tyD_t, tyD_l, tyD_b, tyD_s, isaT_ii, isaT_bi, isaT_ib, isaT_bb, isaT_tt, isaT_ll, isaT_tb, isaT_ti, isaT_it, isaT_bt, isaT_lt, isaT_nt, isaT_st, gLen_l, gLen_t, gOne_l, gTuple_l, gTuple_t, gInt_b, gMin2_e, gMax2_e, fIt_e, items_l, items_t, fItA_e, gEnum_e, gZip_t, gNm0, gNmS, gNil_e, gCons_e, gTp_e, wipe0, wipeS, tYesD_e, sNil_e, sExpr_e, sRet_e, sRaise_e, sIf_e, sAsg_e, asF_e, sFor_e, endF_r, endF_n, endF_x, asO_s, fRg1_e, sFrz_e, gIx_t0, gIx_t1, gIx_t2, gIx_l0, gIx_l1, gIx_l2, Option.map_some, Option.bind_some, List.set_cons_succ, List.set_cons_zero, List.getElem?_cons_succ, List.getElem?_cons_zero, Bool.not_true, Bool.not_false, Bool.false_eq_true, ↓reduceIte, List.length_cons, List.length_nil, List.map_cons, List.map_nil, Nat.reduceAdd, Nat.reduceLeDiff, Nat.reduceLT, Bool.true_and, Bool.and_true, Bool.false_and, Bool.and_false, List.length_map, Nat.zero_le, need_count_d d hd])]
  rfl
theorem lets_plan {b : Belt} (h : b.Ok) (d x : D) (hs : shortP d) (hp : cPlanD b d = false) : m_lets [eB b, d, x] = .err "BadPlan" := by
  rw [q_lets]
  unfold b_lets
  rw [sSeq_n (h := by simp only [bnd_ok, bnd_err, then_ok, then_err, fVar0, fVarS, fC_e, fOp_e, fUn_e, asB_e, asI_e, fT_e, fAnd_e, fOr_e, fNot_e, fAndV_e, fOrV_e, fNotV_e, fIf_e, fChain_e, aNil_e, aCons_e, fTup_e, fLst_e, fCall_e, dTup_e, dLst_e, gAdd_i, gSub_i, gNeg_i, gEq_i, gNe_i, gLt_i, gLe_i, gGt_i, gGe_i, gIsN_e, gNotN_e, isN_n, isN_i, isN_t, isN_l, isN_b, gIsi_e, tyD_n, tyD_i, tyD_t, tyD_l, tyD_b, tyD_s, isaT_ii, isaT_bi, isaT_ib, isaT_bb, isaT_tt, isaT_ll, isaT_tb, isaT_ti, isaT_it, isaT_bt, isaT_lt, isaT_nt, isaT_st, gLen_l, gLen_t, gOne_l, gTuple_l, gTuple_t, gInt_b, gMin2_e, gMax2_e, fIt_e, items_l, items_t, fItA_e, gEnum_e, gZip_t, gNm0, gNmS, gNil_e, gCons_e, gTp_e, wipe0, wipeS, tYesD_e, sNil_e, sExpr_e, sRet_e, sRaise_e, sIf_e, sAsg_e, asF_e, sFor_e, endF_r, endF_n, endF_x, asO_s, fRg1_e, sFrz_e, gIx_t0, gIx_t1, gIx_t2, gIx_l0, gIx_l1, gIx_l2, Option.map_some, Option.bind_some, List.set_cons_succ, List.set_cons_zero, List.getElem?_cons_succ, List.getElem?_cons_zero, Bool.not_true, Bool.not_false, Bool.false_eq_true, ↓reduceIte, List.length_cons, List.length_nil, List.map_cons, List.map_nil, Nat.reduceAdd, Nat.reduceLeDiff, Nat.reduceLT, Bool.true_and, Bool.and_true, Bool.false_and, Bool.and_false, List.length_map, Nat.zero_le, need_belt_t h]; rfl)]
  rw [sSeq_x (d := "BadPlan") (h := by simp only [bnd_ok, bnd_err, then_ok, then_err, fVar0, fVarS, fC_e, fOp_e, fUn_e, asB_e, asI_e, fT_e, fAnd_e, fOr_e, fNot_e, fAndV_e, fOrV_e, fNotV_e, fIf_e, fChain_e, aNil_e, aCons_e, fTup_e, fLst_e, fCall_e, dTup_e, dLst_e, gAdd_i, gSub_i, gNeg_i, gEq_i, gNe_i, gLt_i, gLe_i, gGt_i, gGe_i, gIsN_e, gNotN_e, isN_n, isN_i, isN_t, isN_l, isN_b, gIsi_e, tyD_n, tyD_i, tyD_t, tyD_l, tyD_b, tyD_s, isaT_ii, isaT_bi, isaT_ib, isaT_bb, isaT_tt, isaT_ll, isaT_tb, isaT_ti, isaT_it, isaT_bt, isaT_lt, isaT_nt, isaT_st, gLen_l, gLen_t, gOne_l, gTuple_l, gTuple_t, gInt_b, gMin2_e, gMax2_e, fIt_e, items_l, items_t, fItA_e, gEnum_e, gZip_t, gNm0, gNmS, gNil_e, gCons_e, gTp_e, wipe0, wipeS, tYesD_e, sNil_e, sExpr_e, sRet_e, sRaise_e, sIf_e, sAsg_e, asF_e, sFor_e, endF_r, endF_n, endF_x, asO_s, fRg1_e, sFrz_e, gIx_t0, gIx_t1, gIx_t2, gIx_l0, gIx_l1, gIx_l2, Option.map_some, Option.bind_some, List.set_cons_succ, List.set_cons_zero, List.getElem?_cons_succ, List.getElem?_cons_zero, Bool.not_true, Bool.not_false, Bool.false_eq_true, ↓reduceIte, List.length_cons, List.length_nil, List.map_cons, List.map_nil, Nat.reduceAdd, Nat.reduceLeDiff, Nat.reduceLT, Bool.true_and, Bool.and_true, Bool.false_and, Bool.and_false, List.length_map, Nat.zero_le, need_plan_d d hs hp])]
  rfl
theorem borne_plan {b : Belt} (h : b.Ok) (d : D) (hs : shortP d) (hp : cPlanD b d = false) : m_borne [eB b, d] = .err "BadPlan" := by
  rw [q_borne]
  unfold b_borne
  rw [sSeq_n (h := by simp only [bnd_ok, bnd_err, then_ok, then_err, fVar0, fVarS, fC_e, fOp_e, fUn_e, asB_e, asI_e, fT_e, fAnd_e, fOr_e, fNot_e, fAndV_e, fOrV_e, fNotV_e, fIf_e, fChain_e, aNil_e, aCons_e, fTup_e, fLst_e, fCall_e, dTup_e, dLst_e, gAdd_i, gSub_i, gNeg_i, gEq_i, gNe_i, gLt_i, gLe_i, gGt_i, gGe_i, gIsN_e, gNotN_e, isN_n, isN_i, isN_t, isN_l, isN_b, gIsi_e, tyD_n, tyD_i, tyD_t, tyD_l, tyD_b, tyD_s, isaT_ii, isaT_bi, isaT_ib, isaT_bb, isaT_tt, isaT_ll, isaT_tb, isaT_ti, isaT_it, isaT_bt, isaT_lt, isaT_nt, isaT_st, gLen_l, gLen_t, gOne_l, gTuple_l, gTuple_t, gInt_b, gMin2_e, gMax2_e, fIt_e, items_l, items_t, fItA_e, gEnum_e, gZip_t, gNm0, gNmS, gNil_e, gCons_e, gTp_e, wipe0, wipeS, tYesD_e, sNil_e, sExpr_e, sRet_e, sRaise_e, sIf_e, sAsg_e, asF_e, sFor_e, endF_r, endF_n, endF_x, asO_s, fRg1_e, sFrz_e, gIx_t0, gIx_t1, gIx_t2, gIx_l0, gIx_l1, gIx_l2, Option.map_some, Option.bind_some, List.set_cons_succ, List.set_cons_zero, List.getElem?_cons_succ, List.getElem?_cons_zero, Bool.not_true, Bool.not_false, Bool.false_eq_true, ↓reduceIte, List.length_cons, List.length_nil, List.map_cons, List.map_nil, Nat.reduceAdd, Nat.reduceLeDiff, Nat.reduceLT, Bool.true_and, Bool.and_true, Bool.false_and, Bool.and_false, List.length_map, Nat.zero_le, need_belt_t h]; rfl)]
  rw [sSeq_x (d := "BadPlan") (h := by simp only [bnd_ok, bnd_err, then_ok, then_err, fVar0, fVarS, fC_e, fOp_e, fUn_e, asB_e, asI_e, fT_e, fAnd_e, fOr_e, fNot_e, fAndV_e, fOrV_e, fNotV_e, fIf_e, fChain_e, aNil_e, aCons_e, fTup_e, fLst_e, fCall_e, dTup_e, dLst_e, gAdd_i, gSub_i, gNeg_i, gEq_i, gNe_i, gLt_i, gLe_i, gGt_i, gGe_i, gIsN_e, gNotN_e, isN_n, isN_i, isN_t, isN_l, isN_b, gIsi_e, tyD_n, tyD_i, tyD_t, tyD_l, tyD_b, tyD_s, isaT_ii, isaT_bi, isaT_ib, isaT_bb, isaT_tt, isaT_ll, isaT_tb, isaT_ti, isaT_it, isaT_bt, isaT_lt, isaT_nt, isaT_st, gLen_l, gLen_t, gOne_l, gTuple_l, gTuple_t, gInt_b, gMin2_e, gMax2_e, fIt_e, items_l, items_t, fItA_e, gEnum_e, gZip_t, gNm0, gNmS, gNil_e, gCons_e, gTp_e, wipe0, wipeS, tYesD_e, sNil_e, sExpr_e, sRet_e, sRaise_e, sIf_e, sAsg_e, asF_e, sFor_e, endF_r, endF_n, endF_x, asO_s, fRg1_e, sFrz_e, gIx_t0, gIx_t1, gIx_t2, gIx_l0, gIx_l1, gIx_l2, Option.map_some, Option.bind_some, List.set_cons_succ, List.set_cons_zero, List.getElem?_cons_succ, List.getElem?_cons_zero, Bool.not_true, Bool.not_false, Bool.false_eq_true, ↓reduceIte, List.length_cons, List.length_nil, List.map_cons, List.map_nil, Nat.reduceAdd, Nat.reduceLeDiff, Nat.reduceLT, Bool.true_and, Bool.and_true, Bool.false_and, Bool.and_false, List.length_map, Nat.zero_le, need_plan_d d hs hp])]
  rfl
end Bl
namespace Bl
open PySem L2 Dl
open LamX (ExtN Tabs)
def ws : List Str := ["BadBelt", "BadPlan", "BadBottle", "BadNumber", "BadPaper", "NoPlan", "BadText"]
def b_law_word (a : Addr) (isa : Str → Bool) : Dl.Env → Fl :=
    (sSeq (sOwn 1 (aCons (fRaw 0 a (isa "BadBelt")) (aCons (fRaw 0 a (isa "BadPlan")) (aCons (fRaw 0 a (isa "BadBottle")) (aCons (fRaw 0 a (isa "BadNumber")) aNil)))))
    (sSeq (sFrz 1 (sAsg (fOp gAdd (fVar 1) (fLst (aCons (fRaw 0 a (isa "BadPaper")) (aCons (fRaw 0 a (isa "NoPlan")) (aCons (fRaw 0 a (isa "BadText")) aNil))))) (gNm 1)))
    (sSeq (sFrz 1 (sIf (fOr (fT (fOp gNe (fCall (gOne dSum) (aCons (fUn gInts (fVar 1)) aNil)) (fC (.int 1)))) (fNot (fT (fRaw 0 a (isa "ValueError"))))) (sRet (fC (.str "other"))) sNil))
    (sFrz 1 (sRet (fOp gIx (fLst (aCons (fC (.str "BadBelt")) (aCons (fC (.str "BadPlan")) (aCons (fC (.str "BadBottle")) (aCons (fC (.str "BadNumber")) (aCons (fC (.str "BadPaper")) (aCons (fC (.str "NoPlan")) (aCons (fC (.str "BadText")) aNil)))))))) (fUn gIndexT (fVar 1))))))))


abbrev l_law_0 : Dl.Env → Fl :=
    (sSeq (sAsg (fCall m_lets (aCons (fVar 5) (aCons (fVar 6) (aCons (fVar 9) aNil)))) (gNm 10))
    (sSeq (sIf (fT (fOp gNe (fOp gIsN (fVar 10) (fC .none)) (fOp gIx (fVar 7) (fVar 9)))) (sRet (fC (.bool false))) sNil)
    (sSeq (sIf (fT (fOp gIsN (fVar 10) (fC .none))) sCont sNil)
    (sSeq (sAsg (fVar 10) (gTp (gCons (gNm 11) (gCons (gNm 12) gNil))))
    (sSeq (sAsg (fLc (fItA gRng1 (aCons (fCall gLen (aCons (fOp gIx (fVar 5) (fC (.int 0))) aNil)) aNil)) (gNm 18) tYesD (fCall m_law_holds (aCons (fVar 5) (aCons (fVar 6) (aCons (fVar 18) aNil)))) [18]) (gNm 13))
    (sSeq (sAsg (fOp gIx (fLc (fItA gRng1 (aCons (fCall gLen (aCons (fVar 13) aNil)) aNil)) (gNm 18) (fT (fOp gLe (fCall gLen (aCons (fOp gIx (fVar 13) (fVar 18)) aNil)) (fVar 9))) (fVar 18) [18]) (fC (.int 0))) (gNm 14))
    (sSeq (sIf (fOr (fT (fOp gNe (fVar 11) (fTup (aCons (fVar 14) aNil)))) (fOr (fT (fOp gNe (fCall gList (aCons (fVar 12) aNil)) (fOp gIx (fVar 13) (fVar 14)))) (fT (fOp gNotN (fCall m_out (aCons (fVar 5) (aCons (fVar 6) (aCons (fVar 11) (aCons (fVar 12) aNil))))) (fC .none))))) (sRet (fC (.bool false))) sNil)
    (sIf (fAnd (fT (fOp gNe (fVar 12) (fTup aNil))) (fT (fOp gIsN (fCall m_out (aCons (fVar 5) (aCons (fVar 6) (aCons (fVar 11) (aCons (fSl (fVar 12) (oSome (fC (.int 1))) oNone) aNil))))) (fC .none)))) (sRet (fC (.bool false))) sNil))))))))
abbrev l_law_1 : Dl.Env → Fl :=
    (sSeq (sAsg (fCall m_law_drawn (aCons (fVar 2) (aCons (fOp gAdd (fC (.int 10)) (fVar 3)) aNil))) (gNm 4))
    (sSeq (sAsg (fCall m_law_belt (aCons (fVar 4) (aCons (fC (.int 6)) aNil))) (gNm 5))
    (sSeq (sAsg (fCall m_law_plan (aCons (fCall m_law_drawn (aCons (fVar 4) (aCons (fC (.int 1)) aNil))) (aCons (fVar 5) aNil))) (gNm 6))
    (sSeq (sAsg (fLc (fItA gRng1 (aCons (fC (.int 9)) aNil)) (gNm 9) tYesD (fCall m_law_bears (aCons (fVar 5) (aCons (fVar 6) (aCons (fVar 9) aNil)))) [9]) (gNm 7))
    (sSeq (sAsg (fOp gSub (fCall gLen (aCons (fLc (fIt (fVar 7)) (gNm 17) (fT (fVar 17)) (fVar 17) [17]) aNil)) (fC (.int 1))) (gNm 8))
    (sSeq (sIf (fOr (fT (fOp gNe (fVar 7) (fUn gRevA (fCall (gOne dSorted) (aCons (fVar 7) aNil))))) (fT (fOp gNe (fCall m_borne (aCons (fVar 5) (aCons (fVar 6) aNil))) (fIf (fT (fOp gGe (fVar 8) (fC (.int 0)))) (fVar 8) (fC .none))))) (sRet (fC (.bool false))) sNil)
    (sSeq (sFor (fItA gRng1 (aCons (fC (.int 9)) aNil)) (gNm 9) l_law_0)
    (sIf (fNot (fT (fCall m_law_no_sooner (aCons (fVar 5) (aCons (fVar 6) aNil))))) (sRet (fC (.bool false))) sNil))))))))
abbrev l_law_2 : Dl.Env → Fl :=
    (sIf (fT (fOp gNe (fTold ws (fCall m_lets (aCons (fVar 5) (aCons (fVar 6) (aCons (fVar 15) aNil))))) (fC (.str "BadNumber")))) (sRet (fC (.bool false))) sNil)
abbrev l_law_3 : Dl.Env → Fl :=
    (sSeq (sAsg (fCall m_law_drawn (aCons (fCall m_law_cell (aCons (fVar 0) (aCons (fVar 1) aNil))) (aCons (fVar 1) aNil))) (gNm 2))
    (sSeq (sFor (fItA gRng1 (aCons (fC (.int 3)) aNil)) (gNm 3) l_law_1)
    (sSeq (sFor (fIt (fLst (aCons (fUn gNeg (fC (.int 1))) (aCons (fC (.int 9)) (aCons (fC .none) (aCons (fC (.bool true)) (aCons (fC (.str "1")) aNil))))))) (gNm 15) l_law_2)
    (sSeq (sOwn 16 (aCons (fTold ws (fCall m_lets (aCons (fVar 5) (aCons (fC .none) (aCons (fUn gNeg (fC (.int 1))) aNil))))) aNil))
    (sSeq (sApp 16 (fTold ws (fCall m_borne (aCons (fVar 5) (aCons (fC .none) aNil)))))
    (sFrz 16 (sIf (fT (fOp gNe (fVar 16) (fOp gMul (fLst (aCons (fC (.str "BadPlan")) aNil)) (fC (.int 2))))) (sRet (fC (.bool false))) sNil)))))))
def b_law : Dl.Env → Fl :=
    (sSeq (sFor (fItA gRng1 (aCons (fCall gMax2 (aCons (fC (.int 1)) (aCons (fCall gMin2 (aCons (fC (.int 3)) (aCons (fCall gLen (aCons (fVar 0) aNil)) aNil))) aNil))) aNil)) (gNm 1) l_law_3)
    (sRet (fC (.bool true))))
def m_law : List D → R D := runB 1 19 b_law
theorem q_law (a0 : D) : m_law [a0] = endF (b_law [.dat a0, .non, .non, .non, .non, .non, .non, .non, .non, .non, .non, .non, .non, .non, .non, .non, .non, .non, .non]) := rfl
end Bl
namespace Bl
open PySem L2 Dl
theorem ws_plan : ("BadPlan" : Str) ∈ ws := by decide
theorem ws_number : ("BadNumber" : Str) ∈ ws := by decide
theorem ok_plan : PyData.strOk "BadPlan" = true := by decide +kernel
theorem ok_number : PyData.strOk "BadNumber" = true := by decide +kernel
theorem k21_0 {b : Belt} {ss ks : List Nat} (h : b.Ok) (p : PlanOk b ss ks) (c : Nat) (hc : c < 9) (j0 j1 j2 j3 j4 j8 j10 j11 j12 j13 j14 j15 j16 j17 j18 : Slot) :
    Turn (l_law_0 [j0, j1, j2, j3, j4, .dat (eB b), .dat (eP ss ks), .dat (.list (((List.range 9).map fun c => decide (c < cLeast b ss ks)).map PyData.bool)), j8, .dat (nD c), j10, j11, j12, j13, j14, j15, j16, j17, j18]) fun ρ => ρ.length = 19 ∧ ρ[0]? = some j0 ∧ ρ[2]? = some j2 ∧ ρ[5]? = some (.dat (eB b)) ∧ ρ[6]? = some (.dat (eP ss ks)) ∧ ρ[7]? = some (.dat (.list (((List.range 9).map fun c => decide (c < cLeast b ss ks)).map PyData.bool))) := by
  have s8 := h.s8; have f6 := h.f6; have f1 := h.f1; have l1 := rise_len p.s
  unfold l_law_0
  rw [sSeq_n (h := by simp only [bnd_ok, bnd_err, then_ok, then_err, fVar0, fVarS, fC_e, fOp_e, fUn_e, asB_e, asI_e, fT_e, fAnd_e, fOr_e, fNot_e, fAndV_e, fOrV_e, fNotV_e, fIf_e, fChain_e, aNil_e, aCons_e, fTup_e, fLst_e, fCall_e, dTup_e, dLst_e, gAdd_i, gSub_i, gNeg_i, gEq_i, gNe_i, gLt_i, gLe_i, gGt_i, gGe_i, gIsN_e, gNotN_e, isN_n, isN_i, isN_t, isN_l, isN_b, gIsi_e, tyD_n, tyD_i, tyD_t, tyD_l, tyD_b, tyD_s, isaT_ii, isaT_bi, isaT_ib, isaT_bb, isaT_tt, isaT_ll, isaT_tb, isaT_ti, isaT_it, isaT_bt, isaT_lt, isaT_nt, isaT_st, gLen_l, gLen_t, gOne_l, gTuple_l, gTuple_t, gInt_b, gMin2_e, gMax2_e, fIt_e, items_l, items_t, fItA_e, gEnum_e, gZip_t, gNm0, gNmS, gNil_e, gCons_e, gTp_e, wipe0, wipeS, tYesD_e, sNil_e, sExpr_e, sRet_e, sRaise_e, sIf_e, sAsg_e, asF_e, sFor_e, endF_r, endF_n, endF_x, asO_s, fRg1_e, sFrz_e, gIx_t0, gIx_t1, gIx_t2, gIx_l0, gIx_l1, gIx_l2, Option.map_some, Option.bind_some, List.set_cons_succ, List.set_cons_zero, List.getElem?_cons_succ, List.getElem?_cons_zero, Bool.not_true, Bool.not_false, Bool.false_eq_true, ↓reduceIte, List.length_cons, List.length_nil, List.map_cons, List.map_nil, Nat.reduceAdd, Nat.reduceLeDiff, Nat.reduceLT, Bool.true_and, Bool.and_true, Bool.false_and, Bool.and_false, List.length_map, Nat.zero_le, lets_e h p (show c ≤ 8 by omega)]; rfl)]
  have ef : gIx (.list (((List.range 9).map fun c => decide (c < cLeast b ss ks)).map PyData.bool)) (nD c) = .ok (.bool (decide (c < cLeast b ss ks))) := gIx_mapl PyData.bool _ c _ (by rw [List.getElem?_map, List.getElem?_range hc]; rfl)
  rcases lets_cases (b := b) (ss := ss) (ks := ks) f1 c with ⟨hl, e⟩ | ⟨hl, f, hf, ⟨r, hr⟩, hu, e⟩
  · rw [e]
    rw [sSeq_n (h := by simp only [bnd_ok, bnd_err, then_ok, then_err, fVar0, fVarS, fC_e, fOp_e, fUn_e, asB_e, asI_e, fT_e, fAnd_e, fOr_e, fNot_e, fAndV_e, fOrV_e, fNotV_e, fIf_e, fChain_e, aNil_e, aCons_e, fTup_e, fLst_e, fCall_e, dTup_e, dLst_e, gAdd_i, gSub_i, gNeg_i, gEq_i, gNe_i, gLt_i, gLe_i, gGt_i, gGe_i, gIsN_e, gNotN_e, isN_n, isN_i, isN_t, isN_l, isN_b, gIsi_e, tyD_n, tyD_i, tyD_t, tyD_l, tyD_b, tyD_s, isaT_ii, isaT_bi, isaT_ib, isaT_bb, isaT_tt, isaT_ll, isaT_tb, isaT_ti, isaT_it, isaT_bt, isaT_lt, isaT_nt, isaT_st, gLen_l, gLen_t, gOne_l, gTuple_l, gTuple_t, gInt_b, gMin2_e, gMax2_e, fIt_e, items_l, items_t, fItA_e, gEnum_e, gZip_t, gNm0, gNmS, gNil_e, gCons_e, gTp_e, wipe0, wipeS, tYesD_e, sNil_e, sExpr_e, sRet_e, sRaise_e, sIf_e, sAsg_e, asF_e, sFor_e, endF_r, endF_n, endF_x, asO_s, fRg1_e, sFrz_e, gIx_t0, gIx_t1, gIx_t2, gIx_l0, gIx_l1, gIx_l2, Option.map_some, Option.bind_some, List.set_cons_succ, List.set_cons_zero, List.getElem?_cons_succ, List.getElem?_cons_zero, Bool.not_true, Bool.not_false, Bool.false_eq_true, ↓reduceIte, List.length_cons, List.length_nil, List.map_cons, List.map_nil, Nat.reduceAdd, Nat.reduceLeDiff, Nat.reduceLT, Bool.true_and, Bool.and_true, Bool.false_and, Bool.and_false, List.length_map, Nat.zero_le, ef, decide_eq_true hl, ne_bb]; rfl)]
    rw [sSeq_c (h := by simp only [bnd_ok, bnd_err, then_ok, then_err, fVar0, fVarS, fC_e, fOp_e, fUn_e, asB_e, asI_e, fT_e, fAnd_e, fOr_e, fNot_e, fAndV_e, fOrV_e, fNotV_e, fIf_e, fChain_e, aNil_e, aCons_e, fTup_e, fLst_e, fCall_e, dTup_e, dLst_e, gAdd_i, gSub_i, gNeg_i, gEq_i, gNe_i, gLt_i, gLe_i, gGt_i, gGe_i, gIsN_e, gNotN_e, isN_n, isN_i, isN_t, isN_l, isN_b, gIsi_e, tyD_n, tyD_i, tyD_t, tyD_l, tyD_b, tyD_s, isaT_ii, isaT_bi, isaT_ib, isaT_bb, isaT_tt, isaT_ll, isaT_tb, isaT_ti, isaT_it, isaT_bt, isaT_lt, isaT_nt, isaT_st, gLen_l, gLen_t, gOne_l, gTuple_l, gTuple_t, gInt_b, gMin2_e, gMax2_e, fIt_e, items_l, items_t, fItA_e, gEnum_e, gZip_t, gNm0, gNmS, gNil_e, gCons_e, gTp_e, wipe0, wipeS, tYesD_e, sNil_e, sExpr_e, sRet_e, sRaise_e, sIf_e, sAsg_e, asF_e, sFor_e, endF_r, endF_n, endF_x, asO_s, fRg1_e, sFrz_e, gIx_t0, gIx_t1, gIx_t2, gIx_l0, gIx_l1, gIx_l2, Option.map_some, Option.bind_some, List.set_cons_succ, List.set_cons_zero, List.getElem?_cons_succ, List.getElem?_cons_zero, Bool.not_true, Bool.not_false, Bool.false_eq_true, ↓reduceIte, List.length_cons, List.length_nil, List.map_cons, List.map_nil, Nat.reduceAdd, Nat.reduceLeDiff, Nat.reduceLT, Bool.true_and, Bool.and_true, Bool.false_and, Bool.and_false, List.length_map, Nat.zero_le]; rfl)]
    exact ⟨_, .inr rfl, rfl, rfl, rfl, rfl, rfl, rfl⟩
  · rw [e]
    rw [sSeq_n (h := by simp only [bnd_ok, bnd_err, then_ok, then_err, fVar0, fVarS, fC_e, fOp_e, fUn_e, asB_e, asI_e, fT_e, fAnd_e, fOr_e, fNot_e, fAndV_e, fOrV_e, fNotV_e, fIf_e, fChain_e, aNil_e, aCons_e, fTup_e, fLst_e, fCall_e, dTup_e, dLst_e, gAdd_i, gSub_i, gNeg_i, gEq_i, gNe_i, gLt_i, gLe_i, gGt_i, gGe_i, gIsN_e, gNotN_e, isN_n, isN_i, isN_t, isN_l, isN_b, gIsi_e, tyD_n, tyD_i, tyD_t, tyD_l, tyD_b, tyD_s, isaT_ii, isaT_bi, isaT_ib, isaT_bb, isaT_tt, isaT_ll, isaT_tb, isaT_ti, isaT_it, isaT_bt, isaT_lt, isaT_nt, isaT_st, gLen_l, gLen_t, gOne_l, gTuple_l, gTuple_t, gInt_b, gMin2_e, gMax2_e, fIt_e, items_l, items_t, fItA_e, gEnum_e, gZip_t, gNm0, gNmS, gNil_e, gCons_e, gTp_e, wipe0, wipeS, tYesD_e, sNil_e, sExpr_e, sRet_e, sRaise_e, sIf_e, sAsg_e, asF_e, sFor_e, endF_r, endF_n, endF_x, asO_s, fRg1_e, sFrz_e, gIx_t0, gIx_t1, gIx_t2, gIx_l0, gIx_l1, gIx_l2, Option.map_some, Option.bind_some, List.set_cons_succ, List.set_cons_zero, List.getElem?_cons_succ, List.getElem?_cons_zero, Bool.not_true, Bool.not_false, Bool.false_eq_true, ↓reduceIte, List.length_cons, List.length_nil, List.map_cons, List.map_nil, Nat.reduceAdd, Nat.reduceLeDiff, Nat.reduceLT, Bool.true_and, Bool.and_true, Bool.false_and, Bool.and_false, List.length_map, Nat.zero_le, ef, decide_eq_false hl, ne_bb]; rfl)]
    rw [sSeq_n (h := by simp only [bnd_ok, bnd_err, then_ok, then_err, fVar0, fVarS, fC_e, fOp_e, fUn_e, asB_e, asI_e, fT_e, fAnd_e, fOr_e, fNot_e, fAndV_e, fOrV_e, fNotV_e, fIf_e, fChain_e, aNil_e, aCons_e, fTup_e, fLst_e, fCall_e, dTup_e, dLst_e, gAdd_i, gSub_i, gNeg_i, gEq_i, gNe_i, gLt_i, gLe_i, gGt_i, gGe_i, gIsN_e, gNotN_e, isN_n, isN_i, isN_t, isN_l, isN_b, gIsi_e, tyD_n, tyD_i, tyD_t, tyD_l, tyD_b, tyD_s, isaT_ii, isaT_bi, isaT_ib, isaT_bb, isaT_tt, isaT_ll, isaT_tb, isaT_ti, isaT_it, isaT_bt, isaT_lt, isaT_nt, isaT_st, gLen_l, gLen_t, gOne_l, gTuple_l, gTuple_t, gInt_b, gMin2_e, gMax2_e, fIt_e, items_l, items_t, fItA_e, gEnum_e, gZip_t, gNm0, gNmS, gNil_e, gCons_e, gTp_e, wipe0, wipeS, tYesD_e, sNil_e, sExpr_e, sRet_e, sRaise_e, sIf_e, sAsg_e, asF_e, sFor_e, endF_r, endF_n, endF_x, asO_s, fRg1_e, sFrz_e, gIx_t0, gIx_t1, gIx_t2, gIx_l0, gIx_l1, gIx_l2, Option.map_some, Option.bind_some, List.set_cons_succ, List.set_cons_zero, List.getElem?_cons_succ, List.getElem?_cons_zero, Bool.not_true, Bool.not_false, Bool.false_eq_true, ↓reduceIte, List.length_cons, List.length_nil, List.map_cons, List.map_nil, Nat.reduceAdd, Nat.reduceLeDiff, Nat.reduceLT, Bool.true_and, Bool.and_true, Bool.false_and, Bool.and_false, List.length_map, Nat.zero_le]; rfl)]
    rw [sSeq_n (h := by simp only [bnd_ok, bnd_err, then_ok, then_err, fVar0, fVarS, fC_e, fOp_e, fUn_e, asB_e, asI_e, fT_e, fAnd_e, fOr_e, fNot_e, fAndV_e, fOrV_e, fNotV_e, fIf_e, fChain_e, aNil_e, aCons_e, fTup_e, fLst_e, fCall_e, dTup_e, dLst_e, gAdd_i, gSub_i, gNeg_i, gEq_i, gNe_i, gLt_i, gLe_i, gGt_i, gGe_i, gIsN_e, gNotN_e, isN_n, isN_i, isN_t, isN_l, isN_b, gIsi_e, tyD_n, tyD_i, tyD_t, tyD_l, tyD_b, tyD_s, isaT_ii, isaT_bi, isaT_ib, isaT_bb, isaT_tt, isaT_ll, isaT_tb, isaT_ti, isaT_it, isaT_bt, isaT_lt, isaT_nt, isaT_st, gLen_l, gLen_t, gOne_l, gTuple_l, gTuple_t, gInt_b, gMin2_e, gMax2_e, fIt_e, items_l, items_t, fItA_e, gEnum_e, gZip_t, gNm0, gNmS, gNil_e, gCons_e, gTp_e, wipe0, wipeS, tYesD_e, sNil_e, sExpr_e, sRet_e, sRaise_e, sIf_e, sAsg_e, asF_e, sFor_e, endF_r, endF_n, endF_x, asO_s, fRg1_e, sFrz_e, gIx_t0, gIx_t1, gIx_t2, gIx_l0, gIx_l1, gIx_l2, Option.map_some, Option.bind_some, List.set_cons_succ, List.set_cons_zero, List.getElem?_cons_succ, List.getElem?_cons_zero, Bool.not_true, Bool.not_false, Bool.false_eq_true, ↓reduceIte, List.length_cons, List.length_nil, List.map_cons, List.map_nil, Nat.reduceAdd, Nat.reduceLeDiff, Nat.reduceLT, Bool.true_and, Bool.and_true, Bool.false_and, Bool.and_false, List.length_map, Nat.zero_le]; rfl)]
    have hR : Rise b.S.length (cUse b ss ks f) := use_rise f p.s
    have hB : BotOk b ss ([f], cUse b ss ks f) := ⟨⟨fun x hx => by rw [List.mem_singleton.mp hx]; exact hf, by simp⟩, hR, fun x hx => (mem_use.mp hx).1⟩
    have hB2 : BotOk b ss ([f], (cUse b ss ks f).tail) := ⟨hB.hb, ⟨fun x hx => hR.1 x (List.mem_of_mem_tail hx), hR.2.tail⟩, fun x hx => hB.hi x (List.mem_of_mem_tail hx)⟩
    have eo := out_e h p hB
    have eo : m_out [eB b, eP ss ks, tN [f], tN (cUse b ss ks f)] = .ok (oP (cOut b ss ks [f] (cUse b ss ks f))) := eo
    have eo2 := out_e h p hB2
    have n1 : (cOut b ss ks [f] (cUse b ss ks f)).isSome = false := out1_none.mpr fun s hs => hs
    rw [sSeq_n (h := by
      simp only [bnd_ok, bnd_err, then_ok, then_err, fVar0, fVarS, fC_e, fOp_e, fUn_e, asB_e, asI_e, fT_e, fAnd_e, fOr_e, fNot_e, fAndV_e, fOrV_e, fNotV_e, fIf_e, fChain_e, aNil_e, aCons_e, fTup_e, fLst_e, fCall_e, dTup_e, dLst_e, gAdd_i, gSub_i, gNeg_i, gEq_i, gNe_i, gLt_i, gLe_i, gGt_i, gGe_i, gIsN_e, gNotN_e, isN_n, isN_i, isN_t, isN_l, isN_b, gIsi_e, tyD_n, tyD_i, tyD_t, tyD_l, tyD_b, tyD_s, isaT_ii, isaT_bi, isaT_ib, isaT_bb, isaT_tt, isaT_ll, isaT_tb, isaT_ti, isaT_it, isaT_bt, isaT_lt, isaT_nt, isaT_st, gLen_l, gLen_t, gOne_l, gTuple_l, gTuple_t, gInt_b, gMin2_e, gMax2_e, fIt_e, items_l, items_t, fItA_e, gEnum_e, gZip_t, gNm0, gNmS, gNil_e, gCons_e, gTp_e, wipe0, wipeS, tYesD_e, sNil_e, sExpr_e, sRet_e, sRaise_e, sIf_e, sAsg_e, asF_e, sFor_e, endF_r, endF_n, endF_x, asO_s, fRg1_e, sFrz_e, gIx_t0, gIx_t1, gIx_t2, gIx_l0, gIx_l1, gIx_l2, Option.map_some, Option.bind_some, List.set_cons_succ, List.set_cons_zero, List.getElem?_cons_succ, List.getElem?_cons_zero, Bool.not_true, Bool.not_false, Bool.false_eq_true, ↓reduceIte, List.length_cons, List.length_nil, List.map_cons, List.map_nil, Nat.reduceAdd, Nat.reduceLeDiff, Nat.reduceLT, Bool.true_and, Bool.and_true, Bool.false_and, Bool.and_false, List.length_map, Nat.zero_le]
      rw [fLc_map nD (fun f => lN (cUse b ss ks f)) (List.range b.F.length) (by simp only [bnd_ok, bnd_err, then_ok, then_err, fVar0, fVarS, fC_e, fOp_e, fUn_e, asB_e, asI_e, fT_e, fAnd_e, fOr_e, fNot_e, fAndV_e, fOrV_e, fNotV_e, fIf_e, fChain_e, aNil_e, aCons_e, fTup_e, fLst_e, fCall_e, dTup_e, dLst_e, gAdd_i, gSub_i, gNeg_i, gEq_i, gNe_i, gLt_i, gLe_i, gGt_i, gGe_i, gIsN_e, gNotN_e, isN_n, isN_i, isN_t, isN_l, isN_b, gIsi_e, tyD_n, tyD_i, tyD_t, tyD_l, tyD_b, tyD_s, isaT_ii, isaT_bi, isaT_ib, isaT_bb, isaT_tt, isaT_ll, isaT_tb, isaT_ti, isaT_it, isaT_bt, isaT_lt, isaT_nt, isaT_st, gLen_l, gLen_t, gOne_l, gTuple_l, gTuple_t, gInt_b, gMin2_e, gMax2_e, fIt_e, items_l, items_t, fItA_e, gEnum_e, gZip_t, gNm0, gNmS, gNil_e, gCons_e, gTp_e, wipe0, wipeS, tYesD_e, sNil_e, sExpr_e, sRet_e, sRaise_e, sIf_e, sAsg_e, asF_e, sFor_e, endF_r, endF_n, endF_x, asO_s, fRg1_e, sFrz_e, gIx_t0, gIx_t1, gIx_t2, gIx_l0, gIx_l1, gIx_l2, Option.map_some, Option.bind_some, List.set_cons_succ, List.set_cons_zero, List.getElem?_cons_succ, List.getElem?_cons_zero, Bool.not_true, Bool.not_false, Bool.false_eq_true, ↓reduceIte, List.length_cons, List.length_nil, List.map_cons, List.map_nil, Nat.reduceAdd, Nat.reduceLeDiff, Nat.reduceLT, Bool.true_and, Bool.and_true, Bool.false_and, Bool.and_false, List.length_map, Nat.zero_le, rng_e b.F.length (by omega)]) (by simp; omega) fun f hf => ?_]
      · simp only [bnd_ok, bnd_err, then_ok, then_err, fVar0, fVarS, fC_e, fOp_e, fUn_e, asB_e, asI_e, fT_e, fAnd_e, fOr_e, fNot_e, fAndV_e, fOrV_e, fNotV_e, fIf_e, fChain_e, aNil_e, aCons_e, fTup_e, fLst_e, fCall_e, dTup_e, dLst_e, gAdd_i, gSub_i, gNeg_i, gEq_i, gNe_i, gLt_i, gLe_i, gGt_i, gGe_i, gIsN_e, gNotN_e, isN_n, isN_i, isN_t, isN_l, isN_b, gIsi_e, tyD_n, tyD_i, tyD_t, tyD_l, tyD_b, tyD_s, isaT_ii, isaT_bi, isaT_ib, isaT_bb, isaT_tt, isaT_ll, isaT_tb, isaT_ti, isaT_it, isaT_bt, isaT_lt, isaT_nt, isaT_st, gLen_l, gLen_t, gOne_l, gTuple_l, gTuple_t, gInt_b, gMin2_e, gMax2_e, fIt_e, items_l, items_t, fItA_e, gEnum_e, gZip_t, gNm0, gNmS, gNil_e, gCons_e, gTp_e, wipe0, wipeS, tYesD_e, sNil_e, sExpr_e, sRet_e, sRaise_e, sIf_e, sAsg_e, asF_e, sFor_e, endF_r, endF_n, endF_x, asO_s, fRg1_e, sFrz_e, gIx_t0, gIx_t1, gIx_t2, gIx_l0, gIx_l1, gIx_l2, Option.map_some, Option.bind_some, List.set_cons_succ, List.set_cons_zero, List.getElem?_cons_succ, List.getElem?_cons_zero, Bool.not_true, Bool.not_false, Bool.false_eq_true, ↓reduceIte, List.length_cons, List.length_nil, List.map_cons, List.map_nil, Nat.reduceAdd, Nat.reduceLeDiff, Nat.reduceLT, Bool.true_and, Bool.and_true, Bool.false_and, Bool.and_false, List.length_map, Nat.zero_le]
        rfl
      · simp only [lcOne, bnd_ok, bnd_err, then_ok, then_err, fVar0, fVarS, fC_e, fOp_e, fUn_e, asB_e, asI_e, fT_e, fAnd_e, fOr_e, fNot_e, fAndV_e, fOrV_e, fNotV_e, fIf_e, fChain_e, aNil_e, aCons_e, fTup_e, fLst_e, fCall_e, dTup_e, dLst_e, gAdd_i, gSub_i, gNeg_i, gEq_i, gNe_i, gLt_i, gLe_i, gGt_i, gGe_i, gIsN_e, gNotN_e, isN_n, isN_i, isN_t, isN_l, isN_b, gIsi_e, tyD_n, tyD_i, tyD_t, tyD_l, tyD_b, tyD_s, isaT_ii, isaT_bi, isaT_ib, isaT_bb, isaT_tt, isaT_ll, isaT_tb, isaT_ti, isaT_it, isaT_bt, isaT_lt, isaT_nt, isaT_st, gLen_l, gLen_t, gOne_l, gTuple_l, gTuple_t, gInt_b, gMin2_e, gMax2_e, fIt_e, items_l, items_t, fItA_e, gEnum_e, gZip_t, gNm0, gNmS, gNil_e, gCons_e, gTp_e, wipe0, wipeS, tYesD_e, sNil_e, sExpr_e, sRet_e, sRaise_e, sIf_e, sAsg_e, asF_e, sFor_e, endF_r, endF_n, endF_x, asO_s, fRg1_e, sFrz_e, gIx_t0, gIx_t1, gIx_t2, gIx_l0, gIx_l1, gIx_l2, Option.map_some, Option.bind_some, List.set_cons_succ, List.set_cons_zero, List.getElem?_cons_succ, List.getElem?_cons_zero, Bool.not_true, Bool.not_false, Bool.false_eq_true, ↓reduceIte, List.length_cons, List.length_nil, List.map_cons, List.map_nil, Nat.reduceAdd, Nat.reduceLeDiff, Nat.reduceLT, Bool.true_and, Bool.and_true, Bool.false_and, Bool.and_false, List.length_map, Nat.zero_le, law_holds_e h p (List.mem_range.mp hf)])]
    rw [sSeq_n (ρ' := [j0, j1, j2, j3, j4, .dat (eB b), .dat (eP ss ks), .dat (.list (((List.range 9).map fun c => decide (c < cLeast b ss ks)).map PyData.bool)), j8, .dat (nD c), .dat (.tuple [tN [f], tN (cUse b ss ks f)]), .dat (tN [f]), .dat (tN (cUse b ss ks f)), .dat (.list ((List.range b.F.length).map fun f => lN (cUse b ss ks f))), .dat (nD f), j15, j16, j17, j18]) (h := by
      simp only [bnd_ok, bnd_err, then_ok, then_err, fVar0, fVarS, fC_e, fOp_e, fUn_e, asB_e, asI_e, fT_e, fAnd_e, fOr_e, fNot_e, fAndV_e, fOrV_e, fNotV_e, fIf_e, fChain_e, aNil_e, aCons_e, fTup_e, fLst_e, fCall_e, dTup_e, dLst_e, gAdd_i, gSub_i, gNeg_i, gEq_i, gNe_i, gLt_i, gLe_i, gGt_i, gGe_i, gIsN_e, gNotN_e, isN_n, isN_i, isN_t, isN_l, isN_b, gIsi_e, tyD_n, tyD_i, tyD_t, tyD_l, tyD_b, tyD_s, isaT_ii, isaT_bi, isaT_ib, isaT_bb, isaT_tt, isaT_ll, isaT_tb, isaT_ti, isaT_it, isaT_bt, isaT_lt, isaT_nt, isaT_st, gLen_l, gLen_t, gOne_l, gTuple_l, gTuple_t, gInt_b, gMin2_e, gMax2_e, fIt_e, items_l, items_t, fItA_e, gEnum_e, gZip_t, gNm0, gNmS, gNil_e, gCons_e, gTp_e, wipe0, wipeS, tYesD_e, sNil_e, sExpr_e, sRet_e, sRaise_e, sIf_e, sAsg_e, asF_e, sFor_e, endF_r, endF_n, endF_x, asO_s, fRg1_e, sFrz_e, gIx_t0, gIx_t1, gIx_t2, gIx_l0, gIx_l1, gIx_l2, Option.map_some, Option.bind_some, List.set_cons_succ, List.set_cons_zero, List.getElem?_cons_succ, List.getElem?_cons_zero, Bool.not_true, Bool.not_false, Bool.false_eq_true, ↓reduceIte, List.length_cons, List.length_nil, List.map_cons, List.map_nil, Nat.reduceAdd, Nat.reduceLeDiff, Nat.reduceLT, Bool.true_and, Bool.and_true, Bool.false_and, Bool.and_false, List.length_map, Nat.zero_le]
      rw [fLc_eq nD (fun f => if decide ((cUse b ss ks f).length ≤ c) = true then some (nD f) else none) (List.range b.F.length) (by simp only [bnd_ok, bnd_err, then_ok, then_err, fVar0, fVarS, fC_e, fOp_e, fUn_e, asB_e, asI_e, fT_e, fAnd_e, fOr_e, fNot_e, fAndV_e, fOrV_e, fNotV_e, fIf_e, fChain_e, aNil_e, aCons_e, fTup_e, fLst_e, fCall_e, dTup_e, dLst_e, gAdd_i, gSub_i, gNeg_i, gEq_i, gNe_i, gLt_i, gLe_i, gGt_i, gGe_i, gIsN_e, gNotN_e, isN_n, isN_i, isN_t, isN_l, isN_b, gIsi_e, tyD_n, tyD_i, tyD_t, tyD_l, tyD_b, tyD_s, isaT_ii, isaT_bi, isaT_ib, isaT_bb, isaT_tt, isaT_ll, isaT_tb, isaT_ti, isaT_it, isaT_bt, isaT_lt, isaT_nt, isaT_st, gLen_l, gLen_t, gOne_l, gTuple_l, gTuple_t, gInt_b, gMin2_e, gMax2_e, fIt_e, items_l, items_t, fItA_e, gEnum_e, gZip_t, gNm0, gNmS, gNil_e, gCons_e, gTp_e, wipe0, wipeS, tYesD_e, sNil_e, sExpr_e, sRet_e, sRaise_e, sIf_e, sAsg_e, asF_e, sFor_e, endF_r, endF_n, endF_x, asO_s, fRg1_e, sFrz_e, gIx_t0, gIx_t1, gIx_t2, gIx_l0, gIx_l1, gIx_l2, Option.map_some, Option.bind_some, List.set_cons_succ, List.set_cons_zero, List.getElem?_cons_succ, List.getElem?_cons_zero, Bool.not_true, Bool.not_false, Bool.false_eq_true, ↓reduceIte, List.length_cons, List.length_nil, List.map_cons, List.map_nil, Nat.reduceAdd, Nat.reduceLeDiff, Nat.reduceLT, Bool.true_and, Bool.and_true, Bool.false_and, Bool.and_false, List.length_map, Nat.zero_le, List.length_range, rng_e b.F.length (by omega)]) (by simp; omega) fun g hg => ?_]
      · rw [fm_filter, hr]
        simp only [bnd_ok, bnd_err, then_ok, then_err, fVar0, fVarS, fC_e, fOp_e, fUn_e, asB_e, asI_e, fT_e, fAnd_e, fOr_e, fNot_e, fAndV_e, fOrV_e, fNotV_e, fIf_e, fChain_e, aNil_e, aCons_e, fTup_e, fLst_e, fCall_e, dTup_e, dLst_e, gAdd_i, gSub_i, gNeg_i, gEq_i, gNe_i, gLt_i, gLe_i, gGt_i, gGe_i, gIsN_e, gNotN_e, isN_n, isN_i, isN_t, isN_l, isN_b, gIsi_e, tyD_n, tyD_i, tyD_t, tyD_l, tyD_b, tyD_s, isaT_ii, isaT_bi, isaT_ib, isaT_bb, isaT_tt, isaT_ll, isaT_tb, isaT_ti, isaT_it, isaT_bt, isaT_lt, isaT_nt, isaT_st, gLen_l, gLen_t, gOne_l, gTuple_l, gTuple_t, gInt_b, gMin2_e, gMax2_e, fIt_e, items_l, items_t, fItA_e, gEnum_e, gZip_t, gNm0, gNmS, gNil_e, gCons_e, gTp_e, wipe0, wipeS, tYesD_e, sNil_e, sExpr_e, sRet_e, sRaise_e, sIf_e, sAsg_e, asF_e, sFor_e, endF_r, endF_n, endF_x, asO_s, fRg1_e, sFrz_e, gIx_t0, gIx_t1, gIx_t2, gIx_l0, gIx_l1, gIx_l2, Option.map_some, Option.bind_some, List.set_cons_succ, List.set_cons_zero, List.getElem?_cons_succ, List.getElem?_cons_zero, Bool.not_true, Bool.not_false, Bool.false_eq_true, ↓reduceIte, List.length_cons, List.length_nil, List.map_cons, List.map_nil, Nat.reduceAdd, Nat.reduceLeDiff, Nat.reduceLT, Bool.true_and, Bool.and_true, Bool.false_and, Bool.and_false, List.length_map, Nat.zero_le]
      · have hg := List.mem_range.mp hg
        have eg : gIx (.list ((List.range b.F.length).map fun f => lN (cUse b ss ks f))) (nD g) = .ok (lN (cUse b ss ks g)) := gIx_mapl (fun f => lN (cUse b ss ks f)) _ g g (List.getElem?_range hg)
        simp only [lcOne, bnd_ok, bnd_err, then_ok, then_err, fVar0, fVarS, fC_e, fOp_e, fUn_e, asB_e, asI_e, fT_e, fAnd_e, fOr_e, fNot_e, fAndV_e, fOrV_e, fNotV_e, fIf_e, fChain_e, aNil_e, aCons_e, fTup_e, fLst_e, fCall_e, dTup_e, dLst_e, gAdd_i, gSub_i, gNeg_i, gEq_i, gNe_i, gLt_i, gLe_i, gGt_i, gGe_i, gIsN_e, gNotN_e, isN_n, isN_i, isN_t, isN_l, isN_b, gIsi_e, tyD_n, tyD_i, tyD_t, tyD_l, tyD_b, tyD_s, isaT_ii, isaT_bi, isaT_ib, isaT_bb, isaT_tt, isaT_ll, isaT_tb, isaT_ti, isaT_it, isaT_bt, isaT_lt, isaT_nt, isaT_st, gLen_l, gLen_t, gOne_l, gTuple_l, gTuple_t, gInt_b, gMin2_e, gMax2_e, fIt_e, items_l, items_t, fItA_e, gEnum_e, gZip_t, gNm0, gNmS, gNil_e, gCons_e, gTp_e, wipe0, wipeS, tYesD_e, sNil_e, sExpr_e, sRet_e, sRaise_e, sIf_e, sAsg_e, asF_e, sFor_e, endF_r, endF_n, endF_x, asO_s, fRg1_e, sFrz_e, gIx_t0, gIx_t1, gIx_t2, gIx_l0, gIx_l1, gIx_l2, Option.map_some, Option.bind_some, List.set_cons_succ, List.set_cons_zero, List.getElem?_cons_succ, List.getElem?_cons_zero, Bool.not_true, Bool.not_false, Bool.false_eq_true, ↓reduceIte, List.length_cons, List.length_nil, List.map_cons, List.map_nil, Nat.reduceAdd, Nat.reduceLeDiff, Nat.reduceLT, Bool.true_and, Bool.and_true, Bool.false_and, Bool.and_false, List.length_map, Nat.zero_le, eg, Int.ofNat_le]
        cases decide ((cUse b ss ks g).length ≤ c) <;> rfl)]
    have eg : gIx (.list ((List.range b.F.length).map fun f => lN (cUse b ss ks f))) (nD f) = .ok (lN (cUse b ss ks f)) := gIx_mapl (fun f => lN (cUse b ss ks f)) _ f f (List.getElem?_range hf)
    have e1 : gNe (tN [f]) (.tuple [nD f]) = .ok (.bool false) := ne_tN [f]
    rw [sSeq_n (h := by
      simp only [bnd_ok, bnd_err, then_ok, then_err, fVar0, fVarS, fC_e, fOp_e, fUn_e, asB_e, asI_e, fT_e, fAnd_e, fOr_e, fNot_e, fAndV_e, fOrV_e, fNotV_e, fIf_e, fChain_e, aNil_e, aCons_e, fTup_e, fLst_e, fCall_e, dTup_e, dLst_e, gAdd_i, gSub_i, gNeg_i, gEq_i, gNe_i, gLt_i, gLe_i, gGt_i, gGe_i, gIsN_e, gNotN_e, isN_n, isN_i, isN_t, isN_l, isN_b, gIsi_e, tyD_n, tyD_i, tyD_t, tyD_l, tyD_b, tyD_s, isaT_ii, isaT_bi, isaT_ib, isaT_bb, isaT_tt, isaT_ll, isaT_tb, isaT_ti, isaT_it, isaT_bt, isaT_lt, isaT_nt, isaT_st, gLen_l, gLen_t, gOne_l, gTuple_l, gTuple_t, gInt_b, gMin2_e, gMax2_e, fIt_e, items_l, items_t, fItA_e, gEnum_e, gZip_t, gNm0, gNmS, gNil_e, gCons_e, gTp_e, wipe0, wipeS, tYesD_e, sNil_e, sExpr_e, sRet_e, sRaise_e, sIf_e, sAsg_e, asF_e, sFor_e, endF_r, endF_n, endF_x, asO_s, fRg1_e, sFrz_e, gIx_t0, gIx_t1, gIx_t2, gIx_l0, gIx_l1, gIx_l2, Option.map_some, Option.bind_some, List.set_cons_succ, List.set_cons_zero, List.getElem?_cons_succ, List.getElem?_cons_zero, Bool.not_true, Bool.not_false, Bool.false_eq_true, ↓reduceIte, List.length_cons, List.length_nil, List.map_cons, List.map_nil, Nat.reduceAdd, Nat.reduceLeDiff, Nat.reduceLT, Bool.true_and, Bool.and_true, Bool.false_and, Bool.and_false, List.length_map, Nat.zero_le, e1, gList_t, eg, ne_lN, eo, isN_oP, n1]
      rfl)]
    refine Turn.same ?_ ⟨rfl, rfl, rfl, rfl, rfl, rfl⟩
    simp only [bnd_ok, bnd_err, then_ok, then_err, fVar0, fVarS, fC_e, fOp_e, fUn_e, asB_e, asI_e, fT_e, fAnd_e, fOr_e, fNot_e, fAndV_e, fOrV_e, fNotV_e, fIf_e, fChain_e, aNil_e, aCons_e, fTup_e, fLst_e, fCall_e, dTup_e, dLst_e, gAdd_i, gSub_i, gNeg_i, gEq_i, gNe_i, gLt_i, gLe_i, gGt_i, gGe_i, gIsN_e, gNotN_e, isN_n, isN_i, isN_t, isN_l, isN_b, gIsi_e, tyD_n, tyD_i, tyD_t, tyD_l, tyD_b, tyD_s, isaT_ii, isaT_bi, isaT_ib, isaT_bb, isaT_tt, isaT_ll, isaT_tb, isaT_ti, isaT_it, isaT_bt, isaT_lt, isaT_nt, isaT_st, gLen_l, gLen_t, gOne_l, gTuple_l, gTuple_t, gInt_b, gMin2_e, gMax2_e, fIt_e, items_l, items_t, fItA_e, gEnum_e, gZip_t, gNm0, gNmS, gNil_e, gCons_e, gTp_e, wipe0, wipeS, tYesD_e, sNil_e, sExpr_e, sRet_e, sRaise_e, sIf_e, sAsg_e, asF_e, sFor_e, endF_r, endF_n, endF_x, asO_s, fRg1_e, sFrz_e, gIx_t0, gIx_t1, gIx_t2, gIx_l0, gIx_l1, gIx_l2, Option.map_some, Option.bind_some, List.set_cons_succ, List.set_cons_zero, List.getElem?_cons_succ, List.getElem?_cons_zero, Bool.not_true, Bool.not_false, Bool.false_eq_true, ↓reduceIte, List.length_cons, List.length_nil, List.map_cons, List.map_nil, Nat.reduceAdd, Nat.reduceLeDiff, Nat.reduceLT, Bool.true_and, Bool.and_true, Bool.false_and, Bool.and_false, List.length_map, Nat.zero_le, ne_nilt (lay_ns _), List.isEmpty_map]
    cases hu2 : cUse b ss ks f with
    | nil => simp only [bnd_ok, bnd_err, then_ok, then_err, fVar0, fVarS, fC_e, fOp_e, fUn_e, asB_e, asI_e, fT_e, fAnd_e, fOr_e, fNot_e, fAndV_e, fOrV_e, fNotV_e, fIf_e, fChain_e, aNil_e, aCons_e, fTup_e, fLst_e, fCall_e, dTup_e, dLst_e, gAdd_i, gSub_i, gNeg_i, gEq_i, gNe_i, gLt_i, gLe_i, gGt_i, gGe_i, gIsN_e, gNotN_e, isN_n, isN_i, isN_t, isN_l, isN_b, gIsi_e, tyD_n, tyD_i, tyD_t, tyD_l, tyD_b, tyD_s, isaT_ii, isaT_bi, isaT_ib, isaT_bb, isaT_tt, isaT_ll, isaT_tb, isaT_ti, isaT_it, isaT_bt, isaT_lt, isaT_nt, isaT_st, gLen_l, gLen_t, gOne_l, gTuple_l, gTuple_t, gInt_b, gMin2_e, gMax2_e, fIt_e, items_l, items_t, fItA_e, gEnum_e, gZip_t, gNm0, gNmS, gNil_e, gCons_e, gTp_e, wipe0, wipeS, tYesD_e, sNil_e, sExpr_e, sRet_e, sRaise_e, sIf_e, sAsg_e, asF_e, sFor_e, endF_r, endF_n, endF_x, asO_s, fRg1_e, sFrz_e, gIx_t0, gIx_t1, gIx_t2, gIx_l0, gIx_l1, gIx_l2, Option.map_some, Option.bind_some, List.set_cons_succ, List.set_cons_zero, List.getElem?_cons_succ, List.getElem?_cons_zero, Bool.not_true, Bool.not_false, Bool.false_eq_true, ↓reduceIte, List.length_cons, List.length_nil, List.map_cons, List.map_nil, Nat.reduceAdd, Nat.reduceLeDiff, Nat.reduceLT, Bool.true_and, Bool.and_true, Bool.false_and, Bool.and_false, List.length_map, Nat.zero_le, List.isEmpty_nil]
    | cons x xs =>
      rw [hu2] at eo2
      have n2 : (cOut b ss ks [f] xs).isSome = true := out1_some.mpr ⟨x, by rw [hu2]; exact List.mem_cons_self, by
        have := hR.2
        rw [hu2] at this
        intro z
        exact absurd ((List.pairwise_cons.mp this).1 x z) (Nat.lt_irrefl _)⟩
      have ec : fSl (fVar 12) (oSome (fC (.int 1))) oNone [j0, j1, j2, j3, j4, .dat (eB b), .dat (eP ss ks), .dat (.list (((List.range 9).map fun c => decide (c < cLeast b ss ks)).map PyData.bool)), j8, .dat (nD c), .dat (.tuple [tN [f], tN (x :: xs)]), .dat (tN [f]), .dat (tN (x :: xs)), .dat (.list ((List.range b.F.length).map fun f => lN (cUse b ss ks f))), .dat (nD f), j15, j16, j17, j18] = .ok (tN xs) := by
        show R.ok (PyData.tuple (cutD ((x :: xs).map nD) (some 1) none)) = _
        rw [cut_tail]
        rfl
      have eo2 : m_out [eB b, eP ss ks, tN [f], tN xs] = .ok (oP (cOut b ss ks [f] xs)) := eo2
      simp only [bnd_ok, bnd_err, then_ok, then_err, fVar0, fVarS, fC_e, fOp_e, fUn_e, asB_e, asI_e, fT_e, fAnd_e, fOr_e, fNot_e, fAndV_e, fOrV_e, fNotV_e, fIf_e, fChain_e, aNil_e, aCons_e, fTup_e, fLst_e, fCall_e, dTup_e, dLst_e, gAdd_i, gSub_i, gNeg_i, gEq_i, gNe_i, gLt_i, gLe_i, gGt_i, gGe_i, gIsN_e, gNotN_e, isN_n, isN_i, isN_t, isN_l, isN_b, gIsi_e, tyD_n, tyD_i, tyD_t, tyD_l, tyD_b, tyD_s, isaT_ii, isaT_bi, isaT_ib, isaT_bb, isaT_tt, isaT_ll, isaT_tb, isaT_ti, isaT_it, isaT_bt, isaT_lt, isaT_nt, isaT_st, gLen_l, gLen_t, gOne_l, gTuple_l, gTuple_t, gInt_b, gMin2_e, gMax2_e, fIt_e, items_l, items_t, fItA_e, gEnum_e, gZip_t, gNm0, gNmS, gNil_e, gCons_e, gTp_e, wipe0, wipeS, tYesD_e, sNil_e, sExpr_e, sRet_e, sRaise_e, sIf_e, sAsg_e, asF_e, sFor_e, endF_r, endF_n, endF_x, asO_s, fRg1_e, sFrz_e, gIx_t0, gIx_t1, gIx_t2, gIx_l0, gIx_l1, gIx_l2, Option.map_some, Option.bind_some, List.set_cons_succ, List.set_cons_zero, List.getElem?_cons_succ, List.getElem?_cons_zero, Bool.not_true, Bool.not_false, Bool.false_eq_true, ↓reduceIte, List.length_cons, List.length_nil, List.map_cons, List.map_nil, Nat.reduceAdd, Nat.reduceLeDiff, Nat.reduceLT, Bool.true_and, Bool.and_true, Bool.false_and, Bool.and_false, List.length_map, Nat.zero_le, List.isEmpty_cons, ec, eo2, isN_oP, n2]
theorem k21_1 (j0 j1 j4 j5 j6 j7 j8 j9 j10 j11 j12 j13 j14 j15 j16 j17 j18 : Slot) (more : Int) (j : Nat) :
    ∃ (b : Belt) (ss ks : List Nat), b.Ok ∧ PlanOk b ss ks ∧ ∃ ρ', l_law_1 [j0, j1, .dat (.int more), .dat (nD j), j4, j5, j6, j7, j8, j9, j10, j11, j12, j13, j14, j15, j16, j17, j18] = .next ρ' ∧ ρ'.length = 19 ∧ ρ'[0]? = some j0 ∧ ρ'[2]? = some (.dat (.int more)) ∧ ρ'[5]? = some (.dat (eB b)) ∧ ρ'[6]? = some (.dat (eP ss ks)) := by
  unfold l_law_1
  rw [sSeq_n (h := by simp only [bnd_ok, bnd_err, then_ok, then_err, fVar0, fVarS, fC_e, fOp_e, fUn_e, asB_e, asI_e, fT_e, fAnd_e, fOr_e, fNot_e, fAndV_e, fOrV_e, fNotV_e, fIf_e, fChain_e, aNil_e, aCons_e, fTup_e, fLst_e, fCall_e, dTup_e, dLst_e, gAdd_i, gSub_i, gNeg_i, gEq_i, gNe_i, gLt_i, gLe_i, gGt_i, gGe_i, gIsN_e, gNotN_e, isN_n, isN_i, isN_t, isN_l, isN_b, gIsi_e, tyD_n, tyD_i, tyD_t, tyD_l, tyD_b, tyD_s, isaT_ii, isaT_bi, isaT_ib, isaT_bb, isaT_tt, isaT_ll, isaT_tb, isaT_ti, isaT_it, isaT_bt, isaT_lt, isaT_nt, isaT_st, gLen_l, gLen_t, gOne_l, gTuple_l, gTuple_t, gInt_b, gMin2_e, gMax2_e, fIt_e, items_l, items_t, fItA_e, gEnum_e, gZip_t, gNm0, gNmS, gNil_e, gCons_e, gTp_e, wipe0, wipeS, tYesD_e, sNil_e, sExpr_e, sRet_e, sRaise_e, sIf_e, sAsg_e, asF_e, sFor_e, endF_r, endF_n, endF_x, asO_s, fRg1_e, sFrz_e, gIx_t0, gIx_t1, gIx_t2, gIx_l0, gIx_l1, gIx_l2, Option.map_some, Option.bind_some, List.set_cons_succ, List.set_cons_zero, List.getElem?_cons_succ, List.getElem?_cons_zero, Bool.not_true, Bool.not_false, Bool.false_eq_true, ↓reduceIte, List.length_cons, List.length_nil, List.map_cons, List.map_nil, Nat.reduceAdd, Nat.reduceLeDiff, Nat.reduceLT, Bool.true_and, Bool.and_true, Bool.false_and, Bool.and_false, List.length_map, Nat.zero_le, drawn_e]; rfl)]
  obtain ⟨b, hb, h6, eb⟩ := belt_e (drawn more (10 + (j : Int))) (drawn_nonneg _ _) 6 (by decide)
  have eb : m_law_belt [.int (drawn more (10 + (j : Int))), .int 6] = .ok (eB b) := eb
  rw [sSeq_n (h := by simp only [bnd_ok, bnd_err, then_ok, then_err, fVar0, fVarS, fC_e, fOp_e, fUn_e, asB_e, asI_e, fT_e, fAnd_e, fOr_e, fNot_e, fAndV_e, fOrV_e, fNotV_e, fIf_e, fChain_e, aNil_e, aCons_e, fTup_e, fLst_e, fCall_e, dTup_e, dLst_e, gAdd_i, gSub_i, gNeg_i, gEq_i, gNe_i, gLt_i, gLe_i, gGt_i, gGe_i, gIsN_e, gNotN_e, isN_n, isN_i, isN_t, isN_l, isN_b, gIsi_e, tyD_n, tyD_i, tyD_t, tyD_l, tyD_b, tyD_s, isaT_ii, isaT_bi, isaT_ib, isaT_bb, isaT_tt, isaT_ll, isaT_tb, isaT_ti, isaT_it, isaT_bt, isaT_lt, isaT_nt, isaT_st, gLen_l, gLen_t, gOne_l, gTuple_l, gTuple_t, gInt_b, gMin2_e, gMax2_e, fIt_e, items_l, items_t, fItA_e, gEnum_e, gZip_t, gNm0, gNmS, gNil_e, gCons_e, gTp_e, wipe0, wipeS, tYesD_e, sNil_e, sExpr_e, sRet_e, sRaise_e, sIf_e, sAsg_e, asF_e, sFor_e, endF_r, endF_n, endF_x, asO_s, fRg1_e, sFrz_e, gIx_t0, gIx_t1, gIx_t2, gIx_l0, gIx_l1, gIx_l2, Option.map_some, Option.bind_some, List.set_cons_succ, List.set_cons_zero, List.getElem?_cons_succ, List.getElem?_cons_zero, Bool.not_true, Bool.not_false, Bool.false_eq_true, ↓reduceIte, List.length_cons, List.length_nil, List.map_cons, List.map_nil, Nat.reduceAdd, Nat.reduceLeDiff, Nat.reduceLT, Bool.true_and, Bool.and_true, Bool.false_and, Bool.and_false, List.length_map, Nat.zero_le, eb]; rfl)]
  obtain ⟨ss, ks, hp, ep⟩ := plan_e hb (drawn (drawn more (10 + (j : Int))) 1)
  rw [sSeq_n (h := by simp only [bnd_ok, bnd_err, then_ok, then_err, fVar0, fVarS, fC_e, fOp_e, fUn_e, asB_e, asI_e, fT_e, fAnd_e, fOr_e, fNot_e, fAndV_e, fOrV_e, fNotV_e, fIf_e, fChain_e, aNil_e, aCons_e, fTup_e, fLst_e, fCall_e, dTup_e, dLst_e, gAdd_i, gSub_i, gNeg_i, gEq_i, gNe_i, gLt_i, gLe_i, gGt_i, gGe_i, gIsN_e, gNotN_e, isN_n, isN_i, isN_t, isN_l, isN_b, gIsi_e, tyD_n, tyD_i, tyD_t, tyD_l, tyD_b, tyD_s, isaT_ii, isaT_bi, isaT_ib, isaT_bb, isaT_tt, isaT_ll, isaT_tb, isaT_ti, isaT_it, isaT_bt, isaT_lt, isaT_nt, isaT_st, gLen_l, gLen_t, gOne_l, gTuple_l, gTuple_t, gInt_b, gMin2_e, gMax2_e, fIt_e, items_l, items_t, fItA_e, gEnum_e, gZip_t, gNm0, gNmS, gNil_e, gCons_e, gTp_e, wipe0, wipeS, tYesD_e, sNil_e, sExpr_e, sRet_e, sRaise_e, sIf_e, sAsg_e, asF_e, sFor_e, endF_r, endF_n, endF_x, asO_s, fRg1_e, sFrz_e, gIx_t0, gIx_t1, gIx_t2, gIx_l0, gIx_l1, gIx_l2, Option.map_some, Option.bind_some, List.set_cons_succ, List.set_cons_zero, List.getElem?_cons_succ, List.getElem?_cons_zero, Bool.not_true, Bool.not_false, Bool.false_eq_true, ↓reduceIte, List.length_cons, List.length_nil, List.map_cons, List.map_nil, Nat.reduceAdd, Nat.reduceLeDiff, Nat.reduceLT, Bool.true_and, Bool.and_true, Bool.false_and, Bool.and_false, List.length_map, Nat.zero_le, drawn_e, ep]; rfl)]
  have r9 : gRng1 [.int 9] = .ok ((List.range 9).map nD) := rng_e 9 (by decide)
  have s8 := hb.s8; have f6 := hb.f6; have f1 := hb.f1; have l1 := rise_len hp.s
  refine ⟨b, ss, ks, hb, hp, ?_⟩
  rw [sSeq_n (ρ' := [j0, j1, .dat (.int more), .dat (nD j), .dat (.int (drawn more (10 + (j : Int)))), .dat (eB b), .dat (eP ss ks), .dat (.list (((List.range 9).map fun c => decide (c < cLeast b ss ks)).map PyData.bool)), j8, j9, j10, j11, j12, j13, j14, j15, j16, j17, j18]) (h := by
    simp only [bnd_ok, bnd_err, then_ok, then_err, fVar0, fVarS, fC_e, fOp_e, fUn_e, asB_e, asI_e, fT_e, fAnd_e, fOr_e, fNot_e, fAndV_e, fOrV_e, fNotV_e, fIf_e, fChain_e, aNil_e, aCons_e, fTup_e, fLst_e, fCall_e, dTup_e, dLst_e, gAdd_i, gSub_i, gNeg_i, gEq_i, gNe_i, gLt_i, gLe_i, gGt_i, gGe_i, gIsN_e, gNotN_e, isN_n, isN_i, isN_t, isN_l, isN_b, gIsi_e, tyD_n, tyD_i, tyD_t, tyD_l, tyD_b, tyD_s, isaT_ii, isaT_bi, isaT_ib, isaT_bb, isaT_tt, isaT_ll, isaT_tb, isaT_ti, isaT_it, isaT_bt, isaT_lt, isaT_nt, isaT_st, gLen_l, gLen_t, gOne_l, gTuple_l, gTuple_t, gInt_b, gMin2_e, gMax2_e, fIt_e, items_l, items_t, fItA_e, gEnum_e, gZip_t, gNm0, gNmS, gNil_e, gCons_e, gTp_e, wipe0, wipeS, tYesD_e, sNil_e, sExpr_e, sRet_e, sRaise_e, sIf_e, sAsg_e, asF_e, sFor_e, endF_r, endF_n, endF_x, asO_s, fRg1_e, sFrz_e, gIx_t0, gIx_t1, gIx_t2, gIx_l0, gIx_l1, gIx_l2, Option.map_some, Option.bind_some, List.set_cons_succ, List.set_cons_zero, List.getElem?_cons_succ, List.getElem?_cons_zero, Bool.not_true, Bool.not_false, Bool.false_eq_true, ↓reduceIte, List.length_cons, List.length_nil, List.map_cons, List.map_nil, Nat.reduceAdd, Nat.reduceLeDiff, Nat.reduceLT, Bool.true_and, Bool.and_true, Bool.false_and, Bool.and_false, List.length_map, Nat.zero_le]
    rw [fLc_map nD (fun c => .bool (decide (c < cLeast b ss ks))) (List.range 9) (by simp only [bnd_ok, bnd_err, then_ok, then_err, fVar0, fVarS, fC_e, fOp_e, fUn_e, asB_e, asI_e, fT_e, fAnd_e, fOr_e, fNot_e, fAndV_e, fOrV_e, fNotV_e, fIf_e, fChain_e, aNil_e, aCons_e, fTup_e, fLst_e, fCall_e, dTup_e, dLst_e, gAdd_i, gSub_i, gNeg_i, gEq_i, gNe_i, gLt_i, gLe_i, gGt_i, gGe_i, gIsN_e, gNotN_e, isN_n, isN_i, isN_t, isN_l, isN_b, gIsi_e, tyD_n, tyD_i, tyD_t, tyD_l, tyD_b, tyD_s, isaT_ii, isaT_bi, isaT_ib, isaT_bb, isaT_tt, isaT_ll, isaT_tb, isaT_ti, isaT_it, isaT_bt, isaT_lt, isaT_nt, isaT_st, gLen_l, gLen_t, gOne_l, gTuple_l, gTuple_t, gInt_b, gMin2_e, gMax2_e, fIt_e, items_l, items_t, fItA_e, gEnum_e, gZip_t, gNm0, gNmS, gNil_e, gCons_e, gTp_e, wipe0, wipeS, tYesD_e, sNil_e, sExpr_e, sRet_e, sRaise_e, sIf_e, sAsg_e, asF_e, sFor_e, endF_r, endF_n, endF_x, asO_s, fRg1_e, sFrz_e, gIx_t0, gIx_t1, gIx_t2, gIx_l0, gIx_l1, gIx_l2, Option.map_some, Option.bind_some, List.set_cons_succ, List.set_cons_zero, List.getElem?_cons_succ, List.getElem?_cons_zero, Bool.not_true, Bool.not_false, Bool.false_eq_true, ↓reduceIte, List.length_cons, List.length_nil, List.map_cons, List.map_nil, Nat.reduceAdd, Nat.reduceLeDiff, Nat.reduceLT, Bool.true_and, Bool.and_true, Bool.false_and, Bool.and_false, List.length_map, Nat.zero_le, r9]) (by simp) fun c hc => ?_]
    · simp only [bnd_ok, bnd_err, then_ok, then_err, fVar0, fVarS, fC_e, fOp_e, fUn_e, asB_e, asI_e, fT_e, fAnd_e, fOr_e, fNot_e, fAndV_e, fOrV_e, fNotV_e, fIf_e, fChain_e, aNil_e, aCons_e, fTup_e, fLst_e, fCall_e, dTup_e, dLst_e, gAdd_i, gSub_i, gNeg_i, gEq_i, gNe_i, gLt_i, gLe_i, gGt_i, gGe_i, gIsN_e, gNotN_e, isN_n, isN_i, isN_t, isN_l, isN_b, gIsi_e, tyD_n, tyD_i, tyD_t, tyD_l, tyD_b, tyD_s, isaT_ii, isaT_bi, isaT_ib, isaT_bb, isaT_tt, isaT_ll, isaT_tb, isaT_ti, isaT_it, isaT_bt, isaT_lt, isaT_nt, isaT_st, gLen_l, gLen_t, gOne_l, gTuple_l, gTuple_t, gInt_b, gMin2_e, gMax2_e, fIt_e, items_l, items_t, fItA_e, gEnum_e, gZip_t, gNm0, gNmS, gNil_e, gCons_e, gTp_e, wipe0, wipeS, tYesD_e, sNil_e, sExpr_e, sRet_e, sRaise_e, sIf_e, sAsg_e, asF_e, sFor_e, endF_r, endF_n, endF_x, asO_s, fRg1_e, sFrz_e, gIx_t0, gIx_t1, gIx_t2, gIx_l0, gIx_l1, gIx_l2, Option.map_some, Option.bind_some, List.set_cons_succ, List.set_cons_zero, List.getElem?_cons_succ, List.getElem?_cons_zero, Bool.not_true, Bool.not_false, Bool.false_eq_true, ↓reduceIte, List.length_cons, List.length_nil, List.map_cons, List.map_nil, Nat.reduceAdd, Nat.reduceLeDiff, Nat.reduceLT, Bool.true_and, Bool.and_true, Bool.false_and, Bool.and_false, List.length_map, Nat.zero_le, List.map_map]
      rfl
    · simp only [lcOne, bnd_ok, bnd_err, then_ok, then_err, fVar0, fVarS, fC_e, fOp_e, fUn_e, asB_e, asI_e, fT_e, fAnd_e, fOr_e, fNot_e, fAndV_e, fOrV_e, fNotV_e, fIf_e, fChain_e, aNil_e, aCons_e, fTup_e, fLst_e, fCall_e, dTup_e, dLst_e, gAdd_i, gSub_i, gNeg_i, gEq_i, gNe_i, gLt_i, gLe_i, gGt_i, gGe_i, gIsN_e, gNotN_e, isN_n, isN_i, isN_t, isN_l, isN_b, gIsi_e, tyD_n, tyD_i, tyD_t, tyD_l, tyD_b, tyD_s, isaT_ii, isaT_bi, isaT_ib, isaT_bb, isaT_tt, isaT_ll, isaT_tb, isaT_ti, isaT_it, isaT_bt, isaT_lt, isaT_nt, isaT_st, gLen_l, gLen_t, gOne_l, gTuple_l, gTuple_t, gInt_b, gMin2_e, gMax2_e, fIt_e, items_l, items_t, fItA_e, gEnum_e, gZip_t, gNm0, gNmS, gNil_e, gCons_e, gTp_e, wipe0, wipeS, tYesD_e, sNil_e, sExpr_e, sRet_e, sRaise_e, sIf_e, sAsg_e, asF_e, sFor_e, endF_r, endF_n, endF_x, asO_s, fRg1_e, sFrz_e, gIx_t0, gIx_t1, gIx_t2, gIx_l0, gIx_l1, gIx_l2, Option.map_some, Option.bind_some, List.set_cons_succ, List.set_cons_zero, List.getElem?_cons_succ, List.getElem?_cons_zero, Bool.not_true, Bool.not_false, Bool.false_eq_true, ↓reduceIte, List.length_cons, List.length_nil, List.map_cons, List.map_nil, Nat.reduceAdd, Nat.reduceLeDiff, Nat.reduceLT, Bool.true_and, Bool.and_true, Bool.false_and, Bool.and_false, List.length_map, Nat.zero_le, law_bears_e hb hp])]
  have hL : cLeast b ss ks ≤ 6 := by
    have : ¬ 6 < cLeast b ss ks := fun z => by
      have h1 := (lt_least f1).mp z 0 (by omega)
      have h2 : (cUse b ss ks 0).length ≤ ss.length := List.length_filter_le _ _
      omega
    omega
  have hcnt := filter_lt (cLeast b ss ks) 9
  have hfl := desc_lt (cLeast b ss ks) 9
  have hb9 : ((List.range 9).map fun c => decide (c < cLeast b ss ks)).length ≤ 16777216 := by simp
  rw [sSeq_n (ρ' := [j0, j1, .dat (.int more), .dat (nD j), .dat (.int (drawn more (10 + (j : Int)))), .dat (eB b), .dat (eP ss ks), .dat (.list (((List.range 9).map fun c => decide (c < cLeast b ss ks)).map PyData.bool)), .dat (.int ((cLeast b ss ks : Nat) - 1)), j9, j10, j11, j12, j13, j14, j15, j16, j17, j18]) (h := by
    simp only [bnd_ok, bnd_err, then_ok, then_err, fVar0, fVarS, fC_e, fOp_e, fUn_e, asB_e, asI_e, fT_e, fAnd_e, fOr_e, fNot_e, fAndV_e, fOrV_e, fNotV_e, fIf_e, fChain_e, aNil_e, aCons_e, fTup_e, fLst_e, fCall_e, dTup_e, dLst_e, gAdd_i, gSub_i, gNeg_i, gEq_i, gNe_i, gLt_i, gLe_i, gGt_i, gGe_i, gIsN_e, gNotN_e, isN_n, isN_i, isN_t, isN_l, isN_b, gIsi_e, tyD_n, tyD_i, tyD_t, tyD_l, tyD_b, tyD_s, isaT_ii, isaT_bi, isaT_ib, isaT_bb, isaT_tt, isaT_ll, isaT_tb, isaT_ti, isaT_it, isaT_bt, isaT_lt, isaT_nt, isaT_st, gLen_l, gLen_t, gOne_l, gTuple_l, gTuple_t, gInt_b, gMin2_e, gMax2_e, fIt_e, items_l, items_t, fItA_e, gEnum_e, gZip_t, gNm0, gNmS, gNil_e, gCons_e, gTp_e, wipe0, wipeS, tYesD_e, sNil_e, sExpr_e, sRet_e, sRaise_e, sIf_e, sAsg_e, asF_e, sFor_e, endF_r, endF_n, endF_x, asO_s, fRg1_e, sFrz_e, gIx_t0, gIx_t1, gIx_t2, gIx_l0, gIx_l1, gIx_l2, Option.map_some, Option.bind_some, List.set_cons_succ, List.set_cons_zero, List.getElem?_cons_succ, List.getElem?_cons_zero, Bool.not_true, Bool.not_false, Bool.false_eq_true, ↓reduceIte, List.length_cons, List.length_nil, List.map_cons, List.map_nil, Nat.reduceAdd, Nat.reduceLeDiff, Nat.reduceLT, Bool.true_and, Bool.and_true, Bool.false_and, Bool.and_false, List.length_map, Nat.zero_le]
    rw [fLc_eq PyData.bool (fun x => if x = true then some (.bool true) else none) ((List.range 9).map fun c => decide (c < cLeast b ss ks)) (by simp only [bnd_ok, bnd_err, then_ok, then_err, fVar0, fVarS, fC_e, fOp_e, fUn_e, asB_e, asI_e, fT_e, fAnd_e, fOr_e, fNot_e, fAndV_e, fOrV_e, fNotV_e, fIf_e, fChain_e, aNil_e, aCons_e, fTup_e, fLst_e, fCall_e, dTup_e, dLst_e, gAdd_i, gSub_i, gNeg_i, gEq_i, gNe_i, gLt_i, gLe_i, gGt_i, gGe_i, gIsN_e, gNotN_e, isN_n, isN_i, isN_t, isN_l, isN_b, gIsi_e, tyD_n, tyD_i, tyD_t, tyD_l, tyD_b, tyD_s, isaT_ii, isaT_bi, isaT_ib, isaT_bb, isaT_tt, isaT_ll, isaT_tb, isaT_ti, isaT_it, isaT_bt, isaT_lt, isaT_nt, isaT_st, gLen_l, gLen_t, gOne_l, gTuple_l, gTuple_t, gInt_b, gMin2_e, gMax2_e, fIt_e, items_l, items_t, fItA_e, gEnum_e, gZip_t, gNm0, gNmS, gNil_e, gCons_e, gTp_e, wipe0, wipeS, tYesD_e, sNil_e, sExpr_e, sRet_e, sRaise_e, sIf_e, sAsg_e, asF_e, sFor_e, endF_r, endF_n, endF_x, asO_s, fRg1_e, sFrz_e, gIx_t0, gIx_t1, gIx_t2, gIx_l0, gIx_l1, gIx_l2, Option.map_some, Option.bind_some, List.set_cons_succ, List.set_cons_zero, List.getElem?_cons_succ, List.getElem?_cons_zero, Bool.not_true, Bool.not_false, Bool.false_eq_true, ↓reduceIte, List.length_cons, List.length_nil, List.map_cons, List.map_nil, Nat.reduceAdd, Nat.reduceLeDiff, Nat.reduceLT, Bool.true_and, Bool.and_true, Bool.false_and, Bool.and_false, List.length_map, Nat.zero_le]) (by simp) fun x hx => ?_]
    · have : (((List.range 9).map fun c => decide (c < cLeast b ss ks)).filterMap fun x => if x = true then some (PyData.bool true) else none).length = cLeast b ss ks := by
        rw [List.filterMap_map]
        have e : ∀ xs : List Nat, (xs.filterMap ((fun x => if x = true then some (PyData.bool true) else none) ∘ fun c => decide (c < cLeast b ss ks))).length = (xs.filter fun c => decide (c < cLeast b ss ks)).length := by
          intro xs
          induction xs with
          | nil => rfl
          | cons x xs ih =>
            rw [List.filterMap_cons, List.filter_cons, Function.comp_apply]
            cases decide (x < cLeast b ss ks) with
            | true => simp only [↓reduceIte, List.length_cons, ih]
            | false => exact ih
        rw [e, hcnt]
        omega
      simp only [bnd_ok, bnd_err, then_ok, then_err, fVar0, fVarS, fC_e, fOp_e, fUn_e, asB_e, asI_e, fT_e, fAnd_e, fOr_e, fNot_e, fAndV_e, fOrV_e, fNotV_e, fIf_e, fChain_e, aNil_e, aCons_e, fTup_e, fLst_e, fCall_e, dTup_e, dLst_e, gAdd_i, gSub_i, gNeg_i, gEq_i, gNe_i, gLt_i, gLe_i, gGt_i, gGe_i, gIsN_e, gNotN_e, isN_n, isN_i, isN_t, isN_l, isN_b, gIsi_e, tyD_n, tyD_i, tyD_t, tyD_l, tyD_b, tyD_s, isaT_ii, isaT_bi, isaT_ib, isaT_bb, isaT_tt, isaT_ll, isaT_tb, isaT_ti, isaT_it, isaT_bt, isaT_lt, isaT_nt, isaT_st, gLen_l, gLen_t, gOne_l, gTuple_l, gTuple_t, gInt_b, gMin2_e, gMax2_e, fIt_e, items_l, items_t, fItA_e, gEnum_e, gZip_t, gNm0, gNmS, gNil_e, gCons_e, gTp_e, wipe0, wipeS, tYesD_e, sNil_e, sExpr_e, sRet_e, sRaise_e, sIf_e, sAsg_e, asF_e, sFor_e, endF_r, endF_n, endF_x, asO_s, fRg1_e, sFrz_e, gIx_t0, gIx_t1, gIx_t2, gIx_l0, gIx_l1, gIx_l2, Option.map_some, Option.bind_some, List.set_cons_succ, List.set_cons_zero, List.getElem?_cons_succ, List.getElem?_cons_zero, Bool.not_true, Bool.not_false, Bool.false_eq_true, ↓reduceIte, List.length_cons, List.length_nil, List.map_cons, List.map_nil, Nat.reduceAdd, Nat.reduceLeDiff, Nat.reduceLT, Bool.true_and, Bool.and_true, Bool.false_and, Bool.and_false, List.length_map, Nat.zero_le, this]
    · cases x <;> simp only [lcOne, bnd_ok, bnd_err, then_ok, then_err, fVar0, fVarS, fC_e, fOp_e, fUn_e, asB_e, asI_e, fT_e, fAnd_e, fOr_e, fNot_e, fAndV_e, fOrV_e, fNotV_e, fIf_e, fChain_e, aNil_e, aCons_e, fTup_e, fLst_e, fCall_e, dTup_e, dLst_e, gAdd_i, gSub_i, gNeg_i, gEq_i, gNe_i, gLt_i, gLe_i, gGt_i, gGe_i, gIsN_e, gNotN_e, isN_n, isN_i, isN_t, isN_l, isN_b, gIsi_e, tyD_n, tyD_i, tyD_t, tyD_l, tyD_b, tyD_s, isaT_ii, isaT_bi, isaT_ib, isaT_bb, isaT_tt, isaT_ll, isaT_tb, isaT_ti, isaT_it, isaT_bt, isaT_lt, isaT_nt, isaT_st, gLen_l, gLen_t, gOne_l, gTuple_l, gTuple_t, gInt_b, gMin2_e, gMax2_e, fIt_e, items_l, items_t, fItA_e, gEnum_e, gZip_t, gNm0, gNmS, gNil_e, gCons_e, gTp_e, wipe0, wipeS, tYesD_e, sNil_e, sExpr_e, sRet_e, sRaise_e, sIf_e, sAsg_e, asF_e, sFor_e, endF_r, endF_n, endF_x, asO_s, fRg1_e, sFrz_e, gIx_t0, gIx_t1, gIx_t2, gIx_l0, gIx_l1, gIx_l2, Option.map_some, Option.bind_some, List.set_cons_succ, List.set_cons_zero, List.getElem?_cons_succ, List.getElem?_cons_zero, Bool.not_true, Bool.not_false, Bool.false_eq_true, ↓reduceIte, List.length_cons, List.length_nil, List.map_cons, List.map_nil, Nat.reduceAdd, Nat.reduceLeDiff, Nat.reduceLT, Bool.true_and, Bool.and_true, Bool.false_and, Bool.and_false, List.length_map, Nat.zero_le])]
  rw [sSeq_n (ρ' := [j0, j1, .dat (.int more), .dat (nD j), .dat (.int (drawn more (10 + (j : Int)))), .dat (eB b), .dat (eP ss ks), .dat (.list (((List.range 9).map fun c => decide (c < cLeast b ss ks)).map PyData.bool)), .dat (.int ((cLeast b ss ks : Nat) - 1)), j9, j10, j11, j12, j13, j14, j15, j16, j17, j18]) (h := by
    simp only [bnd_ok, bnd_err, then_ok, then_err, fVar0, fVarS, fC_e, fOp_e, fUn_e, asB_e, asI_e, fT_e, fAnd_e, fOr_e, fNot_e, fAndV_e, fOrV_e, fNotV_e, fIf_e, fChain_e, aNil_e, aCons_e, fTup_e, fLst_e, fCall_e, dTup_e, dLst_e, gAdd_i, gSub_i, gNeg_i, gEq_i, gNe_i, gLt_i, gLe_i, gGt_i, gGe_i, gIsN_e, gNotN_e, isN_n, isN_i, isN_t, isN_l, isN_b, gIsi_e, tyD_n, tyD_i, tyD_t, tyD_l, tyD_b, tyD_s, isaT_ii, isaT_bi, isaT_ib, isaT_bb, isaT_tt, isaT_ll, isaT_tb, isaT_ti, isaT_it, isaT_bt, isaT_lt, isaT_nt, isaT_st, gLen_l, gLen_t, gOne_l, gTuple_l, gTuple_t, gInt_b, gMin2_e, gMax2_e, fIt_e, items_l, items_t, fItA_e, gEnum_e, gZip_t, gNm0, gNmS, gNil_e, gCons_e, gTp_e, wipe0, wipeS, tYesD_e, sNil_e, sExpr_e, sRet_e, sRaise_e, sIf_e, sAsg_e, asF_e, sFor_e, endF_r, endF_n, endF_x, asO_s, fRg1_e, sFrz_e, gIx_t0, gIx_t1, gIx_t2, gIx_l0, gIx_l1, gIx_l2, Option.map_some, Option.bind_some, List.set_cons_succ, List.set_cons_zero, List.getElem?_cons_succ, List.getElem?_cons_zero, Bool.not_true, Bool.not_false, Bool.false_eq_true, ↓reduceIte, List.length_cons, List.length_nil, List.map_cons, List.map_nil, Nat.reduceAdd, Nat.reduceLeDiff, Nat.reduceLT, Bool.true_and, Bool.and_true, Bool.false_and, Bool.and_false, List.length_map, Nat.zero_le, dSorted_bs _ hb9, gRevA_e, desc_sort _ hfl, flags_e _ hfl, borne_e hb hp]
    unfold cBorne
    by_cases hc : 0 < cLeast b ss ks
    · have e1 : decide ((0 : Int) ≤ ((cLeast b ss ks : Nat) : Int) - 1) = true := by simp; omega
      have e2 : ((cLeast b ss ks : Nat) : Int) - 1 = ((cLeast b ss ks - 1 : Nat) : Int) := by omega
      have := ne_oN (some (cLeast b ss ks - 1))
      simp only [oN] at this
      simp only [bnd_ok, bnd_err, then_ok, then_err, fVar0, fVarS, fC_e, fOp_e, fUn_e, asB_e, asI_e, fT_e, fAnd_e, fOr_e, fNot_e, fAndV_e, fOrV_e, fNotV_e, fIf_e, fChain_e, aNil_e, aCons_e, fTup_e, fLst_e, fCall_e, dTup_e, dLst_e, gAdd_i, gSub_i, gNeg_i, gEq_i, gNe_i, gLt_i, gLe_i, gGt_i, gGe_i, gIsN_e, gNotN_e, isN_n, isN_i, isN_t, isN_l, isN_b, gIsi_e, tyD_n, tyD_i, tyD_t, tyD_l, tyD_b, tyD_s, isaT_ii, isaT_bi, isaT_ib, isaT_bb, isaT_tt, isaT_ll, isaT_tb, isaT_ti, isaT_it, isaT_bt, isaT_lt, isaT_nt, isaT_st, gLen_l, gLen_t, gOne_l, gTuple_l, gTuple_t, gInt_b, gMin2_e, gMax2_e, fIt_e, items_l, items_t, fItA_e, gEnum_e, gZip_t, gNm0, gNmS, gNil_e, gCons_e, gTp_e, wipe0, wipeS, tYesD_e, sNil_e, sExpr_e, sRet_e, sRaise_e, sIf_e, sAsg_e, asF_e, sFor_e, endF_r, endF_n, endF_x, asO_s, fRg1_e, sFrz_e, gIx_t0, gIx_t1, gIx_t2, gIx_l0, gIx_l1, gIx_l2, Option.map_some, Option.bind_some, List.set_cons_succ, List.set_cons_zero, List.getElem?_cons_succ, List.getElem?_cons_zero, Bool.not_true, Bool.not_false, Bool.false_eq_true, ↓reduceIte, List.length_cons, List.length_nil, List.map_cons, List.map_nil, Nat.reduceAdd, Nat.reduceLeDiff, Nat.reduceLT, Bool.true_and, Bool.and_true, Bool.false_and, Bool.and_false, List.length_map, Nat.zero_le, e1, if_pos hc, oN, e2, this]
      simp
    · have e1 : decide ((0 : Int) ≤ ((cLeast b ss ks : Nat) : Int) - 1) = false := by simp; omega
      have := ne_oN none
      simp only [oN] at this
      simp only [bnd_ok, bnd_err, then_ok, then_err, fVar0, fVarS, fC_e, fOp_e, fUn_e, asB_e, asI_e, fT_e, fAnd_e, fOr_e, fNot_e, fAndV_e, fOrV_e, fNotV_e, fIf_e, fChain_e, aNil_e, aCons_e, fTup_e, fLst_e, fCall_e, dTup_e, dLst_e, gAdd_i, gSub_i, gNeg_i, gEq_i, gNe_i, gLt_i, gLe_i, gGt_i, gGe_i, gIsN_e, gNotN_e, isN_n, isN_i, isN_t, isN_l, isN_b, gIsi_e, tyD_n, tyD_i, tyD_t, tyD_l, tyD_b, tyD_s, isaT_ii, isaT_bi, isaT_ib, isaT_bb, isaT_tt, isaT_ll, isaT_tb, isaT_ti, isaT_it, isaT_bt, isaT_lt, isaT_nt, isaT_st, gLen_l, gLen_t, gOne_l, gTuple_l, gTuple_t, gInt_b, gMin2_e, gMax2_e, fIt_e, items_l, items_t, fItA_e, gEnum_e, gZip_t, gNm0, gNmS, gNil_e, gCons_e, gTp_e, wipe0, wipeS, tYesD_e, sNil_e, sExpr_e, sRet_e, sRaise_e, sIf_e, sAsg_e, asF_e, sFor_e, endF_r, endF_n, endF_x, asO_s, fRg1_e, sFrz_e, gIx_t0, gIx_t1, gIx_t2, gIx_l0, gIx_l1, gIx_l2, Option.map_some, Option.bind_some, List.set_cons_succ, List.set_cons_zero, List.getElem?_cons_succ, List.getElem?_cons_zero, Bool.not_true, Bool.not_false, Bool.false_eq_true, ↓reduceIte, List.length_cons, List.length_nil, List.map_cons, List.map_nil, Nat.reduceAdd, Nat.reduceLeDiff, Nat.reduceLT, Bool.true_and, Bool.and_true, Bool.false_and, Bool.and_false, List.length_map, Nat.zero_le, e1, if_neg hc, oN, this])]
  obtain ⟨ρ, h1, g0, g1, g2, g3, g4, g5⟩ := for_keep nD (gt := gNm 9) (body := l_law_0)
    (fun ρ => ρ.length = 19 ∧ ρ[0]? = some j0 ∧ ρ[2]? = some (.dat (.int more)) ∧ ρ[5]? = some (.dat (eB b)) ∧ ρ[6]? = some (.dat (eP ss ks)) ∧ ρ[7]? = some (.dat (.list (((List.range 9).map fun c => decide (c < cLeast b ss ks)).map PyData.bool)))) (List.range 9) (fun c hc ρ ⟨g0, g1, g2, g3, g4, g5⟩ => by
      obtain ⟨a0, a1, a2, a3, a4, a5, a6, a7, a8, a9, a10, a11, a12, a13, a14, a15, a16, a17, a18, rfl⟩ := len19 g0
      (obtain rfl := slot_e g1); (obtain rfl := slot_e g2); (obtain rfl := slot_e g3); (obtain rfl := slot_e g4); (obtain rfl := slot_e g5)
      exact (k21_0 hb hp c (List.mem_range.mp hc) _ _ _ _ _ _ _ _ _ _ _ _ _ _ _).one (by simp only [bnd_ok, bnd_err, then_ok, then_err, fVar0, fVarS, fC_e, fOp_e, fUn_e, asB_e, asI_e, fT_e, fAnd_e, fOr_e, fNot_e, fAndV_e, fOrV_e, fNotV_e, fIf_e, fChain_e, aNil_e, aCons_e, fTup_e, fLst_e, fCall_e, dTup_e, dLst_e, gAdd_i, gSub_i, gNeg_i, gEq_i, gNe_i, gLt_i, gLe_i, gGt_i, gGe_i, gIsN_e, gNotN_e, isN_n, isN_i, isN_t, isN_l, isN_b, gIsi_e, tyD_n, tyD_i, tyD_t, tyD_l, tyD_b, tyD_s, isaT_ii, isaT_bi, isaT_ib, isaT_bb, isaT_tt, isaT_ll, isaT_tb, isaT_ti, isaT_it, isaT_bt, isaT_lt, isaT_nt, isaT_st, gLen_l, gLen_t, gOne_l, gTuple_l, gTuple_t, gInt_b, gMin2_e, gMax2_e, fIt_e, items_l, items_t, fItA_e, gEnum_e, gZip_t, gNm0, gNmS, gNil_e, gCons_e, gTp_e, wipe0, wipeS, tYesD_e, sNil_e, sExpr_e, sRet_e, sRaise_e, sIf_e, sAsg_e, asF_e, sFor_e, endF_r, endF_n, endF_x, asO_s, fRg1_e, sFrz_e, gIx_t0, gIx_t1, gIx_t2, gIx_l0, gIx_l1, gIx_l2, Option.map_some, Option.bind_some, List.set_cons_succ, List.set_cons_zero, List.getElem?_cons_succ, List.getElem?_cons_zero, Bool.not_true, Bool.not_false, Bool.false_eq_true, ↓reduceIte, List.length_cons, List.length_nil, List.map_cons, List.map_nil, Nat.reduceAdd, Nat.reduceLeDiff, Nat.reduceLT, Bool.true_and, Bool.and_true, Bool.false_and, Bool.and_false, List.length_map, Nat.zero_le]; rfl)) (ρ := [j0, j1, .dat (.int more), .dat (nD j), .dat (.int (drawn more (10 + (j : Int)))), .dat (eB b), .dat (eP ss ks), .dat (.list (((List.range 9).map fun c => decide (c < cLeast b ss ks)).map PyData.bool)), .dat (.int ((cLeast b ss ks : Nat) - 1)), j9, j10, j11, j12, j13, j14, j15, j16, j17, j18]) ⟨rfl, rfl, rfl, rfl, rfl, rfl⟩
  rw [sSeq_n (h := by simp only [bnd_ok, bnd_err, then_ok, then_err, fVar0, fVarS, fC_e, fOp_e, fUn_e, asB_e, asI_e, fT_e, fAnd_e, fOr_e, fNot_e, fAndV_e, fOrV_e, fNotV_e, fIf_e, fChain_e, aNil_e, aCons_e, fTup_e, fLst_e, fCall_e, dTup_e, dLst_e, gAdd_i, gSub_i, gNeg_i, gEq_i, gNe_i, gLt_i, gLe_i, gGt_i, gGe_i, gIsN_e, gNotN_e, isN_n, isN_i, isN_t, isN_l, isN_b, gIsi_e, tyD_n, tyD_i, tyD_t, tyD_l, tyD_b, tyD_s, isaT_ii, isaT_bi, isaT_ib, isaT_bb, isaT_tt, isaT_ll, isaT_tb, isaT_ti, isaT_it, isaT_bt, isaT_lt, isaT_nt, isaT_st, gLen_l, gLen_t, gOne_l, gTuple_l, gTuple_t, gInt_b, gMin2_e, gMax2_e, fIt_e, items_l, items_t, fItA_e, gEnum_e, gZip_t, gNm0, gNmS, gNil_e, gCons_e, gTp_e, wipe0, wipeS, tYesD_e, sNil_e, sExpr_e, sRet_e, sRaise_e, sIf_e, sAsg_e, asF_e, sFor_e, endF_r, endF_n, endF_x, asO_s, fRg1_e, sFrz_e, gIx_t0, gIx_t1, gIx_t2, gIx_l0, gIx_l1, gIx_l2, Option.map_some, Option.bind_some, List.set_cons_succ, List.set_cons_zero, List.getElem?_cons_succ, List.getElem?_cons_zero, Bool.not_true, Bool.not_false, Bool.false_eq_true, ↓reduceIte, List.length_cons, List.length_nil, List.map_cons, List.map_nil, Nat.reduceAdd, Nat.reduceLeDiff, Nat.reduceLT, Bool.true_and, Bool.and_true, Bool.false_and, Bool.and_false, List.length_map, Nat.zero_le, r9]; exact h1)]
  obtain ⟨a0, a1, a2, a3, a4, a5, a6, a7, a8, a9, a10, a11, a12, a13, a14, a15, a16, a17, a18, rfl⟩ := len19 g0
  (obtain rfl := slot_e g1); (obtain rfl := slot_e g2); (obtain rfl := slot_e g3); (obtain rfl := slot_e g4); (obtain rfl := slot_e g5)
  refine nxt ?_ ⟨rfl, rfl, rfl, rfl, rfl⟩
  simp only [bnd_ok, bnd_err, then_ok, then_err, fVar0, fVarS, fC_e, fOp_e, fUn_e, asB_e, asI_e, fT_e, fAnd_e, fOr_e, fNot_e, fAndV_e, fOrV_e, fNotV_e, fIf_e, fChain_e, aNil_e, aCons_e, fTup_e, fLst_e, fCall_e, dTup_e, dLst_e, gAdd_i, gSub_i, gNeg_i, gEq_i, gNe_i, gLt_i, gLe_i, gGt_i, gGe_i, gIsN_e, gNotN_e, isN_n, isN_i, isN_t, isN_l, isN_b, gIsi_e, tyD_n, tyD_i, tyD_t, tyD_l, tyD_b, tyD_s, isaT_ii, isaT_bi, isaT_ib, isaT_bb, isaT_tt, isaT_ll, isaT_tb, isaT_ti, isaT_it, isaT_bt, isaT_lt, isaT_nt, isaT_st, gLen_l, gLen_t, gOne_l, gTuple_l, gTuple_t, gInt_b, gMin2_e, gMax2_e, fIt_e, items_l, items_t, fItA_e, gEnum_e, gZip_t, gNm0, gNmS, gNil_e, gCons_e, gTp_e, wipe0, wipeS, tYesD_e, sNil_e, sExpr_e, sRet_e, sRaise_e, sIf_e, sAsg_e, asF_e, sFor_e, endF_r, endF_n, endF_x, asO_s, fRg1_e, sFrz_e, gIx_t0, gIx_t1, gIx_t2, gIx_l0, gIx_l1, gIx_l2, Option.map_some, Option.bind_some, List.set_cons_succ, List.set_cons_zero, List.getElem?_cons_succ, List.getElem?_cons_zero, Bool.not_true, Bool.not_false, Bool.false_eq_true, ↓reduceIte, List.length_cons, List.length_nil, List.map_cons, List.map_nil, Nat.reduceAdd, Nat.reduceLeDiff, Nat.reduceLT, Bool.true_and, Bool.and_true, Bool.false_and, Bool.and_false, List.length_map, Nat.zero_le, law_no_sooner_e hb hp]
theorem law_true (ns : List Int) (hn : ns.length ≤ 63) : m_law [.list (ns.map PyData.int)] = .ok (.bool true) := by
  rw [q_law]
  unfold b_law
  refine law_outer (n := 16) (m := 3) (by decide) (by decide) (fun ρ sc k more hl h0 h1 h2 _ => ?_) ns hn
  have r3 : gRng1 [.int 3] = .ok ((List.range 3).map nD) := rng_e 3 (by decide)
  obtain ⟨ρ', g1, g2, g3, g4, g5⟩ := for_inv nD (gt := gNm 3) (body := l_law_1)
    (fun pre ρ => ρ.length = 19 ∧ ρ[0]? = some (.dat sc) ∧ ρ[2]? = some (.dat (.int more)) ∧ (pre ≠ [] → ∃ b ss ks, b.Ok ∧ PlanOk b ss ks ∧ ρ[5]? = some (.dat (eB b)) ∧ ρ[6]? = some (.dat (eP ss ks)))) (List.range 3) (fun pre j post ρ e ⟨hl, h0, h2, _⟩ => by
      obtain ⟨j0, j1, j2, j3, j4, j5, j6, j7, j8, j9, j10, j11, j12, j13, j14, j15, j16, j17, j18, rfl⟩ := len19 hl
      (obtain rfl := slot_e h0); (obtain rfl := slot_e h2)
      obtain ⟨b, ss, ks, hb, hp, ρ', e, g1, g2, g3, g4, g5⟩ := k21_1 (.dat sc) j1 j4 j5 j6 j7 j8 j9 j10 j11 j12 j13 j14 j15 j16 j17 j18 more j
      exact ⟨ρ', forOne_n (by simp only [bnd_ok, bnd_err, then_ok, then_err, fVar0, fVarS, fC_e, fOp_e, fUn_e, asB_e, asI_e, fT_e, fAnd_e, fOr_e, fNot_e, fAndV_e, fOrV_e, fNotV_e, fIf_e, fChain_e, aNil_e, aCons_e, fTup_e, fLst_e, fCall_e, dTup_e, dLst_e, gAdd_i, gSub_i, gNeg_i, gEq_i, gNe_i, gLt_i, gLe_i, gGt_i, gGe_i, gIsN_e, gNotN_e, isN_n, isN_i, isN_t, isN_l, isN_b, gIsi_e, tyD_n, tyD_i, tyD_t, tyD_l, tyD_b, tyD_s, isaT_ii, isaT_bi, isaT_ib, isaT_bb, isaT_tt, isaT_ll, isaT_tb, isaT_ti, isaT_it, isaT_bt, isaT_lt, isaT_nt, isaT_st, gLen_l, gLen_t, gOne_l, gTuple_l, gTuple_t, gInt_b, gMin2_e, gMax2_e, fIt_e, items_l, items_t, fItA_e, gEnum_e, gZip_t, gNm0, gNmS, gNil_e, gCons_e, gTp_e, wipe0, wipeS, tYesD_e, sNil_e, sExpr_e, sRet_e, sRaise_e, sIf_e, sAsg_e, asF_e, sFor_e, endF_r, endF_n, endF_x, asO_s, fRg1_e, sFrz_e, gIx_t0, gIx_t1, gIx_t2, gIx_l0, gIx_l1, gIx_l2, Option.map_some, Option.bind_some, List.set_cons_succ, List.set_cons_zero, List.getElem?_cons_succ, List.getElem?_cons_zero, Bool.not_true, Bool.not_false, Bool.false_eq_true, ↓reduceIte, List.length_cons, List.length_nil, List.map_cons, List.map_nil, Nat.reduceAdd, Nat.reduceLeDiff, Nat.reduceLT, Bool.true_and, Bool.and_true, Bool.false_and, Bool.and_false, List.length_map, Nat.zero_le]) e, g1, g2, g3, fun _ => ⟨b, ss, ks, hb, hp, g4, g5⟩⟩) (ρ := ρ) ⟨hl, h0, h2, fun z => absurd rfl z⟩
  obtain ⟨b, ss, ks, hb, hp, g6, g7⟩ := g5 (by decide)
  rw [sSeq_n (h := by simp only [bnd_ok, bnd_err, then_ok, then_err, fVar0, fVarS, fC_e, fOp_e, fUn_e, asB_e, asI_e, fT_e, fAnd_e, fOr_e, fNot_e, fAndV_e, fOrV_e, fNotV_e, fIf_e, fChain_e, aNil_e, aCons_e, fTup_e, fLst_e, fCall_e, dTup_e, dLst_e, gAdd_i, gSub_i, gNeg_i, gEq_i, gNe_i, gLt_i, gLe_i, gGt_i, gGe_i, gIsN_e, gNotN_e, isN_n, isN_i, isN_t, isN_l, isN_b, gIsi_e, tyD_n, tyD_i, tyD_t, tyD_l, tyD_b, tyD_s, isaT_ii, isaT_bi, isaT_ib, isaT_bb, isaT_tt, isaT_ll, isaT_tb, isaT_ti, isaT_it, isaT_bt, isaT_lt, isaT_nt, isaT_st, gLen_l, gLen_t, gOne_l, gTuple_l, gTuple_t, gInt_b, gMin2_e, gMax2_e, fIt_e, items_l, items_t, fItA_e, gEnum_e, gZip_t, gNm0, gNmS, gNil_e, gCons_e, gTp_e, wipe0, wipeS, tYesD_e, sNil_e, sExpr_e, sRet_e, sRaise_e, sIf_e, sAsg_e, asF_e, sFor_e, endF_r, endF_n, endF_x, asO_s, fRg1_e, sFrz_e, gIx_t0, gIx_t1, gIx_t2, gIx_l0, gIx_l1, gIx_l2, Option.map_some, Option.bind_some, List.set_cons_succ, List.set_cons_zero, List.getElem?_cons_succ, List.getElem?_cons_zero, Bool.not_true, Bool.not_false, Bool.false_eq_true, ↓reduceIte, List.length_cons, List.length_nil, List.map_cons, List.map_nil, Nat.reduceAdd, Nat.reduceLeDiff, Nat.reduceLT, Bool.true_and, Bool.and_true, Bool.false_and, Bool.and_false, List.length_map, Nat.zero_le, r3]; exact g1)]
  let bads : List D := [.int (-1), .int 9, .none, .bool true, .str "1"]
  obtain ⟨ρ'', h1, e2, e3, e4, e5⟩ := for_keep id (gt := gNm 15) (body := l_law_2) (fun ρ => ρ.length = 19 ∧ ρ[0]? = some (.dat sc) ∧ ρ[5]? = some (.dat (eB b)) ∧ ρ[6]? = some (.dat (eP ss ks))) bads (fun d hd ρ ⟨e2, e3, e4, e5⟩ => by
      obtain ⟨j0, j1, j2, j3, j4, j5, j6, j7, j8, j9, j10, j11, j12, j13, j14, j15, j16, j17, j18, rfl⟩ := len19 e2
      (obtain rfl := slot_e e3); (obtain rfl := slot_e e4); (obtain rfl := slot_e e5)
      have hc : cCnt d 0 8 = false := by
        simp only [bads, List.mem_cons, List.mem_nil_iff, or_false] at hd
        rcases hd with rfl | rfl | rfl | rfl | rfl <;> rfl
      refine Turn.one (ρ1 := [.dat sc, j1, j2, j3, j4, .dat (eB b), .dat (eP ss ks), j7, j8, j9, j10, j11, j12, j13, j14, .dat d, j16, j17, j18]) ?_ (by simp only [bnd_ok, bnd_err, then_ok, then_err, fVar0, fVarS, fC_e, fOp_e, fUn_e, asB_e, asI_e, fT_e, fAnd_e, fOr_e, fNot_e, fAndV_e, fOrV_e, fNotV_e, fIf_e, fChain_e, aNil_e, aCons_e, fTup_e, fLst_e, fCall_e, dTup_e, dLst_e, gAdd_i, gSub_i, gNeg_i, gEq_i, gNe_i, gLt_i, gLe_i, gGt_i, gGe_i, gIsN_e, gNotN_e, isN_n, isN_i, isN_t, isN_l, isN_b, gIsi_e, tyD_n, tyD_i, tyD_t, tyD_l, tyD_b, tyD_s, isaT_ii, isaT_bi, isaT_ib, isaT_bb, isaT_tt, isaT_ll, isaT_tb, isaT_ti, isaT_it, isaT_bt, isaT_lt, isaT_nt, isaT_st, gLen_l, gLen_t, gOne_l, gTuple_l, gTuple_t, gInt_b, gMin2_e, gMax2_e, fIt_e, items_l, items_t, fItA_e, gEnum_e, gZip_t, gNm0, gNmS, gNil_e, gCons_e, gTp_e, wipe0, wipeS, tYesD_e, sNil_e, sExpr_e, sRet_e, sRaise_e, sIf_e, sAsg_e, asF_e, sFor_e, endF_r, endF_n, endF_x, asO_s, fRg1_e, sFrz_e, gIx_t0, gIx_t1, gIx_t2, gIx_l0, gIx_l1, gIx_l2, Option.map_some, Option.bind_some, List.set_cons_succ, List.set_cons_zero, List.getElem?_cons_succ, List.getElem?_cons_zero, Bool.not_true, Bool.not_false, Bool.false_eq_true, ↓reduceIte, List.length_cons, List.length_nil, List.map_cons, List.map_nil, Nat.reduceAdd, Nat.reduceLeDiff, Nat.reduceLT, Bool.true_and, Bool.and_true, Bool.false_and, Bool.and_false, List.length_map, Nat.zero_le, id_eq])
      refine Turn.same ?_ ⟨rfl, rfl, rfl, rfl⟩
      unfold l_law_2
      have et : fTold ws (fCall m_lets (aCons (fVar 5) (aCons (fVar 6) (aCons (fVar 15) aNil)))) [.dat sc, j1, j2, j3, j4, .dat (eB b), .dat (eP ss ks), j7, j8, j9, j10, j11, j12, j13, j14, .dat d, j16, j17, j18] = .ok (.str "BadNumber") := told_err (by simp only [bnd_ok, bnd_err, then_ok, then_err, fVar0, fVarS, fC_e, fOp_e, fUn_e, asB_e, asI_e, fT_e, fAnd_e, fOr_e, fNot_e, fAndV_e, fOrV_e, fNotV_e, fIf_e, fChain_e, aNil_e, aCons_e, fTup_e, fLst_e, fCall_e, dTup_e, dLst_e, gAdd_i, gSub_i, gNeg_i, gEq_i, gNe_i, gLt_i, gLe_i, gGt_i, gGe_i, gIsN_e, gNotN_e, isN_n, isN_i, isN_t, isN_l, isN_b, gIsi_e, tyD_n, tyD_i, tyD_t, tyD_l, tyD_b, tyD_s, isaT_ii, isaT_bi, isaT_ib, isaT_bb, isaT_tt, isaT_ll, isaT_tb, isaT_ti, isaT_it, isaT_bt, isaT_lt, isaT_nt, isaT_st, gLen_l, gLen_t, gOne_l, gTuple_l, gTuple_t, gInt_b, gMin2_e, gMax2_e, fIt_e, items_l, items_t, fItA_e, gEnum_e, gZip_t, gNm0, gNmS, gNil_e, gCons_e, gTp_e, wipe0, wipeS, tYesD_e, sNil_e, sExpr_e, sRet_e, sRaise_e, sIf_e, sAsg_e, asF_e, sFor_e, endF_r, endF_n, endF_x, asO_s, fRg1_e, sFrz_e, gIx_t0, gIx_t1, gIx_t2, gIx_l0, gIx_l1, gIx_l2, Option.map_some, Option.bind_some, List.set_cons_succ, List.set_cons_zero, List.getElem?_cons_succ, List.getElem?_cons_zero, Bool.not_true, Bool.not_false, Bool.false_eq_true, ↓reduceIte, List.length_cons, List.length_nil, List.map_cons, List.map_nil, Nat.reduceAdd, Nat.reduceLeDiff, Nat.reduceLT, Bool.true_and, Bool.and_true, Bool.false_and, Bool.and_false, List.length_map, Nat.zero_le, lets_count hb hp d hc]) ws_number
      simp only [bnd_ok, bnd_err, then_ok, then_err, fVar0, fVarS, fC_e, fOp_e, fUn_e, asB_e, asI_e, fT_e, fAnd_e, fOr_e, fNot_e, fAndV_e, fOrV_e, fNotV_e, fIf_e, fChain_e, aNil_e, aCons_e, fTup_e, fLst_e, fCall_e, dTup_e, dLst_e, gAdd_i, gSub_i, gNeg_i, gEq_i, gNe_i, gLt_i, gLe_i, gGt_i, gGe_i, gIsN_e, gNotN_e, isN_n, isN_i, isN_t, isN_l, isN_b, gIsi_e, tyD_n, tyD_i, tyD_t, tyD_l, tyD_b, tyD_s, isaT_ii, isaT_bi, isaT_ib, isaT_bb, isaT_tt, isaT_ll, isaT_tb, isaT_ti, isaT_it, isaT_bt, isaT_lt, isaT_nt, isaT_st, gLen_l, gLen_t, gOne_l, gTuple_l, gTuple_t, gInt_b, gMin2_e, gMax2_e, fIt_e, items_l, items_t, fItA_e, gEnum_e, gZip_t, gNm0, gNmS, gNil_e, gCons_e, gTp_e, wipe0, wipeS, tYesD_e, sNil_e, sExpr_e, sRet_e, sRaise_e, sIf_e, sAsg_e, asF_e, sFor_e, endF_r, endF_n, endF_x, asO_s, fRg1_e, sFrz_e, gIx_t0, gIx_t1, gIx_t2, gIx_l0, gIx_l1, gIx_l2, Option.map_some, Option.bind_some, List.set_cons_succ, List.set_cons_zero, List.getElem?_cons_succ, List.getElem?_cons_zero, Bool.not_true, Bool.not_false, Bool.false_eq_true, ↓reduceIte, List.length_cons, List.length_nil, List.map_cons, List.map_nil, Nat.reduceAdd, Nat.reduceLeDiff, Nat.reduceLT, Bool.true_and, Bool.and_true, Bool.false_and, Bool.and_false, List.length_map, Nat.zero_le, et, ne_str _ ok_number]) (ρ := ρ') ⟨g2, g3, g6, g7⟩
  rw [List.map_id] at h1
  rw [sSeq_n (h := by simp only [bnd_ok, bnd_err, then_ok, then_err, fVar0, fVarS, fC_e, fOp_e, fUn_e, asB_e, asI_e, fT_e, fAnd_e, fOr_e, fNot_e, fAndV_e, fOrV_e, fNotV_e, fIf_e, fChain_e, aNil_e, aCons_e, fTup_e, fLst_e, fCall_e, dTup_e, dLst_e, gAdd_i, gSub_i, gNeg_i, gEq_i, gNe_i, gLt_i, gLe_i, gGt_i, gGe_i, gIsN_e, gNotN_e, isN_n, isN_i, isN_t, isN_l, isN_b, gIsi_e, tyD_n, tyD_i, tyD_t, tyD_l, tyD_b, tyD_s, isaT_ii, isaT_bi, isaT_ib, isaT_bb, isaT_tt, isaT_ll, isaT_tb, isaT_ti, isaT_it, isaT_bt, isaT_lt, isaT_nt, isaT_st, gLen_l, gLen_t, gOne_l, gTuple_l, gTuple_t, gInt_b, gMin2_e, gMax2_e, fIt_e, items_l, items_t, fItA_e, gEnum_e, gZip_t, gNm0, gNmS, gNil_e, gCons_e, gTp_e, wipe0, wipeS, tYesD_e, sNil_e, sExpr_e, sRet_e, sRaise_e, sIf_e, sAsg_e, asF_e, sFor_e, endF_r, endF_n, endF_x, asO_s, fRg1_e, sFrz_e, gIx_t0, gIx_t1, gIx_t2, gIx_l0, gIx_l1, gIx_l2, Option.map_some, Option.bind_some, List.set_cons_succ, List.set_cons_zero, List.getElem?_cons_succ, List.getElem?_cons_zero, Bool.not_true, Bool.not_false, Bool.false_eq_true, ↓reduceIte, List.length_cons, List.length_nil, List.map_cons, List.map_nil, Nat.reduceAdd, Nat.reduceLeDiff, Nat.reduceLT, Bool.true_and, Bool.and_true, Bool.false_and, Bool.and_false, List.length_map, Nat.zero_le]; exact h1)]
  obtain ⟨j0, j1, j2, j3, j4, j5, j6, j7, j8, j9, j10, j11, j12, j13, j14, j15, j16, j17, j18, rfl⟩ := len19 e2
  (obtain rfl := slot_e e3); (obtain rfl := slot_e e4); (obtain rfl := slot_e e5)
  have t1 : ∀ x, fTold ws (fCall m_lets (aCons (fVar 5) (aCons (fC .none) (aCons (fUn gNeg (fC (.int 1))) aNil)))) [.dat sc, j1, j2, j3, j4, .dat (eB b), .dat (eP ss ks), j7, j8, j9, j10, j11, j12, j13, j14, j15, x, j17, j18] = .ok (.str "BadPlan") := fun x => told_err (by simp only [bnd_ok, bnd_err, then_ok, then_err, fVar0, fVarS, fC_e, fOp_e, fUn_e, asB_e, asI_e, fT_e, fAnd_e, fOr_e, fNot_e, fAndV_e, fOrV_e, fNotV_e, fIf_e, fChain_e, aNil_e, aCons_e, fTup_e, fLst_e, fCall_e, dTup_e, dLst_e, gAdd_i, gSub_i, gNeg_i, gEq_i, gNe_i, gLt_i, gLe_i, gGt_i, gGe_i, gIsN_e, gNotN_e, isN_n, isN_i, isN_t, isN_l, isN_b, gIsi_e, tyD_n, tyD_i, tyD_t, tyD_l, tyD_b, tyD_s, isaT_ii, isaT_bi, isaT_ib, isaT_bb, isaT_tt, isaT_ll, isaT_tb, isaT_ti, isaT_it, isaT_bt, isaT_lt, isaT_nt, isaT_st, gLen_l, gLen_t, gOne_l, gTuple_l, gTuple_t, gInt_b, gMin2_e, gMax2_e, fIt_e, items_l, items_t, fItA_e, gEnum_e, gZip_t, gNm0, gNmS, gNil_e, gCons_e, gTp_e, wipe0, wipeS, tYesD_e, sNil_e, sExpr_e, sRet_e, sRaise_e, sIf_e, sAsg_e, asF_e, sFor_e, endF_r, endF_n, endF_x, asO_s, fRg1_e, sFrz_e, gIx_t0, gIx_t1, gIx_t2, gIx_l0, gIx_l1, gIx_l2, Option.map_some, Option.bind_some, List.set_cons_succ, List.set_cons_zero, List.getElem?_cons_succ, List.getElem?_cons_zero, Bool.not_true, Bool.not_false, Bool.false_eq_true, ↓reduceIte, List.length_cons, List.length_nil, List.map_cons, List.map_nil, Nat.reduceAdd, Nat.reduceLeDiff, Nat.reduceLT, Bool.true_and, Bool.and_true, Bool.false_and, Bool.and_false, List.length_map, Nat.zero_le, lets_plan hb .none (.int (-1)) trivial rfl]) ws_plan
  have t2 : ∀ x, fTold ws (fCall m_borne (aCons (fVar 5) (aCons (fC .none) aNil))) [.dat sc, j1, j2, j3, j4, .dat (eB b), .dat (eP ss ks), j7, j8, j9, j10, j11, j12, j13, j14, j15, x, j17, j18] = .ok (.str "BadPlan") := fun x => told_err (by simp only [bnd_ok, bnd_err, then_ok, then_err, fVar0, fVarS, fC_e, fOp_e, fUn_e, asB_e, asI_e, fT_e, fAnd_e, fOr_e, fNot_e, fAndV_e, fOrV_e, fNotV_e, fIf_e, fChain_e, aNil_e, aCons_e, fTup_e, fLst_e, fCall_e, dTup_e, dLst_e, gAdd_i, gSub_i, gNeg_i, gEq_i, gNe_i, gLt_i, gLe_i, gGt_i, gGe_i, gIsN_e, gNotN_e, isN_n, isN_i, isN_t, isN_l, isN_b, gIsi_e, tyD_n, tyD_i, tyD_t, tyD_l, tyD_b, tyD_s, isaT_ii, isaT_bi, isaT_ib, isaT_bb, isaT_tt, isaT_ll, isaT_tb, isaT_ti, isaT_it, isaT_bt, isaT_lt, isaT_nt, isaT_st, gLen_l, gLen_t, gOne_l, gTuple_l, gTuple_t, gInt_b, gMin2_e, gMax2_e, fIt_e, items_l, items_t, fItA_e, gEnum_e, gZip_t, gNm0, gNmS, gNil_e, gCons_e, gTp_e, wipe0, wipeS, tYesD_e, sNil_e, sExpr_e, sRet_e, sRaise_e, sIf_e, sAsg_e, asF_e, sFor_e, endF_r, endF_n, endF_x, asO_s, fRg1_e, sFrz_e, gIx_t0, gIx_t1, gIx_t2, gIx_l0, gIx_l1, gIx_l2, Option.map_some, Option.bind_some, List.set_cons_succ, List.set_cons_zero, List.getElem?_cons_succ, List.getElem?_cons_zero, Bool.not_true, Bool.not_false, Bool.false_eq_true, ↓reduceIte, List.length_cons, List.length_nil, List.map_cons, List.map_nil, Nat.reduceAdd, Nat.reduceLeDiff, Nat.reduceLT, Bool.true_and, Bool.and_true, Bool.false_and, Bool.and_false, List.length_map, Nat.zero_le, borne_plan hb .none trivial rfl]) ws_plan
  rw [sSeq_n (h := sOwn_l 16 _ _ [.str "BadPlan"] (by simp only [bnd_ok, bnd_err, then_ok, then_err, fVar0, fVarS, fC_e, fOp_e, fUn_e, asB_e, asI_e, fT_e, fAnd_e, fOr_e, fNot_e, fAndV_e, fOrV_e, fNotV_e, fIf_e, fChain_e, aNil_e, aCons_e, fTup_e, fLst_e, fCall_e, dTup_e, dLst_e, gAdd_i, gSub_i, gNeg_i, gEq_i, gNe_i, gLt_i, gLe_i, gGt_i, gGe_i, gIsN_e, gNotN_e, isN_n, isN_i, isN_t, isN_l, isN_b, gIsi_e, tyD_n, tyD_i, tyD_t, tyD_l, tyD_b, tyD_s, isaT_ii, isaT_bi, isaT_ib, isaT_bb, isaT_tt, isaT_ll, isaT_tb, isaT_ti, isaT_it, isaT_bt, isaT_lt, isaT_nt, isaT_st, gLen_l, gLen_t, gOne_l, gTuple_l, gTuple_t, gInt_b, gMin2_e, gMax2_e, fIt_e, items_l, items_t, fItA_e, gEnum_e, gZip_t, gNm0, gNmS, gNil_e, gCons_e, gTp_e, wipe0, wipeS, tYesD_e, sNil_e, sExpr_e, sRet_e, sRaise_e, sIf_e, sAsg_e, asF_e, sFor_e, endF_r, endF_n, endF_x, asO_s, fRg1_e, sFrz_e, gIx_t0, gIx_t1, gIx_t2, gIx_l0, gIx_l1, gIx_l2, Option.map_some, Option.bind_some, List.set_cons_succ, List.set_cons_zero, List.getElem?_cons_succ, List.getElem?_cons_zero, Bool.not_true, Bool.not_false, Bool.false_eq_true, ↓reduceIte, List.length_cons, List.length_nil, List.map_cons, List.map_nil, Nat.reduceAdd, Nat.reduceLeDiff, Nat.reduceLT, Bool.true_and, Bool.and_true, Bool.false_and, Bool.and_false, List.length_map, Nat.zero_le, t1]) (by simp) (by simp))]
  simp only [List.set_cons_succ, List.set_cons_zero]
  rw [sSeq_n (h := sApp_e 16 _ _ [.str "BadPlan"] (.str "BadPlan") rfl (t2 (.own [.str "BadPlan"])) (by simp))]
  simp only [List.set_cons_succ, List.set_cons_zero, List.cons_append, List.nil_append]
  rw [sFrz_e, frz_e (ds := List.replicate 2 (.str "BadPlan")) (h := rfl)]
  have em := mul_strs 2 "BadPlan" (by decide)
  have em : gMul (.list [.str "BadPlan"]) (.int 2) = .ok (.list (List.replicate 2 (.str "BadPlan"))) := em
  refine nxt ?_ ⟨rfl, rfl⟩
  simp only [bnd_ok, bnd_err, then_ok, then_err, fVar0, fVarS, fC_e, fOp_e, fUn_e, asB_e, asI_e, fT_e, fAnd_e, fOr_e, fNot_e, fAndV_e, fOrV_e, fNotV_e, fIf_e, fChain_e, aNil_e, aCons_e, fTup_e, fLst_e, fCall_e, dTup_e, dLst_e, gAdd_i, gSub_i, gNeg_i, gEq_i, gNe_i, gLt_i, gLe_i, gGt_i, gGe_i, gIsN_e, gNotN_e, isN_n, isN_i, isN_t, isN_l, isN_b, gIsi_e, tyD_n, tyD_i, tyD_t, tyD_l, tyD_b, tyD_s, isaT_ii, isaT_bi, isaT_ib, isaT_bb, isaT_tt, isaT_ll, isaT_tb, isaT_ti, isaT_it, isaT_bt, isaT_lt, isaT_nt, isaT_st, gLen_l, gLen_t, gOne_l, gTuple_l, gTuple_t, gInt_b, gMin2_e, gMax2_e, fIt_e, items_l, items_t, fItA_e, gEnum_e, gZip_t, gNm0, gNmS, gNil_e, gCons_e, gTp_e, wipe0, wipeS, tYesD_e, sNil_e, sExpr_e, sRet_e, sRaise_e, sIf_e, sAsg_e, asF_e, sFor_e, endF_r, endF_n, endF_x, asO_s, fRg1_e, sFrz_e, gIx_t0, gIx_t1, gIx_t2, gIx_l0, gIx_l1, gIx_l2, Option.map_some, Option.bind_some, List.set_cons_succ, List.set_cons_zero, List.getElem?_cons_succ, List.getElem?_cons_zero, Bool.not_true, Bool.not_false, Bool.false_eq_true, ↓reduceIte, List.length_cons, List.length_nil, List.map_cons, List.map_nil, Nat.reduceAdd, Nat.reduceLeDiff, Nat.reduceLT, Bool.true_and, Bool.and_true, Bool.false_and, Bool.and_false, List.length_map, Nat.zero_le, em, ne_strs 2 _ ok_plan]
end Bl
namespace Bl
open PySem L2 Dl
open LamX (ExtN Tabs)
def topS (i : Nat) : Stmt := PySem.Challenge.pw_beltlooks_k21_whole_slips.main.body.getD i (.Pass ⟨0, 0, 0, 0⟩)
structure Fx (K : PySem.W.Frag) (mg : Str → Option Value) : Prop where
  b_ValueError : mg "ValueError" = none
  b_all : mg "all" = none
  b_any : mg "any" = none
  b_bool : mg "bool" = none
  b_int : mg "int" = none
  b_isinstance : mg "isinstance" = none
  b_len : mg "len" = none
  b_list : mg "list" = none
  b_max : mg "max" = none
  b_min : mg "min" = none
  b_range : mg "range" = none
  b_sorted : mg "sorted" = none
  b_sum : mg "sum" = none
  b_tuple : mg "tuple" = none
  b_zip : mg "zip" = none
  c_MOST_COST : ∃ t, mg "MOST_COST" = some (.int 20 t)
  c_MOST_FAULTS : ∃ t, mg "MOST_FAULTS" = some (.int 6 t)
  c_MOST_KICKERS : ∃ t, mg "MOST_KICKERS" = some (.int 3 t)
  c_MOST_PLACE : ∃ t, mg "MOST_PLACE" = some (.int 99 t)
  c_MOST_SLIPS : ∃ t, mg "MOST_SLIPS" = some (.int 8 t)
  c_MOST_SPOTS : ∃ t, mg "MOST_SPOTS" = some (.int 8 t)
  x_BadBelt : Exn K mg "BadBelt"
  x_BadBottle : Exn K mg "BadBottle"
  x_BadNumber : Exn K mg "BadNumber"
  x_BadPlan : Exn K mg "BadPlan"
section
variable {P : Program} {w : World} {K : PySem.W.Frag} {mg : Str → Option Value} {base : Heap} {T : List (Addr × Str)}
abbrev s_is_count : Stmt := topS 15
theorem sc_is_count : FnScope ["thing", "low", "high"] ["thing", "low", "high"] (defScope s_is_count) := ⟨rfl, rfl, rfl, by decide +kernel, rfl, by decide +kernel, by decide +kernel⟩
theorem ok_is_count {f : Addr} {fd : FuncData} (F : Fun K "is_count" "is_count" s_is_count f fd) (hm : mg "is_count" = some (.ref f)) (hb : Binds K fd ["thing", "low", "high"] []) (Z : Fx K mg) : Fn P w K mg base T "is_count" 1 m_is_count := by
  refine fn_mk (g := b_is_count) F sc_is_count hm hb fun cdv A outer s H E hr => ?_
  have hu := hr.units
  exact (ss_one (s_ret (e_and (e_isi k_int (e_var 0) (by rfl) Z.b_isinstance (by rfl) Z.b_int (by decide +kernel)) (e_and (e_not (e_isi k_bool (e_var 0) (by rfl) Z.b_isinstance (by rfl) Z.b_bool (by decide +kernel))) (e_one (e_chain (c_le hu) (c_le hu) (e_var 1) (e_var 0) (e_var 2)))))))
abbrev s_is_rising : Stmt := topS 16
theorem sc_is_rising : FnScope ["thing", "many", "one", "other"] ["thing", "many"] (defScope s_is_rising) := ⟨rfl, rfl, rfl, by decide +kernel, rfl, by decide +kernel, by decide +kernel⟩
theorem ok_is_rising {f : Addr} {fd : FuncData} (F : Fun K "is_rising" "is_rising" s_is_rising f fd) (hm : mg "is_rising" = some (.ref f)) (hb : Binds K fd ["thing", "many"] []) (Z : Fx K mg) (d_is_count : Fn P w K mg base T "is_count" 1 m_is_count) : Fn P w K mg base T "is_rising" 2 m_is_rising := by
  refine fn_mk (g := b_is_rising) F sc_is_rising hm hb fun cdv A outer s H E hr => ?_
  have hu := hr.units
  exact (ss_cons (s_if (t_pt (w_or (t_not (t_val (e_isi k_tuple (e_var 0) (by rfl) Z.b_isinstance (by rfl) Z.b_tuple (by decide +kernel)))) (w_or1 (t_not (t_val (e_callB (f_all (by rfl)) (by rfl) Z.b_all (by decide +kernel) (a_cons (e_lc (own := [("one", 2)]) (by rfl) sc_is_rising.nd (i_seq (e_var 0)) (blkOk_by (own := [("one", 2)]) (N := ["thing", "many", "one", "other"]) (sc := defScope s_is_rising) (by decide +kernel)) (fun _ _ _ _ _ => (g_name 2 sc_is_rising.nd)) (fun _ _ _ _ _ => ts_nil) (fun _ _ _ _ _ => (e_call d_is_count (hr.mono (by decide)) passN (by rfl) (a_cons (e_var 2) (a_cons e_int (a_cons (e_op b_sub (e_var 1) e_int) a_nil))))) (by decide)) a_nil))))))) (ss_one (s_ret e_bl)) ss_nil)
      (ss_one (s_ret (e_callB (f_all (by rfl)) (by rfl) Z.b_all (by decide +kernel) (a_cons (e_lc (own := [("one", 2), ("other", 3)]) (by rfl) sc_is_rising.nd (i_zip (by rfl) Z.b_zip (a_cons (e_sl (e_var 0) o_none (o_some (e_neg e_int))) (a_cons (e_sl (e_var 0) (o_some e_int) o_none) a_nil))) (blkOk_by (own := [("one", 2), ("other", 3)]) (N := ["thing", "many", "one", "other"]) (sc := defScope s_is_rising) (by decide +kernel)) (fun _ _ _ _ _ => (g_tup (by rfl) (gs_cons (g_name 2 sc_is_rising.nd) (gs_cons (g_name 3 sc_is_rising.nd) gs_nil)))) (fun _ _ _ _ _ => ts_nil) (fun _ _ _ _ _ => (e_cmp (c_lt hu) (e_var 2) (e_var 3))) (by decide)) a_nil)))))
abbrev s_is_spot : Stmt := topS 17
theorem sc_is_spot : FnScope ["thing", "faults"] ["thing", "faults"] (defScope s_is_spot) := ⟨rfl, rfl, rfl, by decide +kernel, rfl, by decide +kernel, by decide +kernel⟩
theorem ok_is_spot {f : Addr} {fd : FuncData} (F : Fun K "is_spot" "is_spot" s_is_spot f fd) (hm : mg "is_spot" = some (.ref f)) (hb : Binds K fd ["thing", "faults"] []) (Z : Fx K mg) (d_is_count : Fn P w K mg base T "is_count" 1 m_is_count) (d_is_rising : Fn P w K mg base T "is_rising" 2 m_is_rising) : Fn P w K mg base T "is_spot" 3 m_is_spot := by
  refine fn_mk (g := b_is_spot) F sc_is_spot hm hb fun cdv A outer s H E hr => ?_
  have hu := hr.units
  exact (ss_cons (s_if (t_pt (w_or (t_not (t_val (e_isi k_tuple (e_var 0) (by rfl) Z.b_isinstance (by rfl) Z.b_tuple (by decide +kernel)))) (w_or (t_cmp (c_ne hu) (e_callB f_len (by rfl) Z.b_len (by decide +kernel) (a_cons (e_var 0) a_nil)) e_int) (w_or1 (t_not (t_val (e_call d_is_count (hr.mono (by decide)) passB (by rfl) (a_cons (e_ix (e_var 0) e_int) (a_cons e_int (a_cons (e_globE (by rfl) Z.c_MOST_PLACE) a_nil)))))))))) (ss_one (s_ret e_bl)) ss_nil)
      (ss_one (s_ret (e_and (e_call d_is_count (hr.mono (by decide)) passB (by rfl) (a_cons (e_ix (e_var 0) e_int) (a_cons e_int (a_cons (e_globE (by rfl) Z.c_MOST_COST) a_nil)))) (e_one (e_call d_is_rising (hr.mono (by decide)) passB (by rfl) (a_cons (e_ix (e_var 0) e_int) (a_cons (e_var 1) a_nil))))))))
abbrev s_is_kicker : Stmt := topS 18
theorem sc_is_kicker : FnScope ["thing"] ["thing"] (defScope s_is_kicker) := ⟨rfl, rfl, rfl, by decide +kernel, rfl, by decide +kernel, by decide +kernel⟩
theorem ok_is_kicker {f : Addr} {fd : FuncData} (F : Fun K "is_kicker" "is_kicker" s_is_kicker f fd) (hm : mg "is_kicker" = some (.ref f)) (hb : Binds K fd ["thing"] []) (Z : Fx K mg) (d_is_count : Fn P w K mg base T "is_count" 1 m_is_count) : Fn P w K mg base T "is_kicker" 2 m_is_kicker := by
  refine fn_mk (g := b_is_kicker) F sc_is_kicker hm hb fun cdv A outer s H E hr => ?_
  have hu := hr.units
  exact (ss_cons (s_if (t_pt (w_or (t_not (t_val (e_isi k_tuple (e_var 0) (by rfl) Z.b_isinstance (by rfl) Z.b_tuple (by decide +kernel)))) (w_or1 (t_cmp (c_ne hu) (e_callB f_len (by rfl) Z.b_len (by decide +kernel) (a_cons (e_var 0) a_nil)) e_int)))) (ss_one (s_ret e_bl)) ss_nil)
      (ss_one (s_ret (e_and (e_call d_is_count (hr.mono (by decide)) passB (by rfl) (a_cons (e_ix (e_var 0) e_int) (a_cons e_int (a_cons (e_globE (by rfl) Z.c_MOST_PLACE) a_nil)))) (e_one (e_call d_is_count (hr.mono (by decide)) passB (by rfl) (a_cons (e_ix (e_var 0) e_int) (a_cons e_int (a_cons (e_globE (by rfl) Z.c_MOST_COST) a_nil)))))))))
abbrev s_is_belt : Stmt := topS 19
theorem sc_is_belt : FnScope ["thing", "faults", "spots", "kickers", "part", "place", "spot", "one"] ["thing"] (defScope s_is_belt) := ⟨rfl, rfl, rfl, by decide +kernel, rfl, by decide +kernel, by decide +kernel⟩
theorem ok_is_belt {f : Addr} {fd : FuncData} (F : Fun K "is_belt" "is_belt" s_is_belt f fd) (hm : mg "is_belt" = some (.ref f)) (hb : Binds K fd ["thing"] []) (Z : Fx K mg) (d_is_count : Fn P w K mg base T "is_count" 1 m_is_count) (d_is_spot : Fn P w K mg base T "is_spot" 3 m_is_spot) (d_is_kicker : Fn P w K mg base T "is_kicker" 2 m_is_kicker) : Fn P w K mg base T "is_belt" 4 m_is_belt := by
  refine fn_mk (g := b_is_belt) F sc_is_belt hm hb fun cdv A outer s H E hr => ?_
  have hu := hr.units
  exact (ss_cons (s_if (t_pt (w_or (t_not (t_val (e_isi k_tuple (e_var 0) (by rfl) Z.b_isinstance (by rfl) Z.b_tuple (by decide +kernel)))) (w_or (t_cmp (c_ne hu) (e_callB f_len (by rfl) Z.b_len (by decide +kernel) (a_cons (e_var 0) a_nil)) e_int) (w_or1 (t_not (t_val (e_callB (f_all (by rfl)) (by rfl) Z.b_all (by decide +kernel) (a_cons (e_lc (own := [("part", 4)]) (by rfl) sc_is_belt.nd (i_seq (e_var 0)) (blkOk_by (own := [("part", 4)]) (N := ["thing", "faults", "spots", "kickers", "part", "place", "spot", "one"]) (sc := defScope s_is_belt) (by decide +kernel)) (fun _ _ _ _ _ => (g_name 4 sc_is_belt.nd)) (fun _ _ _ _ _ => ts_nil) (fun _ _ _ _ _ => (e_isi k_tuple (e_var 4) (by rfl) Z.b_isinstance (by rfl) Z.b_tuple (by decide +kernel))) (by decide)) a_nil)))))))) (ss_one (s_ret e_bl)) ss_nil)
      (ss_cons (s_asg (e_var 0) (g_tup (by rfl) (gs_cons (g_name 1 sc_is_belt.nd) (gs_cons (g_name 2 sc_is_belt.nd) (gs_cons (g_name 3 sc_is_belt.nd) gs_nil)))))
      (ss_cons (s_if (t_pt (w_or (t_not (t_chain (c_le hu) (c_le hu) e_int (e_callB f_len (by rfl) Z.b_len (by decide +kernel) (a_cons (e_var 1) a_nil)) (e_globE (by rfl) Z.c_MOST_FAULTS))) (w_or (t_cmp (c_gt hu) (e_callB f_len (by rfl) Z.b_len (by decide +kernel) (a_cons (e_var 2) a_nil)) (e_globE (by rfl) Z.c_MOST_SPOTS)) (w_or1 (t_cmp (c_gt hu) (e_callB f_len (by rfl) Z.b_len (by decide +kernel) (a_cons (e_var 3) a_nil)) (e_globE (by rfl) Z.c_MOST_KICKERS)))))) (ss_one (s_ret e_bl)) ss_nil)
      (ss_cons (s_if (t_not (t_val (e_callB (f_all (by rfl)) (by rfl) Z.b_all (by decide +kernel) (a_cons (e_lc (own := [("place", 5)]) (by rfl) sc_is_belt.nd (i_seq (e_var 1)) (blkOk_by (own := [("place", 5)]) (N := ["thing", "faults", "spots", "kickers", "part", "place", "spot", "one"]) (sc := defScope s_is_belt) (by decide +kernel)) (fun _ _ _ _ _ => (g_name 5 sc_is_belt.nd)) (fun _ _ _ _ _ => ts_nil) (fun _ _ _ _ _ => (e_call d_is_count (hr.mono (by decide)) passN (by rfl) (a_cons (e_var 5) (a_cons e_int (a_cons (e_globE (by rfl) Z.c_MOST_PLACE) a_nil))))) (by decide)) a_nil)))) (ss_one (s_ret e_bl)) ss_nil)
      (ss_one (s_ret (e_and (e_callB (f_all (by rfl)) (by rfl) Z.b_all (by decide +kernel) (a_cons (e_lc (own := [("spot", 6)]) (by rfl) sc_is_belt.nd (i_seq (e_var 2)) (blkOk_by (own := [("spot", 6)]) (N := ["thing", "faults", "spots", "kickers", "part", "place", "spot", "one"]) (sc := defScope s_is_belt) (by decide +kernel)) (fun _ _ _ _ _ => (g_name 6 sc_is_belt.nd)) (fun _ _ _ _ _ => ts_nil) (fun _ _ _ _ _ => (e_call d_is_spot (hr.mono (by decide)) passN (by rfl) (a_cons (e_var 6) (a_cons (e_callB f_len (by rfl) Z.b_len (by decide +kernel) (a_cons (e_var 1) a_nil)) a_nil)))) (by decide)) a_nil)) (e_one (e_callB (f_all (by rfl)) (by rfl) Z.b_all (by decide +kernel) (a_cons (e_lc (own := [("one", 7)]) (by rfl) sc_is_belt.nd (i_seq (e_var 3)) (blkOk_by (own := [("one", 7)]) (N := ["thing", "faults", "spots", "kickers", "part", "place", "spot", "one"]) (sc := defScope s_is_belt) (by decide +kernel)) (fun _ _ _ _ _ => (g_name 7 sc_is_belt.nd)) (fun _ _ _ _ _ => ts_nil) (fun _ _ _ _ _ => (e_call d_is_kicker (hr.mono (by decide)) passN (by rfl) (a_cons (e_var 7) a_nil))) (by decide)) a_nil))))))))))
abbrev s_need_belt : Stmt := topS 20
theorem sc_need_belt : FnScope ["belt"] ["belt"] (defScope s_need_belt) := ⟨rfl, rfl, rfl, by decide +kernel, rfl, by decide +kernel, by decide +kernel⟩
theorem ok_need_belt {f : Addr} {fd : FuncData} (F : Fun K "need_belt" "need_belt" s_need_belt f fd) (hm : mg "need_belt" = some (.ref f)) (hb : Binds K fd ["belt"] []) (Z : Fx K mg) (d_is_belt : Fn P w K mg base T "is_belt" 4 m_is_belt) : Fn P w K mg base T "need_belt" 5 m_need_belt := by
  refine fn_mk (g := b_need_belt) F sc_need_belt hm hb fun cdv A outer s H E hr => ?_
  have hu := hr.units
  exact (ss_one (s_if (t_not (t_val (e_call d_is_belt (hr.mono (by decide)) passB (by rfl) (a_cons (e_var 0) a_nil)))) (ss_one (s_raise Z.x_BadBelt (by rfl) takesB (by rfl))) ss_nil))
abbrev s_sees : Stmt := topS 21
theorem sc_sees : FnScope ["belt", "spot", "fault", "place", "cost", "own"] ["belt", "spot", "fault"] (defScope s_sees) := ⟨rfl, rfl, rfl, by decide +kernel, rfl, by decide +kernel, by decide +kernel⟩
theorem ok_sees {f : Addr} {fd : FuncData} (F : Fun K "sees" "sees" s_sees f fd) (hm : mg "sees" = some (.ref f)) (hb : Binds K fd ["belt", "spot", "fault"] []) (Z : Fx K mg) : Fn P w K mg base T "sees" 1 m_sees := by
  refine fn_mk (g := b_sees) F sc_sees hm hb fun cdv A outer s H E hr => ?_
  have hu := hr.units
  exact (ss_cons (s_asg (e_ix (e_ix (e_var 0) e_int) (e_var 1)) (g_tup (by rfl) (gs_cons (g_name 3 sc_sees.nd) (gs_cons (g_name 4 sc_sees.nd) (gs_cons (g_name 5 sc_sees.nd) gs_nil)))))
      (ss_one (s_ret (e_and (e_cmp c_in (e_var 2) (e_var 5)) (e_one (e_cmp (c_le hu) (e_ix (e_ix (e_var 0) e_int) (e_var 2)) (e_var 3)))))))
abbrev s_first_kicker : Stmt := topS 22
theorem sc_first_kicker : FnScope ["belt", "kickers", "place", "some", "own"] ["belt", "kickers", "place"] (defScope s_first_kicker) := ⟨rfl, rfl, rfl, by decide +kernel, rfl, by decide +kernel, by decide +kernel⟩
theorem ok_first_kicker {f : Addr} {fd : FuncData} (F : Fun K "first_kicker" "first_kicker" s_first_kicker f fd) (hm : mg "first_kicker" = some (.ref f)) (hb : Binds K fd ["belt", "kickers", "place"] []) (Z : Fx K mg) : Fn P w K mg base T "first_kicker" 1 m_first_kicker := by
  refine fn_mk (g := b_first_kicker) F sc_first_kicker hm hb fun cdv A outer s H E hr => ?_
  have hu := hr.units
  exact (ss_cons (s_setLc (i := 3) (own := [("own", 4)]) (by rfl) sc_first_kicker.nd (by rfl) (by rfl) (sw_true (by rfl) (by rfl) (by rfl) (by decide +kernel)) (i_seq (e_var 1)) (blkOk_by (own := [("own", 4)]) (N := ["belt", "kickers", "place", "some", "own"]) (sc := defScope s_first_kicker) (by decide +kernel)) (fun _ _ _ _ _ => (g_name 4 sc_first_kicker.nd)) (fun _ _ _ _ _ => (ts_one (t_cmp (c_ge hu) (e_ix (e_ix (e_ix (e_var 0) e_int) (e_var 4)) e_int) (e_var 2)))) (fun _ _ _ _ _ => (e_tup (a_cons (e_ix (e_ix (e_ix (e_var 0) e_int) (e_var 4)) e_int) (a_cons (e_var 4) a_nil)))) (by decide))
      (ss_one (s_ret (e_if (t_cmp (c_ne hu) (e_var 3) (e_lst a_nil)) (e_ix (e_callB (f_min (by rfl) hu) (by rfl) Z.b_min (by decide +kernel) (a_cons (e_var 3) a_nil)) e_int) e_non))))
abbrev s_useful : Stmt := topS 23
theorem sc_useful : FnScope ["belt", "spots", "kickers", "fault", "found", "spot"] ["belt", "spots", "kickers", "fault"] (defScope s_useful) := ⟨rfl, rfl, rfl, by decide +kernel, rfl, by decide +kernel, by decide +kernel⟩
theorem ok_useful {f : Addr} {fd : FuncData} (F : Fun K "useful" "useful" s_useful f fd) (hm : mg "useful" = some (.ref f)) (hb : Binds K fd ["belt", "spots", "kickers", "fault"] []) (Z : Fx K mg) (d_sees : Fn P w K mg base T "sees" 1 m_sees) (d_first_kicker : Fn P w K mg base T "first_kicker" 1 m_first_kicker) : Fn P w K mg base T "useful" 2 m_useful := by
  refine fn_mk (g := b_useful) F sc_useful hm hb fun cdv A outer s H E hr => ?_
  have hu := hr.units
  exact (ss_cons (s_own (i := 4) sc_useful.nd a_nil)
      (ss_cons (s_for ownB (by rfl) (i_seq (e_var 1)) (g_name 5 sc_useful.nd) (ss_one (s_if (t_pt (w_and (t_val (e_call d_sees (hr.mono (by decide)) passB (by rfl) (a_cons (e_var 0) (a_cons (e_var 5) (a_cons (e_var 3) a_nil))))) (w_and1 (t_cmp c_notN (e_call d_first_kicker (hr.mono (by decide)) passB (by rfl) (a_cons (e_var 0) (a_cons (e_var 2) (a_cons (e_ix (e_ix (e_ix (e_var 0) e_int) (e_var 5)) e_int) a_nil)))) e_non)))) (ss_one (s_app (i := 4) (e_var 5))) ss_nil)))
      (ss_one (s_frz 4 (s_ret (e_var 4))))))
abbrev s_need_plan : Stmt := topS 26
theorem sc_need_plan : FnScope ["belt", "plan"] ["belt", "plan"] (defScope s_need_plan) := ⟨rfl, rfl, rfl, by decide +kernel, rfl, by decide +kernel, by decide +kernel⟩
theorem ok_need_plan {f : Addr} {fd : FuncData} (F : Fun K "need_plan" "need_plan" s_need_plan f fd) (hm : mg "need_plan" = some (.ref f)) (hb : Binds K fd ["belt", "plan"] []) (Z : Fx K mg) (d_is_rising : Fn P w K mg base T "is_rising" 2 m_is_rising) : Fn P w K mg base T "need_plan" 3 m_need_plan := by
  refine fn_mk (g := b_need_plan) F sc_need_plan hm hb fun cdv A outer s H E hr => ?_
  have hu := hr.units
  exact (ss_cons (s_if (t_pt (w_or (t_not (t_val (e_isi k_tuple (e_var 1) (by rfl) Z.b_isinstance (by rfl) Z.b_tuple (by decide +kernel)))) (w_or1 (t_cmp (c_ne hu) (e_callB f_len (by rfl) Z.b_len (by decide +kernel) (a_cons (e_var 1) a_nil)) e_int)))) (ss_one (s_raise Z.x_BadPlan (by rfl) takesB (by rfl))) ss_nil)
      (ss_one (s_if (t_pt (w_or (t_not (t_val (e_call d_is_rising (hr.mono (by decide)) passB (by rfl) (a_cons (e_ix (e_var 1) e_int) (a_cons (e_callB f_len (by rfl) Z.b_len (by decide +kernel) (a_cons (e_ix (e_var 0) e_int) a_nil)) a_nil))))) (w_or1 (t_not (t_val (e_call d_is_rising (hr.mono (by decide)) passB (by rfl) (a_cons (e_ix (e_var 1) e_int) (a_cons (e_callB f_len (by rfl) Z.b_len (by decide +kernel) (a_cons (e_ix (e_var 0) e_int) a_nil)) a_nil)))))))) (ss_one (s_raise Z.x_BadPlan (by rfl) takesB (by rfl))) ss_nil)))
abbrev s_need_bottle : Stmt := topS 27
theorem sc_need_bottle : FnScope ["belt", "plan", "bottle", "slips", "spot"] ["belt", "plan", "bottle", "slips"] (defScope s_need_bottle) := ⟨rfl, rfl, rfl, by decide +kernel, rfl, by decide +kernel, by decide +kernel⟩
theorem ok_need_bottle {f : Addr} {fd : FuncData} (F : Fun K "need_bottle" "need_bottle" s_need_bottle f fd) (hm : mg "need_bottle" = some (.ref f)) (hb : Binds K fd ["belt", "plan", "bottle", "slips"] []) (Z : Fx K mg) (d_is_rising : Fn P w K mg base T "is_rising" 2 m_is_rising) : Fn P w K mg base T "need_bottle" 3 m_need_bottle := by
  refine fn_mk (g := b_need_bottle) F sc_need_bottle hm hb fun cdv A outer s H E hr => ?_
  have hu := hr.units
  exact (ss_cons (s_if (t_not (t_val (e_call d_is_rising (hr.mono (by decide)) passB (by rfl) (a_cons (e_var 2) (a_cons (e_callB f_len (by rfl) Z.b_len (by decide +kernel) (a_cons (e_ix (e_var 0) e_int) a_nil)) a_nil))))) (ss_one (s_raise Z.x_BadBottle (by rfl) takesB (by rfl))) ss_nil)
      (ss_one (s_if (t_pt (w_or (t_not (t_val (e_call d_is_rising (hr.mono (by decide)) passB (by rfl) (a_cons (e_var 3) (a_cons (e_callB f_len (by rfl) Z.b_len (by decide +kernel) (a_cons (e_ix (e_var 0) e_int) a_nil)) a_nil))))) (w_or1 (t_not (t_val (e_callB (f_all (by rfl)) (by rfl) Z.b_all (by decide +kernel) (a_cons (e_lc (own := [("spot", 4)]) (by rfl) sc_need_bottle.nd (i_seq (e_var 3)) (blkOk_by (own := [("spot", 4)]) (N := ["belt", "plan", "bottle", "slips", "spot"]) (sc := defScope s_need_bottle) (by decide +kernel)) (fun _ _ _ _ _ => (g_name 4 sc_need_bottle.nd)) (fun _ _ _ _ _ => ts_nil) (fun _ _ _ _ _ => (e_cmp c_in (e_var 4) (e_ix (e_var 1) e_int))) (by decide)) a_nil))))))) (ss_one (s_raise Z.x_BadBottle (by rfl) takesB (by rfl))) ss_nil)))
abbrev s_need_count : Stmt := topS 28
theorem sc_need_count : FnScope ["count"] ["count"] (defScope s_need_count) := ⟨rfl, rfl, rfl, by decide +kernel, rfl, by decide +kernel, by decide +kernel⟩
theorem ok_need_count {f : Addr} {fd : FuncData} (F : Fun K "need_count" "need_count" s_need_count f fd) (hm : mg "need_count" = some (.ref f)) (hb : Binds K fd ["count"] []) (Z : Fx K mg) (d_is_count : Fn P w K mg base T "is_count" 1 m_is_count) : Fn P w K mg base T "need_count" 2 m_need_count := by
  refine fn_mk (g := b_need_count) F sc_need_count hm hb fun cdv A outer s H E hr => ?_
  have hu := hr.units
  exact (ss_one (s_if (t_not (t_val (e_call d_is_count (hr.mono (by decide)) passB (by rfl) (a_cons (e_var 0) (a_cons e_int (a_cons (e_globE (by rfl) Z.c_MOST_SLIPS) a_nil)))))) (ss_one (s_raise Z.x_BadNumber (by rfl) takesB (by rfl))) ss_nil))
abbrev s_out_of : Stmt := topS 29
theorem sc_out_of : FnScope ["belt", "plan", "bottle", "slips", "some", "spot", "place", "kicker", "fault"] ["belt", "plan", "bottle", "slips"] (defScope s_out_of) := ⟨rfl, rfl, rfl, by decide +kernel, rfl, by decide +kernel, by decide +kernel⟩
theorem ok_out_of {f : Addr} {fd : FuncData} (F : Fun K "out_of" "out_of" s_out_of f fd) (hm : mg "out_of" = some (.ref f)) (hb : Binds K fd ["belt", "plan", "bottle", "slips"] []) (Z : Fx K mg) (d_first_kicker : Fn P w K mg base T "first_kicker" 1 m_first_kicker) (d_sees : Fn P w K mg base T "sees" 1 m_sees) : Fn P w K mg base T "out_of" 2 m_out_of := by
  refine fn_mk (g := b_out_of) F sc_out_of hm hb fun cdv A outer s H E hr => ?_
  have hu := hr.units
  exact (ss_cons (s_own (i := 4) sc_out_of.nd a_nil)
      (ss_cons (s_for ownB (by rfl) (i_seq (e_ix (e_var 1) e_int)) (g_name 5 sc_out_of.nd) (ss_one (s_if (t_pt (w_and (t_cmp c_notIn (e_var 5) (e_var 3)) (w_and1 (t_val (e_callB (f_any (by rfl)) (by rfl) Z.b_any (by decide +kernel) (a_cons (e_lc (own := [("fault", 8)]) (by rfl) sc_out_of.nd (i_seq (e_var 2)) (blkOk_by (own := [("fault", 8)]) (N := ["belt", "plan", "bottle", "slips", "some", "spot", "place", "kicker", "fault"]) (sc := defScope s_out_of) (by decide +kernel)) (fun _ _ _ _ _ => (g_name 8 sc_out_of.nd)) (fun _ _ _ _ _ => ts_nil) (fun _ _ _ _ _ => (e_call d_sees (hr.mono (by decide)) passN (by rfl) (a_cons (e_var 0) (a_cons (e_var 5) (a_cons (e_var 8) a_nil))))) (by decide)) a_nil)))))) (ss_one (s_app (i := 4) (e_tup (a_cons (e_ix (e_ix (e_ix (e_var 0) e_int) (e_var 5)) e_int) (a_cons (e_var 5) a_nil))))) ss_nil)))
      (ss_cons (s_frz 4 (s_if (t_cmp (c_eq hu) (e_var 4) (e_lst a_nil)) (ss_one (s_ret e_non)) ss_nil))
      (ss_cons (s_frz 4 (s_asg (e_callB (f_min (by rfl) hu) (by rfl) Z.b_min (by decide +kernel) (a_cons (e_var 4) a_nil)) (g_tup (by rfl) (gs_cons (g_name 6 sc_out_of.nd) (gs_cons (g_name 5 sc_out_of.nd) gs_nil)))))
      (ss_cons (s_asg (e_call d_first_kicker (hr.mono (by decide)) passB (by rfl) (a_cons (e_var 0) (a_cons (e_ix (e_var 1) e_int) (a_cons (e_var 6) a_nil)))) (g_name 7 sc_out_of.nd))
      (ss_one (s_ret (e_if (t_cmp c_isN (e_var 7) e_non) e_non (e_tup (a_cons (e_var 5) (a_cons (e_var 7) a_nil)))))))))))
abbrev s_out : Stmt := topS 30
theorem sc_out : FnScope ["belt", "plan", "bottle", "slips"] ["belt", "plan", "bottle", "slips"] (defScope s_out) := ⟨rfl, rfl, rfl, by decide +kernel, rfl, by decide +kernel, by decide +kernel⟩
theorem ok_out {f : Addr} {fd : FuncData} (F : Fun K "out" "out" s_out f fd) (hm : mg "out" = some (.ref f)) (hb : Binds K fd ["belt", "plan", "bottle", "slips"] []) (Z : Fx K mg) (d_need_belt : Fn P w K mg base T "need_belt" 5 m_need_belt) (d_need_plan : Fn P w K mg base T "need_plan" 3 m_need_plan) (d_need_bottle : Fn P w K mg base T "need_bottle" 3 m_need_bottle) (d_out_of : Fn P w K mg base T "out_of" 2 m_out_of) : Fn P w K mg base T "out" 6 m_out := by
  refine fn_mk (g := b_out) F sc_out hm hb fun cdv A outer s H E hr => ?_
  have hu := hr.units
  exact (ss_cons (s_expr (e_call d_need_belt (hr.mono (by decide)) passB (by rfl) (a_cons (e_var 0) a_nil)))
      (ss_cons (s_expr (e_call d_need_plan (hr.mono (by decide)) passB (by rfl) (a_cons (e_var 0) (a_cons (e_var 1) a_nil))))
      (ss_cons (s_expr (e_call d_need_bottle (hr.mono (by decide)) passB (by rfl) (a_cons (e_var 0) (a_cons (e_var 1) (a_cons (e_var 2) (a_cons (e_var 3) a_nil))))))
      (ss_one (s_ret (e_call d_out_of (hr.mono (by decide)) passB (by rfl) (a_cons (e_var 0) (a_cons (e_var 1) (a_cons (e_var 2) (a_cons (e_var 3) a_nil))))))))))
abbrev s_least_seen : Stmt := topS 31
theorem sc_least_seen : FnScope ["belt", "plan", "fault"] ["belt", "plan"] (defScope s_least_seen) := ⟨rfl, rfl, rfl, by decide +kernel, rfl, by decide +kernel, by decide +kernel⟩
theorem ok_least_seen {f : Addr} {fd : FuncData} (F : Fun K "least_seen" "least_seen" s_least_seen f fd) (hm : mg "least_seen" = some (.ref f)) (hb : Binds K fd ["belt", "plan"] []) (Z : Fx K mg) (d_useful : Fn P w K mg base T "useful" 2 m_useful) : Fn P w K mg base T "least_seen" 3 m_least_seen := by
  refine fn_mk (g := b_least_seen) F sc_least_seen hm hb fun cdv A outer s H E hr => ?_
  have hu := hr.units
  exact (ss_one (s_ret (e_callB (f_min (by rfl) hu) (by rfl) Z.b_min (by decide +kernel) (a_cons (e_lc (own := [("fault", 2)]) (by rfl) sc_least_seen.nd (i_range1 (by rfl) Z.b_range (a_cons (e_callB f_len (by rfl) Z.b_len (by decide +kernel) (a_cons (e_ix (e_var 0) e_int) a_nil)) a_nil)) (blkOk_by (own := [("fault", 2)]) (N := ["belt", "plan", "fault"]) (sc := defScope s_least_seen) (by decide +kernel)) (fun _ _ _ _ _ => (g_name 2 sc_least_seen.nd)) (fun _ _ _ _ _ => ts_nil) (fun _ _ _ _ _ => (e_callB f_len (by rfl) Z.b_len (by decide +kernel) (a_cons (e_call d_useful (hr.mono (by decide)) passN (by rfl) (a_cons (e_var 0) (a_cons (e_ix (e_var 1) e_int) (a_cons (e_ix (e_var 1) e_int) (a_cons (e_var 2) a_nil))))) a_nil))) (by decide)) a_nil))))
abbrev s_borne : Stmt := topS 32
theorem sc_borne : FnScope ["belt", "plan", "own"] ["belt", "plan"] (defScope s_borne) := ⟨rfl, rfl, rfl, by decide +kernel, rfl, by decide +kernel, by decide +kernel⟩
theorem ok_borne {f : Addr} {fd : FuncData} (F : Fun K "borne" "borne" s_borne f fd) (hm : mg "borne" = some (.ref f)) (hb : Binds K fd ["belt", "plan"] []) (Z : Fx K mg) (d_need_belt : Fn P w K mg base T "need_belt" 5 m_need_belt) (d_need_plan : Fn P w K mg base T "need_plan" 3 m_need_plan) (d_least_seen : Fn P w K mg base T "least_seen" 3 m_least_seen) : Fn P w K mg base T "borne" 6 m_borne := by
  refine fn_mk (g := b_borne) F sc_borne hm hb fun cdv A outer s H E hr => ?_
  have hu := hr.units
  exact (ss_cons (s_expr (e_call d_need_belt (hr.mono (by decide)) passB (by rfl) (a_cons (e_var 0) a_nil)))
      (ss_cons (s_expr (e_call d_need_plan (hr.mono (by decide)) passB (by rfl) (a_cons (e_var 0) (a_cons (e_var 1) a_nil))))
      (ss_cons (s_asg (e_call d_least_seen (hr.mono (by decide)) passB (by rfl) (a_cons (e_var 0) (a_cons (e_var 1) a_nil))) (g_name 2 sc_borne.nd))
      (ss_one (s_ret (e_if (t_cmp (c_gt hu) (e_var 2) e_int) (e_op b_sub (e_var 2) e_int) e_non))))))
abbrev s_lets : Stmt := topS 33
theorem sc_lets : FnScope ["belt", "plan", "count", "fault", "own"] ["belt", "plan", "count"] (defScope s_lets) := ⟨rfl, rfl, rfl, by decide +kernel, rfl, by decide +kernel, by decide +kernel⟩
theorem ok_lets {f : Addr} {fd : FuncData} (F : Fun K "lets" "lets" s_lets f fd) (hm : mg "lets" = some (.ref f)) (hb : Binds K fd ["belt", "plan", "count"] []) (Z : Fx K mg) (d_need_belt : Fn P w K mg base T "need_belt" 5 m_need_belt) (d_need_plan : Fn P w K mg base T "need_plan" 3 m_need_plan) (d_need_count : Fn P w K mg base T "need_count" 2 m_need_count) (d_useful : Fn P w K mg base T "useful" 2 m_useful) : Fn P w K mg base T "lets" 6 m_lets := by
  refine fn_mk (g := b_lets) F sc_lets hm hb fun cdv A outer s H E hr => ?_
  have hu := hr.units
  exact (ss_cons (s_expr (e_call d_need_belt (hr.mono (by decide)) passB (by rfl) (a_cons (e_var 0) a_nil)))
      (ss_cons (s_expr (e_call d_need_plan (hr.mono (by decide)) passB (by rfl) (a_cons (e_var 0) (a_cons (e_var 1) a_nil))))
      (ss_cons (s_expr (e_call d_need_count (hr.mono (by decide)) passB (by rfl) (a_cons (e_var 2) a_nil)))
      (ss_cons (s_for ownB (by rfl) (i_range1 (by rfl) Z.b_range (a_cons (e_callB f_len (by rfl) Z.b_len (by decide +kernel) (a_cons (e_ix (e_var 0) e_int) a_nil)) a_nil)) (g_name 3 sc_lets.nd) (ss_cons (s_asg (e_call d_useful (hr.mono (by decide)) passB (by rfl) (a_cons (e_var 0) (a_cons (e_ix (e_var 1) e_int) (a_cons (e_ix (e_var 1) e_int) (a_cons (e_var 3) a_nil))))) (g_name 4 sc_lets.nd))
      (ss_one (s_if (t_cmp (c_le hu) (e_callB f_len (by rfl) Z.b_len (by decide +kernel) (a_cons (e_var 4) a_nil)) (e_var 2)) (ss_one (s_ret (e_tup (a_cons (e_tup (a_cons (e_var 3) a_nil)) (a_cons (e_callTy f_tuple (by rfl) Z.b_tuple (by decide +kernel) (a_cons (e_var 4) a_nil)) a_nil))))) ss_nil))))
      (ss_one (s_ret e_non))))))
abbrev s_law_cell : Stmt := topS 35
theorem sc_law_cell : FnScope ["script", "k"] ["script", "k"] (defScope s_law_cell) := ⟨rfl, rfl, rfl, by decide +kernel, rfl, by decide +kernel, by decide +kernel⟩
theorem ok_law_cell {f : Addr} {fd : FuncData} (F : Fun K "_law_cell" "_law_cell" s_law_cell f fd) (hm : mg "_law_cell" = some (.ref f)) (hb : Binds K fd ["script", "k"] []) (Z : Fx K mg) : Fn P w K mg base T "_law_cell" 1 m_law_cell := by
  refine fn_mk (g := b_law_cell) F sc_law_cell hm hb fun cdv A outer s H E hr => ?_
  have hu := hr.units
  exact (ss_cons (s_if (t_cmp (c_eq hu) (e_var 0) (e_lst a_nil)) (ss_one (s_ret (e_op b_mul (e_var 1) e_int))) ss_nil)
      (ss_one (s_ret (e_op b_add (e_ix (e_var 0) (e_op b_mod (e_var 1) (e_callB f_len (by rfl) Z.b_len (by decide +kernel) (a_cons (e_var 0) a_nil)))) (e_op b_mul (e_op b_fdiv (e_var 1) (e_callB f_len (by rfl) Z.b_len (by decide +kernel) (a_cons (e_var 0) a_nil))) e_int)))))
abbrev s_law_drawn : Stmt := topS 36
theorem sc_law_drawn : FnScope ["cell", "k", "more"] ["cell", "k"] (defScope s_law_drawn) := ⟨rfl, rfl, rfl, by decide +kernel, rfl, by decide +kernel, by decide +kernel⟩
theorem ok_law_drawn {f : Addr} {fd : FuncData} (F : Fun K "_law_drawn" "_law_drawn" s_law_drawn f fd) (hm : mg "_law_drawn" = some (.ref f)) (hb : Binds K fd ["cell", "k"] []) (Z : Fx K mg) : Fn P w K mg base T "_law_drawn" 1 m_law_drawn := by
  refine fn_mk (g := b_law_drawn) F sc_law_drawn hm hb fun cdv A outer s H E hr => ?_
  have hu := hr.units
  exact (ss_cons (s_asg (e_op b_mod (e_op b_add (e_op b_mul (e_var 0) e_int) (e_op b_mul (e_op b_add (e_var 1) e_int) e_int)) e_int) (g_name 2 sc_law_drawn.nd))
      (ss_cons (s_asg (e_op b_mod (e_op b_mul (e_var 2) (e_var 2)) e_int) (g_name 2 sc_law_drawn.nd))
      (ss_cons (s_asg (e_op b_mul (e_op b_mul (e_op b_add (e_op b_mod (e_var 2) e_int) e_int) (e_op b_add (e_op b_fdiv (e_var 2) e_int) e_int)) (e_var 2)) (g_name 2 sc_law_drawn.nd))
      (ss_one (s_ret (e_op b_mod (e_var 2) e_int))))))
abbrev s_law_word : Stmt := topS 37
theorem sc_law_word : FnScope ["e", "flags", "flag"] ["e"] (defScope s_law_word) := ⟨rfl, rfl, rfl, by decide +kernel, rfl, by decide +kernel, by decide +kernel⟩
theorem ok_law_word {f C : Addr} {fd : FuncData} {isa : Str → Bool} {wrd : Str} (F : Fun K "_law_word" "_law_word" s_law_word f fd) (Z : Fx K mg) (xc : ExcC K C) (hk_ValueError : PySem.W.kitOne K (.ref C) (.type "ValueError") = some (isa "ValueError")) {C_BadBelt : Addr} (hm_BadBelt : mg "BadBelt" = some (.ref C_BadBelt)) (hk_BadBelt : PySem.W.kitOne K (.ref C) (.ref C_BadBelt) = some (isa "BadBelt")) {C_BadPlan : Addr} (hm_BadPlan : mg "BadPlan" = some (.ref C_BadPlan)) (hk_BadPlan : PySem.W.kitOne K (.ref C) (.ref C_BadPlan) = some (isa "BadPlan")) {C_BadBottle : Addr} (hm_BadBottle : mg "BadBottle" = some (.ref C_BadBottle)) (hk_BadBottle : PySem.W.kitOne K (.ref C) (.ref C_BadBottle) = some (isa "BadBottle")) {C_BadNumber : Addr} (hm_BadNumber : mg "BadNumber" = some (.ref C_BadNumber)) (hk_BadNumber : PySem.W.kitOne K (.ref C) (.ref C_BadNumber) = some (isa "BadNumber")) {C_BadPaper : Addr} (hm_BadPaper : mg "BadPaper" = some (.ref C_BadPaper)) (hk_BadPaper : PySem.W.kitOne K (.ref C) (.ref C_BadPaper) = some (isa "BadPaper")) {C_NoPlan : Addr} (hm_NoPlan : mg "NoPlan" = some (.ref C_NoPlan)) (hk_NoPlan : PySem.W.kitOne K (.ref C) (.ref C_NoPlan) = some (isa "NoPlan")) {C_BadText : Addr} (hm_BadText : mg "BadText" = some (.ref C_BadText)) (hk_BadText : PySem.W.kitOne K (.ref C) (.ref C_BadText) = some (isa "BadText")) (hg : ∀ a, b_law_word a isa (.raw (.ref a) :: List.replicate 2 Slot.non) = .ret (.str wrd)) : WordOk P w K mg base T 6 f fd ["e"] C wrd := by
  refine word_mk (k := 5) (g := fun a => b_law_word a isa) F sc_law_word (by decide) (fun cdv A outer s H p hot hzn hr => ?_) hg
  have hz := hzn.zc
  have hf : ∃ vs, p.2.data = .fields vs := let ⟨vs, h, _⟩ := hot.2; ⟨vs, h⟩
  have hp : p ∈ (L2H.cxH C8.CX0 P w K mg base ["e", "flags", "flag"] "_law_word" (defScope s_law_word) f cdv A outer s H C8.E0 p).pn := List.mem_cons_self
  have hc : L2H.HotC (L2H.cxH C8.CX0 P w K mg base ["e", "flags", "flag"] "_law_word" (defScope s_law_word) f cdv A outer s H C8.E0 p) := ⟨p, ⟨hot.1, hot.2⟩, hp⟩
  have hu : (L2H.cxH C8.CX0 P w K mg base ["e", "flags", "flag"] "_law_word" (defScope s_law_word) f cdv A outer s H C8.E0 p).A.units + 64 < cLine := by have := hr.un; show (A.deeper _).units + 64 < _; omega
  exact (ss_cons (s_own (i := 1) sc_law_word.nd (a_cons (e_isE xc hz hf hp hk_BadBelt rfl (.inl rfl) (by rfl) Z.b_isinstance (by rfl) hm_BadBelt) (a_cons (e_isE xc hz hf hp hk_BadPlan rfl (.inl rfl) (by rfl) Z.b_isinstance (by rfl) hm_BadPlan) (a_cons (e_isE xc hz hf hp hk_BadBottle rfl (.inl rfl) (by rfl) Z.b_isinstance (by rfl) hm_BadBottle) (a_cons (e_isE xc hz hf hp hk_BadNumber rfl (.inl rfl) (by rfl) Z.b_isinstance (by rfl) hm_BadNumber) a_nil)))))
      (ss_cons (s_frz 1 (s_asg (e_op b_add (e_var 1) (e_lst (a_cons (e_isE xc hz hf hp hk_BadPaper rfl (.inl rfl) (by rfl) Z.b_isinstance (by rfl) hm_BadPaper) (a_cons (e_isE xc hz hf hp hk_NoPlan rfl (.inl rfl) (by rfl) Z.b_isinstance (by rfl) hm_NoPlan) (a_cons (e_isE xc hz hf hp hk_BadText rfl (.inl rfl) (by rfl) Z.b_isinstance (by rfl) hm_BadText) a_nil))))) (g_name 1 sc_law_word.nd)))
      (ss_cons (s_frz 1 (s_if (t_pt (w_or (t_cmp (c_ne hu) (e_callB (f_sumH hc) (by rfl) Z.b_sum (by decide +kernel) (a_cons (e_intsH (i0 := 2) (own := [("flag", 2)]) hc sc_law_word.nd (e_var 1) (blkOk_by (own := [("flag", 2)]) (N := ["e", "flags", "flag"]) (sc := defScope s_law_word) (by decide +kernel)) (by decide) (fun _ _ _ _ _ => pg_name sc_law_word.nd rfl (.inl rfl)) (fun _ _ _ _ _ => pe_intB (by rfl) Z.b_int rfl (.inl rfl))) a_nil)) e_int) (w_or1 (t_not (t_val (e_isT xc hz hf hp hk_ValueError rfl (.inl rfl) (by rfl) Z.b_isinstance (by rfl) Z.b_ValueError (by decide +kernel))))))) (ss_one (s_ret e_str)) ss_nil))
      (ss_one (s_frz 1 (s_ret (e_ix (e_lst (a_cons e_str (a_cons e_str (a_cons e_str (a_cons e_str (a_cons e_str (a_cons e_str (a_cons e_str a_nil)))))))) (e_indexT (i := 1)))))))))
abbrev s_law_told : Stmt := topS 38
theorem sc_law_told : FnScope ["deed", "e"] ["deed"] (defScope s_law_told) := ⟨rfl, rfl, rfl, by decide +kernel, rfl, by decide +kernel, by decide +kernel⟩
theorem ok_law_told {f fw CS : Addr} {fd fdw : FuncData} (F : Fun K "_law_told" "_law_told" s_law_told f fd) (hm : mg "_law_told" = some (.ref f)) (hb : Binds K fd ["deed"] []) (hw : mg "_law_word" = some (.ref fw)) (hk : PySem.W.keepIn K (.ref fw) = true) (hbw : Binds K fdw ["e"] []) (hme : mg "BeltError" = some (.ref CS)) (hws : ∀ c ∈ ws, ∃ C, mg c = some (.ref C) ∧ PySem.W.exmOne K (.ref C) (.ref CS) = some true ∧ WordOk P w K mg base T 6 fw fdw ["e"] C c) : Told P w K mg base T 6 ws :=
  ⟨s_law_told, f, fw, CS, fd, fdw, _, _, _, _, _, _, _, _, _, _, F, hm, hb, rfl, sc_law_told, rfl, rfl, rfl, rfl, hw, hk, hbw, hme, hws⟩
abbrev s_law_some : Stmt := topS 39
theorem sc_law_some : FnScope ["more", "many", "by", "number"] ["more", "many", "by"] (defScope s_law_some) := ⟨rfl, rfl, rfl, by decide +kernel, rfl, by decide +kernel, by decide +kernel⟩
theorem ok_law_some {f : Addr} {fd : FuncData} (F : Fun K "_law_some" "_law_some" s_law_some f fd) (hm : mg "_law_some" = some (.ref f)) (hb : Binds K fd ["more", "many", "by"] []) (Z : Fx K mg) (d_law_drawn : Fn P w K mg base T "_law_drawn" 1 m_law_drawn) : Fn P w K mg base T "_law_some" 2 m_law_some := by
  refine fn_mk (g := b_law_some) F sc_law_some hm hb fun cdv A outer s H E hr => ?_
  have hu := hr.units
  exact (ss_one (s_ret (e_callTy f_tuple (by rfl) Z.b_tuple (by decide +kernel) (a_cons (e_lc (own := [("number", 3)]) (by rfl) sc_law_some.nd (i_range1 (by rfl) Z.b_range (a_cons (e_var 1) a_nil)) (blkOk_by (own := [("number", 3)]) (N := ["more", "many", "by", "number"]) (sc := defScope s_law_some) (by decide +kernel)) (fun _ _ _ _ _ => (g_name 3 sc_law_some.nd)) (fun _ _ _ _ _ => (ts_one (t_cmp (c_gt hu) (e_op b_mod (e_op b_fdiv (e_call d_law_drawn (hr.mono (by decide)) passN (by rfl) (a_cons (e_var 0) (a_cons (e_op b_add e_int (e_var 3)) a_nil))) e_int) (e_var 2)) e_int))) (fun _ _ _ _ _ => (e_var 3)) (by decide)) a_nil))))
abbrev s_law_belt : Stmt := topS 40
theorem sc_law_belt : FnScope ["more", "most", "wide", "faults", "spots", "j", "here", "own", "place", "kickers"] ["more", "most"] (defScope s_law_belt) := ⟨rfl, rfl, rfl, by decide +kernel, rfl, by decide +kernel, by decide +kernel⟩
theorem ok_law_belt {f : Addr} {fd : FuncData} (F : Fun K "_law_belt" "_law_belt" s_law_belt f fd) (hm : mg "_law_belt" = some (.ref f)) (hb : Binds K fd ["more", "most"] []) (Z : Fx K mg) (d_law_drawn : Fn P w K mg base T "_law_drawn" 1 m_law_drawn) (d_law_some : Fn P w K mg base T "_law_some" 2 m_law_some) : Fn P w K mg base T "_law_belt" 3 m_law_belt := by
  refine fn_mk (g := b_law_belt) F sc_law_belt hm hb fun cdv A outer s H E hr => ?_
  have hu := hr.units
  exact (ss_cons (s_asg (e_ix (e_lst (a_cons e_int (a_cons e_int (a_cons e_int a_nil)))) (e_op b_mod (e_op b_fdiv (e_var 0) e_int) e_int)) (g_name 2 sc_law_belt.nd))
      (ss_cons (s_asg (e_callTy f_tuple (by rfl) Z.b_tuple (by decide +kernel) (a_cons (e_lc (own := [("j", 5)]) (by rfl) sc_law_belt.nd (i_range1 (by rfl) Z.b_range (a_cons (e_op b_add e_int (e_op b_mod (e_op b_fdiv (e_var 0) e_int) (e_ix (e_lst (a_cons e_int (a_cons e_int a_nil))) (e_op b_mod (e_op b_fdiv (e_var 0) e_int) e_int)))) a_nil)) (blkOk_by (own := [("j", 5)]) (N := ["more", "most", "wide", "faults", "spots", "j", "here", "own", "place", "kickers"]) (sc := defScope s_law_belt) (by decide +kernel)) (fun _ _ _ _ _ => (g_name 5 sc_law_belt.nd)) (fun _ _ _ _ _ => ts_nil) (fun _ _ _ _ _ => (e_op b_mod (e_op b_fdiv (e_call d_law_drawn (hr.mono (by decide)) passN (by rfl) (a_cons (e_var 0) (a_cons (e_var 5) a_nil))) e_int) (e_var 2))) (by decide)) a_nil)) (g_name 3 sc_law_belt.nd))
      (ss_cons (s_own (i := 4) sc_law_belt.nd a_nil)
      (ss_cons (s_for ownB (by rfl) (i_range1 (by rfl) Z.b_range (a_cons (e_op b_mod (e_op b_fdiv (e_var 0) e_int) (e_op b_add (e_var 1) e_int)) a_nil)) (g_name 5 sc_law_belt.nd) (ss_cons (s_asg (e_call d_law_drawn (hr.mono (by decide)) passB (by rfl) (a_cons (e_var 0) (a_cons (e_op b_add e_int (e_var 5)) a_nil))) (g_name 6 sc_law_belt.nd))
      (ss_cons (s_asg (e_call d_law_some (hr.mono (by decide)) passB (by rfl) (a_cons (e_var 6) (a_cons (e_callB f_len (by rfl) Z.b_len (by decide +kernel) (a_cons (e_var 3) a_nil)) (a_cons (e_ix (e_lst (a_cons e_int (a_cons e_int (a_cons e_int a_nil)))) (e_op b_mod (e_op b_fdiv (e_var 0) e_int) e_int)) a_nil)))) (g_name 7 sc_law_belt.nd))
      (ss_cons (s_asg (e_op b_add (e_op b_mod (e_op b_fdiv (e_var 6) e_int) (e_var 2)) (e_op b_mul (e_ix (e_lst (a_cons e_int (a_cons (e_op b_fdiv (e_var 2) e_int) a_nil))) (e_op b_mod (e_op b_fdiv (e_var 6) (e_op b_pow e_int e_int)) e_int)) (e_callTy f_int (by rfl) Z.b_int (by decide +kernel) (a_cons (e_cmp (c_lt hu) (e_var 2) e_int) a_nil)))) (g_name 8 sc_law_belt.nd))
      (ss_one (s_app (i := 4) (e_tup (a_cons (e_var 8) (a_cons (e_op b_add e_int (e_op b_mod (e_op b_fdiv (e_var 6) e_int) (e_ix (e_lst (a_cons e_int (a_cons e_int a_nil))) (e_op b_mod (e_op b_fdiv (e_var 6) e_int) e_int)))) (a_cons (e_var 7) a_nil))))))))))
      (ss_cons (s_own (i := 9) sc_law_belt.nd a_nil)
      (ss_cons (s_for ownB (by rfl) (i_range1 (by rfl) Z.b_range (a_cons (e_op b_mod (e_op b_fdiv (e_var 0) (e_op b_pow e_int e_int)) e_int) a_nil)) (g_name 5 sc_law_belt.nd) (ss_cons (s_asg (e_call d_law_drawn (hr.mono (by decide)) passB (by rfl) (a_cons (e_var 0) (a_cons (e_op b_add e_int (e_var 5)) a_nil))) (g_name 6 sc_law_belt.nd))
      (ss_one (s_app (i := 9) (e_tup (a_cons (e_callB (f_min2 (by rfl)) (by rfl) Z.b_min (by decide +kernel) (a_cons e_int (a_cons (e_op b_mod (e_op b_fdiv (e_var 6) e_int) (e_op b_mul e_int (e_var 2))) a_nil))) (a_cons (e_op b_mod (e_op b_fdiv (e_var 6) e_int) (e_ix (e_lst (a_cons e_int (a_cons e_int a_nil))) (e_op b_mod (e_op b_fdiv (e_var 6) e_int) e_int))) a_nil)))))))
      (ss_one (s_frz 9 (s_frz 4 (s_ret (e_tup (a_cons (e_var 3) (a_cons (e_callTy f_tuple (by rfl) Z.b_tuple (by decide +kernel) (a_cons (e_var 4) a_nil)) (a_cons (e_callTy f_tuple (by rfl) Z.b_tuple (by decide +kernel) (a_cons (e_var 9) a_nil)) a_nil))))))))))))))
abbrev s_law_plan : Stmt := topS 41
theorem sc_law_plan : FnScope ["more", "belt", "by"] ["more", "belt"] (defScope s_law_plan) := ⟨rfl, rfl, rfl, by decide +kernel, rfl, by decide +kernel, by decide +kernel⟩
theorem ok_law_plan {f : Addr} {fd : FuncData} (F : Fun K "_law_plan" "_law_plan" s_law_plan f fd) (hm : mg "_law_plan" = some (.ref f)) (hb : Binds K fd ["more", "belt"] []) (Z : Fx K mg) (d_law_some : Fn P w K mg base T "_law_some" 2 m_law_some) (d_law_drawn : Fn P w K mg base T "_law_drawn" 1 m_law_drawn) : Fn P w K mg base T "_law_plan" 3 m_law_plan := by
  refine fn_mk (g := b_law_plan) F sc_law_plan hm hb fun cdv A outer s H E hr => ?_
  have hu := hr.units
  exact (ss_cons (s_asg (e_ix (e_lst (a_cons e_int (a_cons e_int (a_cons e_int a_nil)))) (e_op b_mod (e_op b_fdiv (e_var 0) e_int) e_int)) (g_name 2 sc_law_plan.nd))
      (ss_one (s_ret (e_tup (a_cons (e_call d_law_some (hr.mono (by decide)) passB (by rfl) (a_cons (e_call d_law_drawn (hr.mono (by decide)) passB (by rfl) (a_cons (e_var 0) (a_cons e_int a_nil))) (a_cons (e_callB f_len (by rfl) Z.b_len (by decide +kernel) (a_cons (e_ix (e_var 1) e_int) a_nil)) (a_cons (e_var 2) a_nil)))) (a_cons (e_call d_law_some (hr.mono (by decide)) passB (by rfl) (a_cons (e_call d_law_drawn (hr.mono (by decide)) passB (by rfl) (a_cons (e_var 0) (a_cons e_int a_nil))) (a_cons (e_callB f_len (by rfl) Z.b_len (by decide +kernel) (a_cons (e_ix (e_var 1) e_int) a_nil)) (a_cons (e_var 2) a_nil)))) a_nil))))))
abbrev s_law_out : Stmt := topS 42
theorem sc_law_out : FnScope ["belt", "plan", "bottle", "slips", "spot", "place", "number", "at", "price", "own", "fault"] ["belt", "plan", "bottle", "slips"] (defScope s_law_out) := ⟨rfl, rfl, rfl, by decide +kernel, rfl, by decide +kernel, by decide +kernel⟩
theorem ok_law_out {f : Addr} {fd : FuncData} (F : Fun K "_law_out" "_law_out" s_law_out f fd) (hm : mg "_law_out" = some (.ref f)) (hb : Binds K fd ["belt", "plan", "bottle", "slips"] []) (Z : Fx K mg) : Fn P w K mg base T "_law_out" 1 m_law_out := by
  refine fn_mk (g := b_law_out) F sc_law_out hm hb fun cdv A outer s H E hr => ?_
  have hu := hr.units
  exact (ss_cons (s_asg e_non (g_name 4 sc_law_out.nd))
      (ss_cons (s_for ownB (by rfl) (i_range1 (by rfl) Z.b_range (a_cons e_int a_nil)) (g_name 5 sc_law_out.nd) (ss_cons (s_for ownB (by rfl) (i_seq (e_ix (e_var 1) e_int)) (g_name 6 sc_law_out.nd) (ss_cons (s_asg (e_ix (e_ix (e_var 0) e_int) (e_var 6)) (g_tup (by rfl) (gs_cons (g_name 7 sc_law_out.nd) (gs_cons (g_name 8 sc_law_out.nd) (gs_cons (g_name 9 sc_law_out.nd) gs_nil)))))
      (ss_one (s_if (t_pt (w_and (t_cmp c_isN (e_var 4) e_non) (w_and (t_cmp (c_eq hu) (e_var 7) (e_var 5)) (w_and1 (t_cmp c_notIn (e_var 6) (e_var 3)))))) (ss_one (s_if (t_cmp (c_ne hu) (e_lc (own := [("fault", 10)]) (by rfl) sc_law_out.nd (i_seq (e_var 2)) (blkOk_by (own := [("fault", 10)]) (N := ["belt", "plan", "bottle", "slips", "spot", "place", "number", "at", "price", "own", "fault"]) (sc := defScope s_law_out) (by decide +kernel)) (fun _ _ _ _ _ => (g_name 10 sc_law_out.nd)) (fun _ _ _ _ _ => (ts_one (t_pt (w_and (t_cmp c_in (e_var 10) (e_var 9)) (w_and1 (t_cmp (c_le hu) (e_ix (e_ix (e_var 0) e_int) (e_var 10)) (e_var 7))))))) (fun _ _ _ _ _ => (e_var 10)) (by decide)) (e_lst a_nil)) (ss_one (s_asg (e_var 6) (g_name 4 sc_law_out.nd))) ss_nil)) ss_nil))))
      (ss_one (s_for ownB (by rfl) (i_seq (e_ix (e_var 1) e_int)) (g_name 6 sc_law_out.nd) (ss_one (s_if (t_pt (w_and (t_cmp c_notN (e_var 4) e_non) (w_and1 (t_cmp (c_eq hu) (e_ix (e_ix (e_ix (e_var 0) e_int) (e_var 6)) e_int) (e_var 5))))) (ss_one (s_ret (e_tup (a_cons (e_var 4) (a_cons (e_var 6) a_nil))))) ss_nil))))))
      (ss_one (s_ret e_non))))
abbrev s_law_rows : Stmt := topS 43
theorem sc_law_rows : FnScope ["many", "found", "number", "row"] ["many"] (defScope s_law_rows) := ⟨rfl, rfl, rfl, by decide +kernel, rfl, by decide +kernel, by decide +kernel⟩
theorem ok_law_rows {f : Addr} {fd : FuncData} (F : Fun K "_law_rows" "_law_rows" s_law_rows f fd) (hm : mg "_law_rows" = some (.ref f)) (hb : Binds K fd ["many"] []) (Z : Fx K mg) : Fn P w K mg base T "_law_rows" 1 m_law_rows := by
  refine fn_mk (g := b_law_rows) F sc_law_rows hm hb fun cdv A outer s H E hr => ?_
  have hu := hr.units
  exact (ss_cons (s_own (i := 1) sc_law_rows.nd (a_cons (e_tup a_nil) a_nil))
      (ss_cons (s_for ownB (by rfl) (i_range1 (by rfl) Z.b_range (a_cons (e_var 0) a_nil)) (g_name 2 sc_law_rows.nd) (ss_one (s_frz 1 (s_asg (e_op b_add (e_var 1) (e_lc (own := [("row", 3)]) (by rfl) sc_law_rows.nd (i_seq (e_var 1)) (blkOk_by (own := [("row", 3)]) (N := ["many", "found", "number", "row"]) (sc := defScope s_law_rows) (by decide +kernel)) (fun _ _ _ _ _ => (g_name 3 sc_law_rows.nd)) (fun _ _ _ _ _ => ts_nil) (fun _ _ _ _ _ => (e_op b_add (e_var 3) (e_tup (a_cons (e_var 2) a_nil)))) (by decide))) (g_name 1 sc_law_rows.nd)))))
      (ss_one (s_frz 1 (s_ret (e_var 1))))))
abbrev s_law_bears : Stmt := topS 44
theorem sc_law_bears : FnScope ["belt", "plan", "count", "fault", "row", "slips", "at"] ["belt", "plan", "count"] (defScope s_law_bears) := ⟨rfl, rfl, rfl, by decide +kernel, rfl, by decide +kernel, by decide +kernel⟩
theorem ok_law_bears {f : Addr} {fd : FuncData} (F : Fun K "_law_bears" "_law_bears" s_law_bears f fd) (hm : mg "_law_bears" = some (.ref f)) (hb : Binds K fd ["belt", "plan", "count"] []) (Z : Fx K mg) (d_law_rows : Fn P w K mg base T "_law_rows" 1 m_law_rows) (d_law_out : Fn P w K mg base T "_law_out" 1 m_law_out) : Fn P w K mg base T "_law_bears" 2 m_law_bears := by
  refine fn_mk (g := b_law_bears) F sc_law_bears hm hb fun cdv A outer s H E hr => ?_
  have hu := hr.units
  exact (ss_cons (s_for ownB (by rfl) (i_range1 (by rfl) Z.b_range (a_cons (e_callB f_len (by rfl) Z.b_len (by decide +kernel) (a_cons (e_ix (e_var 0) e_int) a_nil)) a_nil)) (g_name 3 sc_law_bears.nd) (ss_one (s_for ownB (by rfl) (i_seq (e_call d_law_rows (hr.mono (by decide)) passB (by rfl) (a_cons (e_callB f_len (by rfl) Z.b_len (by decide +kernel) (a_cons (e_ix (e_var 1) e_int) a_nil)) a_nil))) (g_name 4 sc_law_bears.nd) (ss_cons (s_asg (e_callTy f_tuple (by rfl) Z.b_tuple (by decide +kernel) (a_cons (e_lc (own := [("at", 6)]) (by rfl) sc_law_bears.nd (i_seq (e_var 4)) (blkOk_by (own := [("at", 6)]) (N := ["belt", "plan", "count", "fault", "row", "slips", "at"]) (sc := defScope s_law_bears) (by decide +kernel)) (fun _ _ _ _ _ => (g_name 6 sc_law_bears.nd)) (fun _ _ _ _ _ => ts_nil) (fun _ _ _ _ _ => (e_ix (e_ix (e_var 1) e_int) (e_var 6))) (by decide)) a_nil)) (g_name 5 sc_law_bears.nd))
      (ss_one (s_if (t_pt (w_and (t_cmp (c_le hu) (e_callB f_len (by rfl) Z.b_len (by decide +kernel) (a_cons (e_var 4) a_nil)) (e_var 2)) (w_and1 (t_cmp c_isN (e_call d_law_out (hr.mono (by decide)) passB (by rfl) (a_cons (e_var 0) (a_cons (e_var 1) (a_cons (e_tup (a_cons (e_var 3) a_nil)) (a_cons (e_var 5) a_nil))))) e_non)))) (ss_one (s_ret e_bl)) ss_nil))))))
      (ss_one (s_ret e_bl)))
abbrev s_law_holds : Stmt := topS 45
theorem sc_law_holds : FnScope ["belt", "plan", "fault", "spot"] ["belt", "plan", "fault"] (defScope s_law_holds) := ⟨rfl, rfl, rfl, by decide +kernel, rfl, by decide +kernel, by decide +kernel⟩
theorem ok_law_holds {f : Addr} {fd : FuncData} (F : Fun K "_law_holds" "_law_holds" s_law_holds f fd) (hm : mg "_law_holds" = some (.ref f)) (hb : Binds K fd ["belt", "plan", "fault"] []) (Z : Fx K mg) (d_law_out : Fn P w K mg base T "_law_out" 1 m_law_out) : Fn P w K mg base T "_law_holds" 2 m_law_holds := by
  refine fn_mk (g := b_law_holds) F sc_law_holds hm hb fun cdv A outer s H E hr => ?_
  have hu := hr.units
  exact (ss_one (s_ret (e_lc (own := [("spot", 3)]) (by rfl) sc_law_holds.nd (i_seq (e_ix (e_var 1) e_int)) (blkOk_by (own := [("spot", 3)]) (N := ["belt", "plan", "fault", "spot"]) (sc := defScope s_law_holds) (by decide +kernel)) (fun _ _ _ _ _ => (g_name 3 sc_law_holds.nd)) (fun _ _ _ _ _ => (ts_one (t_cmp c_notN (e_call d_law_out (hr.mono (by decide)) passN (by rfl) (a_cons (e_var 0) (a_cons (e_tup (a_cons (e_tup (a_cons (e_var 3) a_nil)) (a_cons (e_ix (e_var 1) e_int) a_nil))) (a_cons (e_tup (a_cons (e_var 2) a_nil)) (a_cons (e_tup a_nil) a_nil))))) e_non))) (fun _ _ _ _ _ => (e_var 3)) (by decide))))
abbrev s_law_no_sooner : Stmt := topS 46
theorem sc_law_no_sooner : FnScope ["belt", "plan", "whole", "row", "slips", "some", "at", "one"] ["belt", "plan"] (defScope s_law_no_sooner) := ⟨rfl, rfl, rfl, by decide +kernel, rfl, by decide +kernel, by decide +kernel⟩
theorem ok_law_no_sooner {f : Addr} {fd : FuncData} (F : Fun K "_law_no_sooner" "_law_no_sooner" s_law_no_sooner f fd) (hm : mg "_law_no_sooner" = some (.ref f)) (hb : Binds K fd ["belt", "plan"] []) (Z : Fx K mg) (d_law_rows : Fn P w K mg base T "_law_rows" 1 m_law_rows) (d_out : Fn P w K mg base T "out" 6 m_out) : Fn P w K mg base T "_law_no_sooner" 7 m_law_no_sooner := by
  refine fn_mk (g := b_law_no_sooner) F sc_law_no_sooner hm hb fun cdv A outer s H E hr => ?_
  have hu := hr.units
  exact (ss_cons (s_asg (e_tupRg (by rfl) (by rfl) Z.b_tuple (by rfl) Z.b_range (e_callB f_len (by rfl) Z.b_len (by decide +kernel) (a_cons (e_ix (e_var 0) e_int) a_nil))) (g_name 2 sc_law_no_sooner.nd))
      (ss_cons (s_for ownB (by rfl) (i_seq (e_call d_law_rows (hr.mono (by decide)) passB (by rfl) (a_cons (e_callB f_len (by rfl) Z.b_len (by decide +kernel) (a_cons (e_ix (e_var 1) e_int) a_nil)) a_nil))) (g_name 3 sc_law_no_sooner.nd) (ss_cons (s_asg (e_callTy f_tuple (by rfl) Z.b_tuple (by decide +kernel) (a_cons (e_lc (own := [("at", 6)]) (by rfl) sc_law_no_sooner.nd (i_seq (e_var 3)) (blkOk_by (own := [("at", 6)]) (N := ["belt", "plan", "whole", "row", "slips", "some", "at", "one"]) (sc := defScope s_law_no_sooner) (by decide +kernel)) (fun _ _ _ _ _ => (g_name 6 sc_law_no_sooner.nd)) (fun _ _ _ _ _ => ts_nil) (fun _ _ _ _ _ => (e_ix (e_ix (e_var 1) e_int) (e_var 6))) (by decide)) a_nil)) (g_name 4 sc_law_no_sooner.nd))
      (ss_cons (s_setLc (i := 5) (own := [("one", 7)]) (by rfl) sc_law_no_sooner.nd (by rfl) (by rfl) (sw_true (by rfl) (by rfl) (by rfl) (by decide +kernel)) (i_seq (e_var 2)) (blkOk_by (own := [("one", 7)]) (N := ["belt", "plan", "whole", "row", "slips", "some", "at", "one"]) (sc := defScope s_law_no_sooner) (by decide +kernel)) (fun _ _ _ _ _ => (g_name 7 sc_law_no_sooner.nd)) (fun _ _ _ _ _ => (ts_one (t_cmp c_notN (e_call d_out (hr.mono (by decide)) passN (by rfl) (a_cons (e_var 0) (a_cons (e_var 1) (a_cons (e_tup (a_cons (e_var 7) a_nil)) (a_cons (e_var 4) a_nil))))) e_non))) (fun _ _ _ _ _ => (e_var 7)) (by decide))
      (ss_one (s_if (t_pt (w_and (t_cmp c_isN (e_call d_out (hr.mono (by decide)) passB (by rfl) (a_cons (e_var 0) (a_cons (e_var 1) (a_cons (e_var 2) (a_cons (e_var 4) a_nil))))) e_non) (w_and1 (t_cmp (c_ne hu) (e_var 5) (e_lst a_nil))))) (ss_one (s_ret e_bl)) ss_nil)))))
      (ss_one (s_ret e_bl))))
abbrev s_law : Stmt := topS 47
theorem sc_law : FnScope ["script", "k", "more", "j", "here", "belt", "plan", "flags", "due", "count", "told", "bottle", "slips", "rows", "first", "bad", "some", "flag", "fault"] ["script"] (defScope s_law) := ⟨rfl, rfl, rfl, by decide +kernel, rfl, by decide +kernel, by decide +kernel⟩
theorem okX_law {f : Addr} {fd : FuncData} (F : Fun K "law" "law" s_law f fd) (Z : Fx K mg) {c Pt : Addr} (hcode : fd.code = .ref c) (TB : LamX.TabB base mg c Pt) (hmT : (Pt, lamQ "law") ∈ T) (huT : ∀ p ∈ T, p.1 = Pt → p.2 = lamQ "law") (tl : Told P w K mg base T 6 ws) (d_law_drawn : Fn P w K mg base T "_law_drawn" 1 m_law_drawn) (d_law_cell : Fn P w K mg base T "_law_cell" 1 m_law_cell) (d_law_belt : Fn P w K mg base T "_law_belt" 3 m_law_belt) (d_law_plan : Fn P w K mg base T "_law_plan" 3 m_law_plan) (d_law_bears : Fn P w K mg base T "_law_bears" 2 m_law_bears) (d_lets : Fn P w K mg base T "lets" 6 m_lets) (d_law_no_sooner : Fn P w K mg base T "_law_no_sooner" 7 m_law_no_sooner) (d_borne : Fn P w K mg base T "borne" 6 m_borne) (d_law_holds : Fn P w K mg base T "_law_holds" 2 m_law_holds) (d_out : Fn P w K mg base T "out" 6 m_out) : FnOk P w K mg base (L2N.CX P w) 9 f fd ["script"] (spD mg T m_law) := by
  refine fn_mkXL (g := b_law) (m := m_law) F hcode sc_law rfl fun A outer s H E hr => ?_
  have hu := hr.units
  exact (ss_cons (s_for ownB (by rfl) (i_range1 (by rfl) Z.b_range (a_cons (e_callB (f_max2 (by rfl)) (by rfl) Z.b_max (by decide +kernel) (a_cons e_int (a_cons (e_callB (f_min2 (by rfl)) (by rfl) Z.b_min (by decide +kernel) (a_cons e_int (a_cons (e_callB f_len (by rfl) Z.b_len (by decide +kernel) (a_cons (e_var 0) a_nil)) a_nil))) a_nil))) a_nil)) (g_name 1 sc_law.nd) (ss_cons (s_asg (e_call d_law_drawn (hr.mono (by decide)) passB (by rfl) (a_cons (e_call d_law_cell (hr.mono (by decide)) passB (by rfl) (a_cons (e_var 0) (a_cons (e_var 1) a_nil))) (a_cons (e_var 1) a_nil))) (g_name 2 sc_law.nd))
      (ss_cons (s_for ownB (by rfl) (i_range1 (by rfl) Z.b_range (a_cons e_int a_nil)) (g_name 3 sc_law.nd) (ss_cons (s_asg (e_call d_law_drawn (hr.mono (by decide)) passB (by rfl) (a_cons (e_var 2) (a_cons (e_op b_add e_int (e_var 3)) a_nil))) (g_name 4 sc_law.nd))
      (ss_cons (s_asg (e_call d_law_belt (hr.mono (by decide)) passB (by rfl) (a_cons (e_var 4) (a_cons e_int a_nil))) (g_name 5 sc_law.nd))
      (ss_cons (s_asg (e_call d_law_plan (hr.mono (by decide)) passB (by rfl) (a_cons (e_call d_law_drawn (hr.mono (by decide)) passB (by rfl) (a_cons (e_var 4) (a_cons e_int a_nil))) (a_cons (e_var 5) a_nil))) (g_name 6 sc_law.nd))
      (ss_cons (s_setLc (i := 7) (own := [("count", 9)]) (by rfl) sc_law.nd (by rfl) (by rfl) (sw_true (by rfl) (by rfl) (by rfl) (by decide +kernel)) (i_range1 (by rfl) Z.b_range (a_cons e_int a_nil)) (blkOk_by (own := [("count", 9)]) (N := ["script", "k", "more", "j", "here", "belt", "plan", "flags", "due", "count", "told", "bottle", "slips", "rows", "first", "bad", "some", "flag", "fault"]) (sc := defScope s_law) (by decide +kernel)) (fun _ _ _ _ _ => (g_name 9 sc_law.nd)) (fun _ _ _ _ _ => ts_nil) (fun _ _ _ _ _ => (e_call d_law_bears (hr.mono (by decide)) passN (by rfl) (a_cons (e_var 5) (a_cons (e_var 6) (a_cons (e_var 9) a_nil))))) (by decide))
      (ss_cons (s_asg (e_op b_sub (e_callB f_len (by rfl) Z.b_len (by decide +kernel) (a_cons (e_lc (own := [("flag", 17)]) (by rfl) sc_law.nd (i_seq (e_var 7)) (blkOk_by (own := [("flag", 17)]) (N := ["script", "k", "more", "j", "here", "belt", "plan", "flags", "due", "count", "told", "bottle", "slips", "rows", "first", "bad", "some", "flag", "fault"]) (sc := defScope s_law) (by decide +kernel)) (fun _ _ _ _ _ => (g_name 17 sc_law.nd)) (fun _ _ _ _ _ => (ts_one (t_val (e_var 17)))) (fun _ _ _ _ _ => (e_var 17)) (by decide)) a_nil)) e_int) (g_name 8 sc_law.nd))
      (ss_cons (s_if (t_pt (w_or (t_cmp (c_ne hu) (e_var 7) (e_revA (e_callB (f_sorted hu) (by rfl) Z.b_sorted (by decide +kernel) (a_cons (e_var 7) a_nil)))) (w_or1 (t_cmp (c_ne hu) (e_call d_borne (hr.mono (by decide)) passB (by rfl) (a_cons (e_var 5) (a_cons (e_var 6) a_nil))) (e_if (t_cmp (c_ge hu) (e_var 8) e_int) (e_var 8) e_non))))) (ss_one (s_ret e_bl)) ss_nil)
      (ss_cons (s_for ownB (by rfl) (i_range1 (by rfl) Z.b_range (a_cons e_int a_nil)) (g_name 9 sc_law.nd) (ss_cons (s_asg (e_call d_lets (hr.mono (by decide)) passB (by rfl) (a_cons (e_var 5) (a_cons (e_var 6) (a_cons (e_var 9) a_nil)))) (g_name 10 sc_law.nd))
      (ss_cons (s_if (t_cmp (c_ne hu) (e_cmp c_isN (e_var 10) e_non) (e_ix (e_var 7) (e_var 9))) (ss_one (s_ret e_bl)) ss_nil)
      (ss_cons (s_if (t_cmp c_isN (e_var 10) e_non) (ss_one s_continue) ss_nil)
      (ss_cons (s_asg (e_var 10) (g_tup (by rfl) (gs_cons (g_name 11 sc_law.nd) (gs_cons (g_name 12 sc_law.nd) gs_nil))))
      (ss_cons (s_asg (e_lc (own := [("fault", 18)]) (by rfl) sc_law.nd (i_range1 (by rfl) Z.b_range (a_cons (e_callB f_len (by rfl) Z.b_len (by decide +kernel) (a_cons (e_ix (e_var 5) e_int) a_nil)) a_nil)) (blkOk_by (own := [("fault", 18)]) (N := ["script", "k", "more", "j", "here", "belt", "plan", "flags", "due", "count", "told", "bottle", "slips", "rows", "first", "bad", "some", "flag", "fault"]) (sc := defScope s_law) (by decide +kernel)) (fun _ _ _ _ _ => (g_name 18 sc_law.nd)) (fun _ _ _ _ _ => ts_nil) (fun _ _ _ _ _ => (e_call d_law_holds (hr.mono (by decide)) passN (by rfl) (a_cons (e_var 5) (a_cons (e_var 6) (a_cons (e_var 18) a_nil))))) (by decide)) (g_name 13 sc_law.nd))
      (ss_cons (s_asg (e_ix (e_lc (own := [("fault", 18)]) (by rfl) sc_law.nd (i_range1 (by rfl) Z.b_range (a_cons (e_callB f_len (by rfl) Z.b_len (by decide +kernel) (a_cons (e_var 13) a_nil)) a_nil)) (blkOk_by (own := [("fault", 18)]) (N := ["script", "k", "more", "j", "here", "belt", "plan", "flags", "due", "count", "told", "bottle", "slips", "rows", "first", "bad", "some", "flag", "fault"]) (sc := defScope s_law) (by decide +kernel)) (fun _ _ _ _ _ => (g_name 18 sc_law.nd)) (fun _ _ _ _ _ => (ts_one (t_cmp (c_le hu) (e_callB f_len (by rfl) Z.b_len (by decide +kernel) (a_cons (e_ix (e_var 13) (e_var 18)) a_nil)) (e_var 9)))) (fun _ _ _ _ _ => (e_var 18)) (by decide)) e_int) (g_name 14 sc_law.nd))
      (ss_cons (s_if (t_pt (w_or (t_cmp (c_ne hu) (e_var 11) (e_tup (a_cons (e_var 14) a_nil))) (w_or (t_cmp (c_ne hu) (e_callTy f_list (by rfl) Z.b_list (by decide +kernel) (a_cons (e_var 12) a_nil)) (e_ix (e_var 13) (e_var 14))) (w_or1 (t_cmp c_notN (e_call d_out (hr.mono (by decide)) passB (by rfl) (a_cons (e_var 5) (a_cons (e_var 6) (a_cons (e_var 11) (a_cons (e_var 12) a_nil))))) e_non))))) (ss_one (s_ret e_bl)) ss_nil)
      (ss_one (s_if (t_pt (w_and (t_cmp (c_ne hu) (e_var 12) (e_tup a_nil)) (w_and1 (t_cmp c_isN (e_call d_out (hr.mono (by decide)) passB (by rfl) (a_cons (e_var 5) (a_cons (e_var 6) (a_cons (e_var 11) (a_cons (e_sl (e_var 12) (o_some e_int) o_none) a_nil))))) e_non)))) (ss_one (s_ret e_bl)) ss_nil))))))))))
      (ss_one (s_if (t_not (t_val (e_call d_law_no_sooner (hr.mono (by decide)) passB (by rfl) (a_cons (e_var 5) (a_cons (e_var 6) a_nil))))) (ss_one (s_ret e_bl)) ss_nil))))))))))
      (ss_cons (s_for ownB (by rfl) (i_seq (e_lst (a_cons (e_neg e_int) (a_cons e_int (a_cons e_non (a_cons e_bl (a_cons e_str a_nil))))))) (g_name 15 sc_law.nd) (ss_one (s_if (t_cmp (c_ne hu) (e_told tl (by rfl) TB rfl hmT huT (hr.mono (by decide)) (LamX.lamS_by (sc := defScope s_law) (by decide +kernel)) (by rfl) (fun _ _ _ _ _ => rfl) (fun _ _ _ _ _ _ _ hr => (e_call d_lets (hr.mono (by decide)) passLam (by rfl) (a_cons (e_var 5) (a_cons (e_var 6) (a_cons (e_var 15) a_nil)))))) e_str) (ss_one (s_ret e_bl)) ss_nil)))
      (ss_cons (s_own (i := 16) sc_law.nd (a_cons (e_told tl (by rfl) TB rfl hmT huT (hr.mono (by decide)) (LamX.lamS_by (sc := defScope s_law) (by decide +kernel)) (by rfl) (fun _ _ _ _ _ => rfl) (fun _ _ _ _ _ _ _ hr => (e_call d_lets (hr.mono (by decide)) passLam (by rfl) (a_cons (e_var 5) (a_cons e_non (a_cons (e_neg e_int) a_nil)))))) a_nil))
      (ss_cons (s_app (i := 16) (e_told tl (by rfl) TB rfl hmT huT (hr.mono (by decide)) (LamX.lamS_by (sc := defScope s_law) (by decide +kernel)) (by rfl) (fun _ _ _ _ _ => rfl) (fun _ _ _ _ _ _ _ hr => (e_call d_borne (hr.mono (by decide)) passLam (by rfl) (a_cons (e_var 5) (a_cons e_non a_nil))))))
      (ss_one (s_frz 16 (s_if (t_cmp (c_ne hu) (e_var 16) (e_op b_mul (e_lst (a_cons e_str a_nil)) e_int)) (ss_one (s_ret e_bl)) ss_nil)))))))))
      (ss_one (s_ret e_bl)))
end
end Bl
namespace Bl
open PySem L2 Dl
open LamX (ExtN Tabs)
def isaW (c x : Str) : Bool := x == c || x == "ValueError"
theorem fRaw_e (a : Addr) (b : Bool) (ρ : Dl.Env) : fRaw 0 a b (.raw (.ref a) :: ρ) = .ok (.bool b) := by
  show (if a = a then R.ok (PyData.bool b) else .bad) = _
  rw [if_pos rfl]
theorem word_BadBelt (a : Addr) : b_law_word a (isaW "BadBelt") (.raw (.ref a) :: List.replicate 2 Slot.non) = .ret (.str "BadBelt") := by
  have i_BadBelt : isaW "BadBelt" "BadBelt" = true := by decide +kernel
  have i_BadPlan : isaW "BadBelt" "BadPlan" = false := by decide +kernel
  have i_BadBottle : isaW "BadBelt" "BadBottle" = false := by decide +kernel
  have i_BadNumber : isaW "BadBelt" "BadNumber" = false := by decide +kernel
  have i_BadPaper : isaW "BadBelt" "BadPaper" = false := by decide +kernel
  have i_NoPlan : isaW "BadBelt" "NoPlan" = false := by decide +kernel
  have i_BadText : isaW "BadBelt" "BadText" = false := by decide +kernel
  have i_ValueError : isaW "BadBelt" "ValueError" = true := by decide +kernel
  unfold b_law_word
  simp [sSeq, sOwn, frz, fRaw_e, gInts, gIndexT, asBls, dSum, asInts, gAdd, i_BadBelt, i_BadPlan, i_BadBottle, i_BadNumber, i_BadPaper, i_NoPlan, i_BadText, i_ValueError, List.findIdx?_cons]
  all_goals rfl
theorem word_BadPlan (a : Addr) : b_law_word a (isaW "BadPlan") (.raw (.ref a) :: List.replicate 2 Slot.non) = .ret (.str "BadPlan") := by
  have i_BadBelt : isaW "BadPlan" "BadBelt" = false := by decide +kernel
  have i_BadPlan : isaW "BadPlan" "BadPlan" = true := by decide +kernel
  have i_BadBottle : isaW "BadPlan" "BadBottle" = false := by decide +kernel
  have i_BadNumber : isaW "BadPlan" "BadNumber" = false := by decide +kernel
  have i_BadPaper : isaW "BadPlan" "BadPaper" = false := by decide +kernel
  have i_NoPlan : isaW "BadPlan" "NoPlan" = false := by decide +kernel
  have i_BadText : isaW "BadPlan" "BadText" = false := by decide +kernel
  have i_ValueError : isaW "BadPlan" "ValueError" = true := by decide +kernel
  unfold b_law_word
  simp [sSeq, sOwn, frz, fRaw_e, gInts, gIndexT, asBls, dSum, asInts, gAdd, i_BadBelt, i_BadPlan, i_BadBottle, i_BadNumber, i_BadPaper, i_NoPlan, i_BadText, i_ValueError, List.findIdx?_cons]
  all_goals rfl
theorem word_BadBottle (a : Addr) : b_law_word a (isaW "BadBottle") (.raw (.ref a) :: List.replicate 2 Slot.non) = .ret (.str "BadBottle") := by
  have i_BadBelt : isaW "BadBottle" "BadBelt" = false := by decide +kernel
  have i_BadPlan : isaW "BadBottle" "BadPlan" = false := by decide +kernel
  have i_BadBottle : isaW "BadBottle" "BadBottle" = true := by decide +kernel
  have i_BadNumber : isaW "BadBottle" "BadNumber" = false := by decide +kernel
  have i_BadPaper : isaW "BadBottle" "BadPaper" = false := by decide +kernel
  have i_NoPlan : isaW "BadBottle" "NoPlan" = false := by decide +kernel
  have i_BadText : isaW "BadBottle" "BadText" = false := by decide +kernel
  have i_ValueError : isaW "BadBottle" "ValueError" = true := by decide +kernel
  unfold b_law_word
  simp [sSeq, sOwn, frz, fRaw_e, gInts, gIndexT, asBls, dSum, asInts, gAdd, i_BadBelt, i_BadPlan, i_BadBottle, i_BadNumber, i_BadPaper, i_NoPlan, i_BadText, i_ValueError, List.findIdx?_cons]
  all_goals rfl
theorem word_BadNumber (a : Addr) : b_law_word a (isaW "BadNumber") (.raw (.ref a) :: List.replicate 2 Slot.non) = .ret (.str "BadNumber") := by
  have i_BadBelt : isaW "BadNumber" "BadBelt" = false := by decide +kernel
  have i_BadPlan : isaW "BadNumber" "BadPlan" = false := by decide +kernel
  have i_BadBottle : isaW "BadNumber" "BadBottle" = false := by decide +kernel
  have i_BadNumber : isaW "BadNumber" "BadNumber" = true := by decide +kernel
  have i_BadPaper : isaW "BadNumber" "BadPaper" = false := by decide +kernel
  have i_NoPlan : isaW "BadNumber" "NoPlan" = false := by decide +kernel
  have i_BadText : isaW "BadNumber" "BadText" = false := by decide +kernel
  have i_ValueError : isaW "BadNumber" "ValueError" = true := by decide +kernel
  unfold b_law_word
  simp [sSeq, sOwn, frz, fRaw_e, gInts, gIndexT, asBls, dSum, asInts, gAdd, i_BadBelt, i_BadPlan, i_BadBottle, i_BadNumber, i_BadPaper, i_NoPlan, i_BadText, i_ValueError, List.findIdx?_cons]
  all_goals rfl
theorem word_BadPaper (a : Addr) : b_law_word a (isaW "BadPaper") (.raw (.ref a) :: List.replicate 2 Slot.non) = .ret (.str "BadPaper") := by
  have i_BadBelt : isaW "BadPaper" "BadBelt" = false := by decide +kernel
  have i_BadPlan : isaW "BadPaper" "BadPlan" = false := by decide +kernel
  have i_BadBottle : isaW "BadPaper" "BadBottle" = false := by decide +kernel
  have i_BadNumber : isaW "BadPaper" "BadNumber" = false := by decide +kernel
  have i_BadPaper : isaW "BadPaper" "BadPaper" = true := by decide +kernel
  have i_NoPlan : isaW "BadPaper" "NoPlan" = false := by decide +kernel
  have i_BadText : isaW "BadPaper" "BadText" = false := by decide +kernel
  have i_ValueError : isaW "BadPaper" "ValueError" = true := by decide +kernel
  unfold b_law_word
  simp [sSeq, sOwn, frz, fRaw_e, gInts, gIndexT, asBls, dSum, asInts, gAdd, i_BadBelt, i_BadPlan, i_BadBottle, i_BadNumber, i_BadPaper, i_NoPlan, i_BadText, i_ValueError, List.findIdx?_cons]
  all_goals rfl
theorem word_NoPlan (a : Addr) : b_law_word a (isaW "NoPlan") (.raw (.ref a) :: List.replicate 2 Slot.non) = .ret (.str "NoPlan") := by
  have i_BadBelt : isaW "NoPlan" "BadBelt" = false := by decide +kernel
  have i_BadPlan : isaW "NoPlan" "BadPlan" = false := by decide +kernel
  have i_BadBottle : isaW "NoPlan" "BadBottle" = false := by decide +kernel
  have i_BadNumber : isaW "NoPlan" "BadNumber" = false := by decide +kernel
  have i_BadPaper : isaW "NoPlan" "BadPaper" = false := by decide +kernel
  have i_NoPlan : isaW "NoPlan" "NoPlan" = true := by decide +kernel
  have i_BadText : isaW "NoPlan" "BadText" = false := by decide +kernel
  have i_ValueError : isaW "NoPlan" "ValueError" = true := by decide +kernel
  unfold b_law_word
  simp [sSeq, sOwn, frz, fRaw_e, gInts, gIndexT, asBls, dSum, asInts, gAdd, i_BadBelt, i_BadPlan, i_BadBottle, i_BadNumber, i_BadPaper, i_NoPlan, i_BadText, i_ValueError, List.findIdx?_cons]
  all_goals rfl
theorem word_BadText (a : Addr) : b_law_word a (isaW "BadText") (.raw (.ref a) :: List.replicate 2 Slot.non) = .ret (.str "BadText") := by
  have i_BadBelt : isaW "BadText" "BadBelt" = false := by decide +kernel
  have i_BadPlan : isaW "BadText" "BadPlan" = false := by decide +kernel
  have i_BadBottle : isaW "BadText" "BadBottle" = false := by decide +kernel
  have i_BadNumber : isaW "BadText" "BadNumber" = false := by decide +kernel
  have i_BadPaper : isaW "BadText" "BadPaper" = false := by decide +kernel
  have i_NoPlan : isaW "BadText" "NoPlan" = false := by decide +kernel
  have i_BadText : isaW "BadText" "BadText" = true := by decide +kernel
  have i_ValueError : isaW "BadText" "ValueError" = true := by decide +kernel
  unfold b_law_word
  simp [sSeq, sOwn, frz, fRaw_e, gInts, gIndexT, asBls, dSum, asInts, gAdd, i_BadBelt, i_BadPlan, i_BadBottle, i_BadNumber, i_BadPaper, i_NoPlan, i_BadText, i_ValueError, List.findIdx?_cons]
  all_goals rfl
end Bl
namespace Bl
open PySem L2 Dl
open LamX (ExtN Tabs)
theorem all_mk {l : PySem.W.OpenLaw} {w : World} {K : PySem.W.Frag} {h : Heap} {mg : Str → Option Value} {fa : Addr} (X : K.In h) (G : h.Ns mainGlobals mg) (hfa : mg "law" = some (.ref fa))
    (tabs : TabsAt K mg h ["law"]) (nl : noList K = true)
    {cd0 : Value}
    {f0 : Addr} {od0 an0 : Option Addr} {sl0 : Array (Option Value)} {oc0 kV0 dc0 pm0 ct0 : Value}
    (a0 : PySem.W.nsIn K mainGlobals "is_count" = some (some (.ref f0))) (l0 : K.lookup f0 = some ⟨oc0, od0, .func (PySem.W.fnOf "is_count" "is_count" (defArgs s_is_count) (defBody s_is_count) (defScope s_is_count) .none kV0 dc0 pm0 an0 cd0 ct0), sl0⟩) (c0 : PySem.W.codeIn K cd0 "is_count" = true) (k0 : PySem.W.keepIn K (.ref f0) = true)
    {cd1 : Value}
    {f1 : Addr} {od1 an1 : Option Addr} {sl1 : Array (Option Value)} {oc1 kV1 dc1 pm1 ct1 : Value}
    (a1 : PySem.W.nsIn K mainGlobals "is_rising" = some (some (.ref f1))) (l1 : K.lookup f1 = some ⟨oc1, od1, .func (PySem.W.fnOf "is_rising" "is_rising" (defArgs s_is_rising) (defBody s_is_rising) (defScope s_is_rising) .none kV1 dc1 pm1 an1 cd1 ct1), sl1⟩) (c1 : PySem.W.codeIn K cd1 "is_rising" = true) (k1 : PySem.W.keepIn K (.ref f1) = true)
    {cd2 : Value}
    {f2 : Addr} {od2 an2 : Option Addr} {sl2 : Array (Option Value)} {oc2 kV2 dc2 pm2 ct2 : Value}
    (a2 : PySem.W.nsIn K mainGlobals "is_spot" = some (some (.ref f2))) (l2 : K.lookup f2 = some ⟨oc2, od2, .func (PySem.W.fnOf "is_spot" "is_spot" (defArgs s_is_spot) (defBody s_is_spot) (defScope s_is_spot) .none kV2 dc2 pm2 an2 cd2 ct2), sl2⟩) (c2 : PySem.W.codeIn K cd2 "is_spot" = true) (k2 : PySem.W.keepIn K (.ref f2) = true)
    {cd3 : Value}
    {f3 : Addr} {od3 an3 : Option Addr} {sl3 : Array (Option Value)} {oc3 kV3 dc3 pm3 ct3 : Value}
    (a3 : PySem.W.nsIn K mainGlobals "is_kicker" = some (some (.ref f3))) (l3 : K.lookup f3 = some ⟨oc3, od3, .func (PySem.W.fnOf "is_kicker" "is_kicker" (defArgs s_is_kicker) (defBody s_is_kicker) (defScope s_is_kicker) .none kV3 dc3 pm3 an3 cd3 ct3), sl3⟩) (c3 : PySem.W.codeIn K cd3 "is_kicker" = true) (k3 : PySem.W.keepIn K (.ref f3) = true)
    {cd4 : Value}
    {f4 : Addr} {od4 an4 : Option Addr} {sl4 : Array (Option Value)} {oc4 kV4 dc4 pm4 ct4 : Value}
    (a4 : PySem.W.nsIn K mainGlobals "is_belt" = some (some (.ref f4))) (l4 : K.lookup f4 = some ⟨oc4, od4, .func (PySem.W.fnOf "is_belt" "is_belt" (defArgs s_is_belt) (defBody s_is_belt) (defScope s_is_belt) .none kV4 dc4 pm4 an4 cd4 ct4), sl4⟩) (c4 : PySem.W.codeIn K cd4 "is_belt" = true) (k4 : PySem.W.keepIn K (.ref f4) = true)
    {cd5 : Value}
    {f5 : Addr} {od5 an5 : Option Addr} {sl5 : Array (Option Value)} {oc5 kV5 dc5 pm5 ct5 : Value}
    (a5 : PySem.W.nsIn K mainGlobals "need_belt" = some (some (.ref f5))) (l5 : K.lookup f5 = some ⟨oc5, od5, .func (PySem.W.fnOf "need_belt" "need_belt" (defArgs s_need_belt) (defBody s_need_belt) (defScope s_need_belt) .none kV5 dc5 pm5 an5 cd5 ct5), sl5⟩) (c5 : PySem.W.codeIn K cd5 "need_belt" = true) (k5 : PySem.W.keepIn K (.ref f5) = true)
    {cd6 : Value}
    {f6 : Addr} {od6 an6 : Option Addr} {sl6 : Array (Option Value)} {oc6 kV6 dc6 pm6 ct6 : Value}
    (a6 : PySem.W.nsIn K mainGlobals "sees" = some (some (.ref f6))) (l6 : K.lookup f6 = some ⟨oc6, od6, .func (PySem.W.fnOf "sees" "sees" (defArgs s_sees) (defBody s_sees) (defScope s_sees) .none kV6 dc6 pm6 an6 cd6 ct6), sl6⟩) (c6 : PySem.W.codeIn K cd6 "sees" = true) (k6 : PySem.W.keepIn K (.ref f6) = true)
    {cd7 : Value}
    {f7 : Addr} {od7 an7 : Option Addr} {sl7 : Array (Option Value)} {oc7 kV7 dc7 pm7 ct7 : Value}
    (a7 : PySem.W.nsIn K mainGlobals "first_kicker" = some (some (.ref f7))) (l7 : K.lookup f7 = some ⟨oc7, od7, .func (PySem.W.fnOf "first_kicker" "first_kicker" (defArgs s_first_kicker) (defBody s_first_kicker) (defScope s_first_kicker) .none kV7 dc7 pm7 an7 cd7 ct7), sl7⟩) (c7 : PySem.W.codeIn K cd7 "first_kicker" = true) (k7 : PySem.W.keepIn K (.ref f7) = true)
    {cd8 : Value}
    {f8 : Addr} {od8 an8 : Option Addr} {sl8 : Array (Option Value)} {oc8 kV8 dc8 pm8 ct8 : Value}
    (a8 : PySem.W.nsIn K mainGlobals "useful" = some (some (.ref f8))) (l8 : K.lookup f8 = some ⟨oc8, od8, .func (PySem.W.fnOf "useful" "useful" (defArgs s_useful) (defBody s_useful) (defScope s_useful) .none kV8 dc8 pm8 an8 cd8 ct8), sl8⟩) (c8 : PySem.W.codeIn K cd8 "useful" = true) (k8 : PySem.W.keepIn K (.ref f8) = true)
    {cd9 : Value}
    {f9 : Addr} {od9 an9 : Option Addr} {sl9 : Array (Option Value)} {oc9 kV9 dc9 pm9 ct9 : Value}
    (a9 : PySem.W.nsIn K mainGlobals "need_plan" = some (some (.ref f9))) (l9 : K.lookup f9 = some ⟨oc9, od9, .func (PySem.W.fnOf "need_plan" "need_plan" (defArgs s_need_plan) (defBody s_need_plan) (defScope s_need_plan) .none kV9 dc9 pm9 an9 cd9 ct9), sl9⟩) (c9 : PySem.W.codeIn K cd9 "need_plan" = true) (k9 : PySem.W.keepIn K (.ref f9) = true)
    {cd10 : Value}
    {f10 : Addr} {od10 an10 : Option Addr} {sl10 : Array (Option Value)} {oc10 kV10 dc10 pm10 ct10 : Value}
    (a10 : PySem.W.nsIn K mainGlobals "need_bottle" = some (some (.ref f10))) (l10 : K.lookup f10 = some ⟨oc10, od10, .func (PySem.W.fnOf "need_bottle" "need_bottle" (defArgs s_need_bottle) (defBody s_need_bottle) (defScope s_need_bottle) .none kV10 dc10 pm10 an10 cd10 ct10), sl10⟩) (c10 : PySem.W.codeIn K cd10 "need_bottle" = true) (k10 : PySem.W.keepIn K (.ref f10) = true)
    {cd11 : Value}
    {f11 : Addr} {od11 an11 : Option Addr} {sl11 : Array (Option Value)} {oc11 kV11 dc11 pm11 ct11 : Value}
    (a11 : PySem.W.nsIn K mainGlobals "need_count" = some (some (.ref f11))) (l11 : K.lookup f11 = some ⟨oc11, od11, .func (PySem.W.fnOf "need_count" "need_count" (defArgs s_need_count) (defBody s_need_count) (defScope s_need_count) .none kV11 dc11 pm11 an11 cd11 ct11), sl11⟩) (c11 : PySem.W.codeIn K cd11 "need_count" = true) (k11 : PySem.W.keepIn K (.ref f11) = true)
    {cd12 : Value}
    {f12 : Addr} {od12 an12 : Option Addr} {sl12 : Array (Option Value)} {oc12 kV12 dc12 pm12 ct12 : Value}
    (a12 : PySem.W.nsIn K mainGlobals "out_of" = some (some (.ref f12))) (l12 : K.lookup f12 = some ⟨oc12, od12, .func (PySem.W.fnOf "out_of" "out_of" (defArgs s_out_of) (defBody s_out_of) (defScope s_out_of) .none kV12 dc12 pm12 an12 cd12 ct12), sl12⟩) (c12 : PySem.W.codeIn K cd12 "out_of" = true) (k12 : PySem.W.keepIn K (.ref f12) = true)
    {cd13 : Value}
    {f13 : Addr} {od13 an13 : Option Addr} {sl13 : Array (Option Value)} {oc13 kV13 dc13 pm13 ct13 : Value}
    (a13 : PySem.W.nsIn K mainGlobals "out" = some (some (.ref f13))) (l13 : K.lookup f13 = some ⟨oc13, od13, .func (PySem.W.fnOf "out" "out" (defArgs s_out) (defBody s_out) (defScope s_out) .none kV13 dc13 pm13 an13 cd13 ct13), sl13⟩) (c13 : PySem.W.codeIn K cd13 "out" = true) (k13 : PySem.W.keepIn K (.ref f13) = true)
    {cd14 : Value}
    {f14 : Addr} {od14 an14 : Option Addr} {sl14 : Array (Option Value)} {oc14 kV14 dc14 pm14 ct14 : Value}
    (a14 : PySem.W.nsIn K mainGlobals "least_seen" = some (some (.ref f14))) (l14 : K.lookup f14 = some ⟨oc14, od14, .func (PySem.W.fnOf "least_seen" "least_seen" (defArgs s_least_seen) (defBody s_least_seen) (defScope s_least_seen) .none kV14 dc14 pm14 an14 cd14 ct14), sl14⟩) (c14 : PySem.W.codeIn K cd14 "least_seen" = true) (k14 : PySem.W.keepIn K (.ref f14) = true)
    {cd15 : Value}
    {f15 : Addr} {od15 an15 : Option Addr} {sl15 : Array (Option Value)} {oc15 kV15 dc15 pm15 ct15 : Value}
    (a15 : PySem.W.nsIn K mainGlobals "borne" = some (some (.ref f15))) (l15 : K.lookup f15 = some ⟨oc15, od15, .func (PySem.W.fnOf "borne" "borne" (defArgs s_borne) (defBody s_borne) (defScope s_borne) .none kV15 dc15 pm15 an15 cd15 ct15), sl15⟩) (c15 : PySem.W.codeIn K cd15 "borne" = true) (k15 : PySem.W.keepIn K (.ref f15) = true)
    {cd16 : Value}
    {f16 : Addr} {od16 an16 : Option Addr} {sl16 : Array (Option Value)} {oc16 kV16 dc16 pm16 ct16 : Value}
    (a16 : PySem.W.nsIn K mainGlobals "lets" = some (some (.ref f16))) (l16 : K.lookup f16 = some ⟨oc16, od16, .func (PySem.W.fnOf "lets" "lets" (defArgs s_lets) (defBody s_lets) (defScope s_lets) .none kV16 dc16 pm16 an16 cd16 ct16), sl16⟩) (c16 : PySem.W.codeIn K cd16 "lets" = true) (k16 : PySem.W.keepIn K (.ref f16) = true)
    {cd17 : Value}
    {f17 : Addr} {od17 an17 : Option Addr} {sl17 : Array (Option Value)} {oc17 kV17 dc17 pm17 ct17 : Value}
    (a17 : PySem.W.nsIn K mainGlobals "_law_cell" = some (some (.ref f17))) (l17 : K.lookup f17 = some ⟨oc17, od17, .func (PySem.W.fnOf "_law_cell" "_law_cell" (defArgs s_law_cell) (defBody s_law_cell) (defScope s_law_cell) .none kV17 dc17 pm17 an17 cd17 ct17), sl17⟩) (c17 : PySem.W.codeIn K cd17 "_law_cell" = true) (k17 : PySem.W.keepIn K (.ref f17) = true)
    {cd18 : Value}
    {f18 : Addr} {od18 an18 : Option Addr} {sl18 : Array (Option Value)} {oc18 kV18 dc18 pm18 ct18 : Value}
    (a18 : PySem.W.nsIn K mainGlobals "_law_drawn" = some (some (.ref f18))) (l18 : K.lookup f18 = some ⟨oc18, od18, .func (PySem.W.fnOf "_law_drawn" "_law_drawn" (defArgs s_law_drawn) (defBody s_law_drawn) (defScope s_law_drawn) .none kV18 dc18 pm18 an18 cd18 ct18), sl18⟩) (c18 : PySem.W.codeIn K cd18 "_law_drawn" = true) (k18 : PySem.W.keepIn K (.ref f18) = true)
    {cd19 : Value}
    {f19 : Addr} {od19 an19 : Option Addr} {sl19 : Array (Option Value)} {oc19 kV19 dc19 pm19 ct19 : Value}
    (a19 : PySem.W.nsIn K mainGlobals "_law_word" = some (some (.ref f19))) (l19 : K.lookup f19 = some ⟨oc19, od19, .func (PySem.W.fnOf "_law_word" "_law_word" (defArgs s_law_word) (defBody s_law_word) (defScope s_law_word) .none kV19 dc19 pm19 an19 cd19 ct19), sl19⟩) (c19 : PySem.W.codeIn K cd19 "_law_word" = true) (k19 : PySem.W.keepIn K (.ref f19) = true)
    {cd20 : Value}
    {f20 : Addr} {od20 an20 : Option Addr} {sl20 : Array (Option Value)} {oc20 kV20 dc20 pm20 ct20 : Value}
    (a20 : PySem.W.nsIn K mainGlobals "_law_told" = some (some (.ref f20))) (l20 : K.lookup f20 = some ⟨oc20, od20, .func (PySem.W.fnOf "_law_told" "_law_told" (defArgs s_law_told) (defBody s_law_told) (defScope s_law_told) .none kV20 dc20 pm20 an20 cd20 ct20), sl20⟩) (c20 : PySem.W.codeIn K cd20 "_law_told" = true) (k20 : PySem.W.keepIn K (.ref f20) = true)
    {cd21 : Value}
    {f21 : Addr} {od21 an21 : Option Addr} {sl21 : Array (Option Value)} {oc21 kV21 dc21 pm21 ct21 : Value}
    (a21 : PySem.W.nsIn K mainGlobals "_law_some" = some (some (.ref f21))) (l21 : K.lookup f21 = some ⟨oc21, od21, .func (PySem.W.fnOf "_law_some" "_law_some" (defArgs s_law_some) (defBody s_law_some) (defScope s_law_some) .none kV21 dc21 pm21 an21 cd21 ct21), sl21⟩) (c21 : PySem.W.codeIn K cd21 "_law_some" = true) (k21 : PySem.W.keepIn K (.ref f21) = true)
    {cd22 : Value}
    {f22 : Addr} {od22 an22 : Option Addr} {sl22 : Array (Option Value)} {oc22 kV22 dc22 pm22 ct22 : Value}
    (a22 : PySem.W.nsIn K mainGlobals "_law_belt" = some (some (.ref f22))) (l22 : K.lookup f22 = some ⟨oc22, od22, .func (PySem.W.fnOf "_law_belt" "_law_belt" (defArgs s_law_belt) (defBody s_law_belt) (defScope s_law_belt) .none kV22 dc22 pm22 an22 cd22 ct22), sl22⟩) (c22 : PySem.W.codeIn K cd22 "_law_belt" = true) (k22 : PySem.W.keepIn K (.ref f22) = true)
    {cd23 : Value}
    {f23 : Addr} {od23 an23 : Option Addr} {sl23 : Array (Option Value)} {oc23 kV23 dc23 pm23 ct23 : Value}
    (a23 : PySem.W.nsIn K mainGlobals "_law_plan" = some (some (.ref f23))) (l23 : K.lookup f23 = some ⟨oc23, od23, .func (PySem.W.fnOf "_law_plan" "_law_plan" (defArgs s_law_plan) (defBody s_law_plan) (defScope s_law_plan) .none kV23 dc23 pm23 an23 cd23 ct23), sl23⟩) (c23 : PySem.W.codeIn K cd23 "_law_plan" = true) (k23 : PySem.W.keepIn K (.ref f23) = true)
    {cd24 : Value}
    {f24 : Addr} {od24 an24 : Option Addr} {sl24 : Array (Option Value)} {oc24 kV24 dc24 pm24 ct24 : Value}
    (a24 : PySem.W.nsIn K mainGlobals "_law_out" = some (some (.ref f24))) (l24 : K.lookup f24 = some ⟨oc24, od24, .func (PySem.W.fnOf "_law_out" "_law_out" (defArgs s_law_out) (defBody s_law_out) (defScope s_law_out) .none kV24 dc24 pm24 an24 cd24 ct24), sl24⟩) (c24 : PySem.W.codeIn K cd24 "_law_out" = true) (k24 : PySem.W.keepIn K (.ref f24) = true)
    {cd25 : Value}
    {f25 : Addr} {od25 an25 : Option Addr} {sl25 : Array (Option Value)} {oc25 kV25 dc25 pm25 ct25 : Value}
    (a25 : PySem.W.nsIn K mainGlobals "_law_rows" = some (some (.ref f25))) (l25 : K.lookup f25 = some ⟨oc25, od25, .func (PySem.W.fnOf "_law_rows" "_law_rows" (defArgs s_law_rows) (defBody s_law_rows) (defScope s_law_rows) .none kV25 dc25 pm25 an25 cd25 ct25), sl25⟩) (c25 : PySem.W.codeIn K cd25 "_law_rows" = true) (k25 : PySem.W.keepIn K (.ref f25) = true)
    {cd26 : Value}
    {f26 : Addr} {od26 an26 : Option Addr} {sl26 : Array (Option Value)} {oc26 kV26 dc26 pm26 ct26 : Value}
    (a26 : PySem.W.nsIn K mainGlobals "_law_bears" = some (some (.ref f26))) (l26 : K.lookup f26 = some ⟨oc26, od26, .func (PySem.W.fnOf "_law_bears" "_law_bears" (defArgs s_law_bears) (defBody s_law_bears) (defScope s_law_bears) .none kV26 dc26 pm26 an26 cd26 ct26), sl26⟩) (c26 : PySem.W.codeIn K cd26 "_law_bears" = true) (k26 : PySem.W.keepIn K (.ref f26) = true)
    {cd27 : Value}
    {f27 : Addr} {od27 an27 : Option Addr} {sl27 : Array (Option Value)} {oc27 kV27 dc27 pm27 ct27 : Value}
    (a27 : PySem.W.nsIn K mainGlobals "_law_holds" = some (some (.ref f27))) (l27 : K.lookup f27 = some ⟨oc27, od27, .func (PySem.W.fnOf "_law_holds" "_law_holds" (defArgs s_law_holds) (defBody s_law_holds) (defScope s_law_holds) .none kV27 dc27 pm27 an27 cd27 ct27), sl27⟩) (c27 : PySem.W.codeIn K cd27 "_law_holds" = true) (k27 : PySem.W.keepIn K (.ref f27) = true)
    {cd28 : Value}
    {f28 : Addr} {od28 an28 : Option Addr} {sl28 : Array (Option Value)} {oc28 kV28 dc28 pm28 ct28 : Value}
    (a28 : PySem.W.nsIn K mainGlobals "_law_no_sooner" = some (some (.ref f28))) (l28 : K.lookup f28 = some ⟨oc28, od28, .func (PySem.W.fnOf "_law_no_sooner" "_law_no_sooner" (defArgs s_law_no_sooner) (defBody s_law_no_sooner) (defScope s_law_no_sooner) .none kV28 dc28 pm28 an28 cd28 ct28), sl28⟩) (c28 : PySem.W.codeIn K cd28 "_law_no_sooner" = true) (k28 : PySem.W.keepIn K (.ref f28) = true)
    {cm29 Pm29 : Addr}
    {f29 : Addr} {od29 an29 : Option Addr} {sl29 : Array (Option Value)} {oc29 kV29 dc29 pm29 ct29 : Value}
    (a29 : PySem.W.nsIn K mainGlobals "law" = some (some (.ref f29))) (l29 : K.lookup f29 = some ⟨oc29, od29, .func (PySem.W.fnOf "law" "law" (defArgs s_law) (defBody s_law) (defScope s_law) .none kV29 dc29 pm29 an29 (.ref cm29) ct29), sl29⟩) (c29 : PySem.W.codeIn K (.ref cm29) "law" = true) (k29 : PySem.W.keepIn K (.ref f29) = true)
    (hd29 : PySem.W.codeHdIn K cm29 Pm29 = true) (np29 : K.lookup Pm29 = none)
    (zb_ValueError : PySem.W.nsIn K mainGlobals "ValueError" = some none)
    (zb_all : PySem.W.nsIn K mainGlobals "all" = some none)
    (zb_any : PySem.W.nsIn K mainGlobals "any" = some none)
    (zb_bool : PySem.W.nsIn K mainGlobals "bool" = some none)
    (zb_int : PySem.W.nsIn K mainGlobals "int" = some none)
    (zb_isinstance : PySem.W.nsIn K mainGlobals "isinstance" = some none)
    (zb_len : PySem.W.nsIn K mainGlobals "len" = some none)
    (zb_list : PySem.W.nsIn K mainGlobals "list" = some none)
    (zb_max : PySem.W.nsIn K mainGlobals "max" = some none)
    (zb_min : PySem.W.nsIn K mainGlobals "min" = some none)
    (zb_range : PySem.W.nsIn K mainGlobals "range" = some none)
    (zb_sorted : PySem.W.nsIn K mainGlobals "sorted" = some none)
    (zb_sum : PySem.W.nsIn K mainGlobals "sum" = some none)
    (zb_tuple : PySem.W.nsIn K mainGlobals "tuple" = some none)
    (zb_zip : PySem.W.nsIn K mainGlobals "zip" = some none)
    {tc_MOST_COST : Tok} (zc_MOST_COST : PySem.W.nsIn K mainGlobals "MOST_COST" = some (some (.int 20 tc_MOST_COST)))
    {tc_MOST_FAULTS : Tok} (zc_MOST_FAULTS : PySem.W.nsIn K mainGlobals "MOST_FAULTS" = some (some (.int 6 tc_MOST_FAULTS)))
    {tc_MOST_KICKERS : Tok} (zc_MOST_KICKERS : PySem.W.nsIn K mainGlobals "MOST_KICKERS" = some (some (.int 3 tc_MOST_KICKERS)))
    {tc_MOST_PLACE : Tok} (zc_MOST_PLACE : PySem.W.nsIn K mainGlobals "MOST_PLACE" = some (some (.int 99 tc_MOST_PLACE)))
    {tc_MOST_SLIPS : Tok} (zc_MOST_SLIPS : PySem.W.nsIn K mainGlobals "MOST_SLIPS" = some (some (.int 8 tc_MOST_SLIPS)))
    {tc_MOST_SPOTS : Tok} (zc_MOST_SPOTS : PySem.W.nsIn K mainGlobals "MOST_SPOTS" = some (some (.int 8 tc_MOST_SPOTS)))
    {C_BadBelt : Addr} (xa_BadBelt : PySem.W.nsIn K mainGlobals "BadBelt" = some (some (.ref C_BadBelt)))
    {C_BadPlan : Addr} (xa_BadPlan : PySem.W.nsIn K mainGlobals "BadPlan" = some (some (.ref C_BadPlan)))
    {C_BadBottle : Addr} (xa_BadBottle : PySem.W.nsIn K mainGlobals "BadBottle" = some (some (.ref C_BadBottle)))
    {C_BadNumber : Addr} (xa_BadNumber : PySem.W.nsIn K mainGlobals "BadNumber" = some (some (.ref C_BadNumber)))
    {C_BadPaper : Addr} (xa_BadPaper : PySem.W.nsIn K mainGlobals "BadPaper" = some (some (.ref C_BadPaper)))
    {C_NoPlan : Addr} (xa_NoPlan : PySem.W.nsIn K mainGlobals "NoPlan" = some (some (.ref C_NoPlan)))
    {C_BadText : Addr} (xa_BadText : PySem.W.nsIn K mainGlobals "BadText" = some (some (.ref C_BadText)))
    (xe_BadBelt : PySem.W.excIn K C_BadBelt [.type "ValueError", .type "Exception", .type "BaseException", .type "object"] "ValueError.__new__" = true) (xk_BadBelt : PySem.W.keepIn K (.ref C_BadBelt) = true) (xs_BadBelt : PySem.W.subIn K (.ref C_BadBelt) (.type "BaseException") = some true) (xt_BadBelt : PySem.W.typeIn K (.ref C_BadBelt) = some (.type "type"))
    (xe_BadBottle : PySem.W.excIn K C_BadBottle [.type "ValueError", .type "Exception", .type "BaseException", .type "object"] "ValueError.__new__" = true) (xk_BadBottle : PySem.W.keepIn K (.ref C_BadBottle) = true) (xs_BadBottle : PySem.W.subIn K (.ref C_BadBottle) (.type "BaseException") = some true) (xt_BadBottle : PySem.W.typeIn K (.ref C_BadBottle) = some (.type "type"))
    (xe_BadNumber : PySem.W.excIn K C_BadNumber [.type "ValueError", .type "Exception", .type "BaseException", .type "object"] "ValueError.__new__" = true) (xk_BadNumber : PySem.W.keepIn K (.ref C_BadNumber) = true) (xs_BadNumber : PySem.W.subIn K (.ref C_BadNumber) (.type "BaseException") = some true) (xt_BadNumber : PySem.W.typeIn K (.ref C_BadNumber) = some (.type "type"))
    (xe_BadPlan : PySem.W.excIn K C_BadPlan [.type "ValueError", .type "Exception", .type "BaseException", .type "object"] "ValueError.__new__" = true) (xk_BadPlan : PySem.W.keepIn K (.ref C_BadPlan) = true) (xs_BadPlan : PySem.W.subIn K (.ref C_BadPlan) (.type "BaseException") = some true) (xt_BadPlan : PySem.W.typeIn K (.ref C_BadPlan) = some (.type "type"))
    {CS : Addr} (ya : PySem.W.nsIn K mainGlobals "BeltError" = some (some (.ref CS)))
    (ex_BadBelt : PySem.W.exmOne K (.ref C_BadBelt) (.ref CS) = some true) (kv_BadBelt : PySem.W.kitOne K (.ref C_BadBelt) (.type "ValueError") = some true)
    (eg_BadBelt : PySem.W.findIn K (.ref C_BadBelt) "__getattribute__" = some (some (.builtin "BaseException.__getattribute__"))) (ek_BadBelt : PySem.W.findIn K (.ref C_BadBelt) "__getattr__" = some none) (es_BadBelt : PySem.W.subIn K (.ref C_BadBelt) (.type "BaseException") = some true) (ed_BadBelt : PySem.W.hasDictIn K C_BadBelt = true) (ea_BadBelt : PySem.W.findIn K (.ref C_BadBelt) "__class__" = some (some (.builtin "object.__class__"))) (en_BadBelt : PySem.W.specialIn K (.builtin "object.__class__") "__get__" = some (some (.builtin "getset_descriptor.__get__"))) (et_BadBelt : PySem.W.takesIn K (.builtin "object.__class__") = some true) (em_BadBelt : PySem.W.mroIn K C_BadBelt (.type "object") = some true)
    (kk_BadBelt_BadBelt : PySem.W.kitOne K (.ref C_BadBelt) (.ref C_BadBelt) = some true)
    (kk_BadBelt_BadPlan : PySem.W.kitOne K (.ref C_BadBelt) (.ref C_BadPlan) = some false)
    (kk_BadBelt_BadBottle : PySem.W.kitOne K (.ref C_BadBelt) (.ref C_BadBottle) = some false)
    (kk_BadBelt_BadNumber : PySem.W.kitOne K (.ref C_BadBelt) (.ref C_BadNumber) = some false)
    (kk_BadBelt_BadPaper : PySem.W.kitOne K (.ref C_BadBelt) (.ref C_BadPaper) = some false)
    (kk_BadBelt_NoPlan : PySem.W.kitOne K (.ref C_BadBelt) (.ref C_NoPlan) = some false)
    (kk_BadBelt_BadText : PySem.W.kitOne K (.ref C_BadBelt) (.ref C_BadText) = some false)
    (ex_BadPlan : PySem.W.exmOne K (.ref C_BadPlan) (.ref CS) = some true) (kv_BadPlan : PySem.W.kitOne K (.ref C_BadPlan) (.type "ValueError") = some true)
    (eg_BadPlan : PySem.W.findIn K (.ref C_BadPlan) "__getattribute__" = some (some (.builtin "BaseException.__getattribute__"))) (ek_BadPlan : PySem.W.findIn K (.ref C_BadPlan) "__getattr__" = some none) (es_BadPlan : PySem.W.subIn K (.ref C_BadPlan) (.type "BaseException") = some true) (ed_BadPlan : PySem.W.hasDictIn K C_BadPlan = true) (ea_BadPlan : PySem.W.findIn K (.ref C_BadPlan) "__class__" = some (some (.builtin "object.__class__"))) (en_BadPlan : PySem.W.specialIn K (.builtin "object.__class__") "__get__" = some (some (.builtin "getset_descriptor.__get__"))) (et_BadPlan : PySem.W.takesIn K (.builtin "object.__class__") = some true) (em_BadPlan : PySem.W.mroIn K C_BadPlan (.type "object") = some true)
    (kk_BadPlan_BadBelt : PySem.W.kitOne K (.ref C_BadPlan) (.ref C_BadBelt) = some false)
    (kk_BadPlan_BadPlan : PySem.W.kitOne K (.ref C_BadPlan) (.ref C_BadPlan) = some true)
    (kk_BadPlan_BadBottle : PySem.W.kitOne K (.ref C_BadPlan) (.ref C_BadBottle) = some false)
    (kk_BadPlan_BadNumber : PySem.W.kitOne K (.ref C_BadPlan) (.ref C_BadNumber) = some false)
    (kk_BadPlan_BadPaper : PySem.W.kitOne K (.ref C_BadPlan) (.ref C_BadPaper) = some false)
    (kk_BadPlan_NoPlan : PySem.W.kitOne K (.ref C_BadPlan) (.ref C_NoPlan) = some false)
    (kk_BadPlan_BadText : PySem.W.kitOne K (.ref C_BadPlan) (.ref C_BadText) = some false)
    (ex_BadBottle : PySem.W.exmOne K (.ref C_BadBottle) (.ref CS) = some true) (kv_BadBottle : PySem.W.kitOne K (.ref C_BadBottle) (.type "ValueError") = some true)
    (eg_BadBottle : PySem.W.findIn K (.ref C_BadBottle) "__getattribute__" = some (some (.builtin "BaseException.__getattribute__"))) (ek_BadBottle : PySem.W.findIn K (.ref C_BadBottle) "__getattr__" = some none) (es_BadBottle : PySem.W.subIn K (.ref C_BadBottle) (.type "BaseException") = some true) (ed_BadBottle : PySem.W.hasDictIn K C_BadBottle = true) (ea_BadBottle : PySem.W.findIn K (.ref C_BadBottle) "__class__" = some (some (.builtin "object.__class__"))) (en_BadBottle : PySem.W.specialIn K (.builtin "object.__class__") "__get__" = some (some (.builtin "getset_descriptor.__get__"))) (et_BadBottle : PySem.W.takesIn K (.builtin "object.__class__") = some true) (em_BadBottle : PySem.W.mroIn K C_BadBottle (.type "object") = some true)
    (kk_BadBottle_BadBelt : PySem.W.kitOne K (.ref C_BadBottle) (.ref C_BadBelt) = some false)
    (kk_BadBottle_BadPlan : PySem.W.kitOne K (.ref C_BadBottle) (.ref C_BadPlan) = some false)
    (kk_BadBottle_BadBottle : PySem.W.kitOne K (.ref C_BadBottle) (.ref C_BadBottle) = some true)
    (kk_BadBottle_BadNumber : PySem.W.kitOne K (.ref C_BadBottle) (.ref C_BadNumber) = some false)
    (kk_BadBottle_BadPaper : PySem.W.kitOne K (.ref C_BadBottle) (.ref C_BadPaper) = some false)
    (kk_BadBottle_NoPlan : PySem.W.kitOne K (.ref C_BadBottle) (.ref C_NoPlan) = some false)
    (kk_BadBottle_BadText : PySem.W.kitOne K (.ref C_BadBottle) (.ref C_BadText) = some false)
    (ex_BadNumber : PySem.W.exmOne K (.ref C_BadNumber) (.ref CS) = some true) (kv_BadNumber : PySem.W.kitOne K (.ref C_BadNumber) (.type "ValueError") = some true)
    (eg_BadNumber : PySem.W.findIn K (.ref C_BadNumber) "__getattribute__" = some (some (.builtin "BaseException.__getattribute__"))) (ek_BadNumber : PySem.W.findIn K (.ref C_BadNumber) "__getattr__" = some none) (es_BadNumber : PySem.W.subIn K (.ref C_BadNumber) (.type "BaseException") = some true) (ed_BadNumber : PySem.W.hasDictIn K C_BadNumber = true) (ea_BadNumber : PySem.W.findIn K (.ref C_BadNumber) "__class__" = some (some (.builtin "object.__class__"))) (en_BadNumber : PySem.W.specialIn K (.builtin "object.__class__") "__get__" = some (some (.builtin "getset_descriptor.__get__"))) (et_BadNumber : PySem.W.takesIn K (.builtin "object.__class__") = some true) (em_BadNumber : PySem.W.mroIn K C_BadNumber (.type "object") = some true)
    (kk_BadNumber_BadBelt : PySem.W.kitOne K (.ref C_BadNumber) (.ref C_BadBelt) = some false)
    (kk_BadNumber_BadPlan : PySem.W.kitOne K (.ref C_BadNumber) (.ref C_BadPlan) = some false)
    (kk_BadNumber_BadBottle : PySem.W.kitOne K (.ref C_BadNumber) (.ref C_BadBottle) = some false)
    (kk_BadNumber_BadNumber : PySem.W.kitOne K (.ref C_BadNumber) (.ref C_BadNumber) = some true)
    (kk_BadNumber_BadPaper : PySem.W.kitOne K (.ref C_BadNumber) (.ref C_BadPaper) = some false)
    (kk_BadNumber_NoPlan : PySem.W.kitOne K (.ref C_BadNumber) (.ref C_NoPlan) = some false)
    (kk_BadNumber_BadText : PySem.W.kitOne K (.ref C_BadNumber) (.ref C_BadText) = some false)
    (ex_BadPaper : PySem.W.exmOne K (.ref C_BadPaper) (.ref CS) = some true) (kv_BadPaper : PySem.W.kitOne K (.ref C_BadPaper) (.type "ValueError") = some true)
    (eg_BadPaper : PySem.W.findIn K (.ref C_BadPaper) "__getattribute__" = some (some (.builtin "BaseException.__getattribute__"))) (ek_BadPaper : PySem.W.findIn K (.ref C_BadPaper) "__getattr__" = some none) (es_BadPaper : PySem.W.subIn K (.ref C_BadPaper) (.type "BaseException") = some true) (ed_BadPaper : PySem.W.hasDictIn K C_BadPaper = true) (ea_BadPaper : PySem.W.findIn K (.ref C_BadPaper) "__class__" = some (some (.builtin "object.__class__"))) (en_BadPaper : PySem.W.specialIn K (.builtin "object.__class__") "__get__" = some (some (.builtin "getset_descriptor.__get__"))) (et_BadPaper : PySem.W.takesIn K (.builtin "object.__class__") = some true) (em_BadPaper : PySem.W.mroIn K C_BadPaper (.type "object") = some true)
    (kk_BadPaper_BadBelt : PySem.W.kitOne K (.ref C_BadPaper) (.ref C_BadBelt) = some false)
    (kk_BadPaper_BadPlan : PySem.W.kitOne K (.ref C_BadPaper) (.ref C_BadPlan) = some false)
    (kk_BadPaper_BadBottle : PySem.W.kitOne K (.ref C_BadPaper) (.ref C_BadBottle) = some false)
    (kk_BadPaper_BadNumber : PySem.W.kitOne K (.ref C_BadPaper) (.ref C_BadNumber) = some false)
    (kk_BadPaper_BadPaper : PySem.W.kitOne K (.ref C_BadPaper) (.ref C_BadPaper) = some true)
    (kk_BadPaper_NoPlan : PySem.W.kitOne K (.ref C_BadPaper) (.ref C_NoPlan) = some false)
    (kk_BadPaper_BadText : PySem.W.kitOne K (.ref C_BadPaper) (.ref C_BadText) = some false)
    (ex_NoPlan : PySem.W.exmOne K (.ref C_NoPlan) (.ref CS) = some true) (kv_NoPlan : PySem.W.kitOne K (.ref C_NoPlan) (.type "ValueError") = some true)
    (eg_NoPlan : PySem.W.findIn K (.ref C_NoPlan) "__getattribute__" = some (some (.builtin "BaseException.__getattribute__"))) (ek_NoPlan : PySem.W.findIn K (.ref C_NoPlan) "__getattr__" = some none) (es_NoPlan : PySem.W.subIn K (.ref C_NoPlan) (.type "BaseException") = some true) (ed_NoPlan : PySem.W.hasDictIn K C_NoPlan = true) (ea_NoPlan : PySem.W.findIn K (.ref C_NoPlan) "__class__" = some (some (.builtin "object.__class__"))) (en_NoPlan : PySem.W.specialIn K (.builtin "object.__class__") "__get__" = some (some (.builtin "getset_descriptor.__get__"))) (et_NoPlan : PySem.W.takesIn K (.builtin "object.__class__") = some true) (em_NoPlan : PySem.W.mroIn K C_NoPlan (.type "object") = some true)
    (kk_NoPlan_BadBelt : PySem.W.kitOne K (.ref C_NoPlan) (.ref C_BadBelt) = some false)
    (kk_NoPlan_BadPlan : PySem.W.kitOne K (.ref C_NoPlan) (.ref C_BadPlan) = some false)
    (kk_NoPlan_BadBottle : PySem.W.kitOne K (.ref C_NoPlan) (.ref C_BadBottle) = some false)
    (kk_NoPlan_BadNumber : PySem.W.kitOne K (.ref C_NoPlan) (.ref C_BadNumber) = some false)
    (kk_NoPlan_BadPaper : PySem.W.kitOne K (.ref C_NoPlan) (.ref C_BadPaper) = some false)
    (kk_NoPlan_NoPlan : PySem.W.kitOne K (.ref C_NoPlan) (.ref C_NoPlan) = some true)
    (kk_NoPlan_BadText : PySem.W.kitOne K (.ref C_NoPlan) (.ref C_BadText) = some false)
    (ex_BadText : PySem.W.exmOne K (.ref C_BadText) (.ref CS) = some true) (kv_BadText : PySem.W.kitOne K (.ref C_BadText) (.type "ValueError") = some true)
    (eg_BadText : PySem.W.findIn K (.ref C_BadText) "__getattribute__" = some (some (.builtin "BaseException.__getattribute__"))) (ek_BadText : PySem.W.findIn K (.ref C_BadText) "__getattr__" = some none) (es_BadText : PySem.W.subIn K (.ref C_BadText) (.type "BaseException") = some true) (ed_BadText : PySem.W.hasDictIn K C_BadText = true) (ea_BadText : PySem.W.findIn K (.ref C_BadText) "__class__" = some (some (.builtin "object.__class__"))) (en_BadText : PySem.W.specialIn K (.builtin "object.__class__") "__get__" = some (some (.builtin "getset_descriptor.__get__"))) (et_BadText : PySem.W.takesIn K (.builtin "object.__class__") = some true) (em_BadText : PySem.W.mroIn K C_BadText (.type "object") = some true)
    (kk_BadText_BadBelt : PySem.W.kitOne K (.ref C_BadText) (.ref C_BadBelt) = some false)
    (kk_BadText_BadPlan : PySem.W.kitOne K (.ref C_BadText) (.ref C_BadPlan) = some false)
    (kk_BadText_BadBottle : PySem.W.kitOne K (.ref C_BadText) (.ref C_BadBottle) = some false)
    (kk_BadText_BadNumber : PySem.W.kitOne K (.ref C_BadText) (.ref C_BadNumber) = some false)
    (kk_BadText_BadPaper : PySem.W.kitOne K (.ref C_BadText) (.ref C_BadPaper) = some false)
    (kk_BadText_NoPlan : PySem.W.kitOne K (.ref C_BadText) (.ref C_NoPlan) = some false)
    (kk_BadText_BadText : PySem.W.kitOne K (.ref C_BadText) (.ref C_BadText) = some true)
    : LamX.LawAtS l w K (L2N.CX l.prog w) 9 63 "script" mg fa h := by
  have e := hfa.symm.trans (PySem.W.mg_of X G a29)
  cases e
  have Z : Fx K mg := ⟨PySem.W.mg_none_of X G zb_ValueError, PySem.W.mg_none_of X G zb_all, PySem.W.mg_none_of X G zb_any, PySem.W.mg_none_of X G zb_bool, PySem.W.mg_none_of X G zb_int, PySem.W.mg_none_of X G zb_isinstance, PySem.W.mg_none_of X G zb_len, PySem.W.mg_none_of X G zb_list, PySem.W.mg_none_of X G zb_max, PySem.W.mg_none_of X G zb_min, PySem.W.mg_none_of X G zb_range, PySem.W.mg_none_of X G zb_sorted, PySem.W.mg_none_of X G zb_sum, PySem.W.mg_none_of X G zb_tuple, PySem.W.mg_none_of X G zb_zip, ⟨_, PySem.W.mg_of X G zc_MOST_COST⟩, ⟨_, PySem.W.mg_of X G zc_MOST_FAULTS⟩, ⟨_, PySem.W.mg_of X G zc_MOST_KICKERS⟩, ⟨_, PySem.W.mg_of X G zc_MOST_PLACE⟩, ⟨_, PySem.W.mg_of X G zc_MOST_SLIPS⟩, ⟨_, PySem.W.mg_of X G zc_MOST_SPOTS⟩, ⟨C_BadBelt, PySem.W.mg_of X G xa_BadBelt, xe_BadBelt, xk_BadBelt, xs_BadBelt, xt_BadBelt⟩, ⟨C_BadBottle, PySem.W.mg_of X G xa_BadBottle, xe_BadBottle, xk_BadBottle, xs_BadBottle, xt_BadBottle⟩, ⟨C_BadNumber, PySem.W.mg_of X G xa_BadNumber, xe_BadNumber, xk_BadNumber, xs_BadNumber, xt_BadNumber⟩, ⟨C_BadPlan, PySem.W.mg_of X G xa_BadPlan, xe_BadPlan, xk_BadPlan, xs_BadPlan, xt_BadPlan⟩⟩
  have F0 := fun_mk (st := s_is_count) l0 c0 k0
  have B0 := F0.binds (ps := ["thing", "low", "high"]) fun _ _ _ _ _ _ us hl => match us, hl with | [_, _, _], _ => rfl
  have F1 := fun_mk (st := s_is_rising) l1 c1 k1
  have B1 := F1.binds (ps := ["thing", "many"]) fun _ _ _ _ _ _ us hl => match us, hl with | [_, _], _ => rfl
  have F2 := fun_mk (st := s_is_spot) l2 c2 k2
  have B2 := F2.binds (ps := ["thing", "faults"]) fun _ _ _ _ _ _ us hl => match us, hl with | [_, _], _ => rfl
  have F3 := fun_mk (st := s_is_kicker) l3 c3 k3
  have B3 := F3.binds (ps := ["thing"]) fun _ _ _ _ _ _ us hl => match us, hl with | [_], _ => rfl
  have F4 := fun_mk (st := s_is_belt) l4 c4 k4
  have B4 := F4.binds (ps := ["thing"]) fun _ _ _ _ _ _ us hl => match us, hl with | [_], _ => rfl
  have F5 := fun_mk (st := s_need_belt) l5 c5 k5
  have B5 := F5.binds (ps := ["belt"]) fun _ _ _ _ _ _ us hl => match us, hl with | [_], _ => rfl
  have F6 := fun_mk (st := s_sees) l6 c6 k6
  have B6 := F6.binds (ps := ["belt", "spot", "fault"]) fun _ _ _ _ _ _ us hl => match us, hl with | [_, _, _], _ => rfl
  have F7 := fun_mk (st := s_first_kicker) l7 c7 k7
  have B7 := F7.binds (ps := ["belt", "kickers", "place"]) fun _ _ _ _ _ _ us hl => match us, hl with | [_, _, _], _ => rfl
  have F8 := fun_mk (st := s_useful) l8 c8 k8
  have B8 := F8.binds (ps := ["belt", "spots", "kickers", "fault"]) fun _ _ _ _ _ _ us hl => match us, hl with | [_, _, _, _], _ => rfl
  have F9 := fun_mk (st := s_need_plan) l9 c9 k9
  have B9 := F9.binds (ps := ["belt", "plan"]) fun _ _ _ _ _ _ us hl => match us, hl with | [_, _], _ => rfl
  have F10 := fun_mk (st := s_need_bottle) l10 c10 k10
  have B10 := F10.binds (ps := ["belt", "plan", "bottle", "slips"]) fun _ _ _ _ _ _ us hl => match us, hl with | [_, _, _, _], _ => rfl
  have F11 := fun_mk (st := s_need_count) l11 c11 k11
  have B11 := F11.binds (ps := ["count"]) fun _ _ _ _ _ _ us hl => match us, hl with | [_], _ => rfl
  have F12 := fun_mk (st := s_out_of) l12 c12 k12
  have B12 := F12.binds (ps := ["belt", "plan", "bottle", "slips"]) fun _ _ _ _ _ _ us hl => match us, hl with | [_, _, _, _], _ => rfl
  have F13 := fun_mk (st := s_out) l13 c13 k13
  have B13 := F13.binds (ps := ["belt", "plan", "bottle", "slips"]) fun _ _ _ _ _ _ us hl => match us, hl with | [_, _, _, _], _ => rfl
  have F14 := fun_mk (st := s_least_seen) l14 c14 k14
  have B14 := F14.binds (ps := ["belt", "plan"]) fun _ _ _ _ _ _ us hl => match us, hl with | [_, _], _ => rfl
  have F15 := fun_mk (st := s_borne) l15 c15 k15
  have B15 := F15.binds (ps := ["belt", "plan"]) fun _ _ _ _ _ _ us hl => match us, hl with | [_, _], _ => rfl
  have F16 := fun_mk (st := s_lets) l16 c16 k16
  have B16 := F16.binds (ps := ["belt", "plan", "count"]) fun _ _ _ _ _ _ us hl => match us, hl with | [_, _, _], _ => rfl
  have F17 := fun_mk (st := s_law_cell) l17 c17 k17
  have B17 := F17.binds (ps := ["script", "k"]) fun _ _ _ _ _ _ us hl => match us, hl with | [_, _], _ => rfl
  have F18 := fun_mk (st := s_law_drawn) l18 c18 k18
  have B18 := F18.binds (ps := ["cell", "k"]) fun _ _ _ _ _ _ us hl => match us, hl with | [_, _], _ => rfl
  have F19 := fun_mk (st := s_law_word) l19 c19 k19
  have B19 := F19.binds (ps := ["e"]) fun _ _ _ _ _ _ us hl => match us, hl with | [_], _ => rfl
  have F20 := fun_mk (st := s_law_told) l20 c20 k20
  have B20 := F20.binds (ps := ["deed"]) fun _ _ _ _ _ _ us hl => match us, hl with | [_], _ => rfl
  have F21 := fun_mk (st := s_law_some) l21 c21 k21
  have B21 := F21.binds (ps := ["more", "many", "by"]) fun _ _ _ _ _ _ us hl => match us, hl with | [_, _, _], _ => rfl
  have F22 := fun_mk (st := s_law_belt) l22 c22 k22
  have B22 := F22.binds (ps := ["more", "most"]) fun _ _ _ _ _ _ us hl => match us, hl with | [_, _], _ => rfl
  have F23 := fun_mk (st := s_law_plan) l23 c23 k23
  have B23 := F23.binds (ps := ["more", "belt"]) fun _ _ _ _ _ _ us hl => match us, hl with | [_, _], _ => rfl
  have F24 := fun_mk (st := s_law_out) l24 c24 k24
  have B24 := F24.binds (ps := ["belt", "plan", "bottle", "slips"]) fun _ _ _ _ _ _ us hl => match us, hl with | [_, _, _, _], _ => rfl
  have F25 := fun_mk (st := s_law_rows) l25 c25 k25
  have B25 := F25.binds (ps := ["many"]) fun _ _ _ _ _ _ us hl => match us, hl with | [_], _ => rfl
  have F26 := fun_mk (st := s_law_bears) l26 c26 k26
  have B26 := F26.binds (ps := ["belt", "plan", "count"]) fun _ _ _ _ _ _ us hl => match us, hl with | [_, _, _], _ => rfl
  have F27 := fun_mk (st := s_law_holds) l27 c27 k27
  have B27 := F27.binds (ps := ["belt", "plan", "fault"]) fun _ _ _ _ _ _ us hl => match us, hl with | [_, _, _], _ => rfl
  have F28 := fun_mk (st := s_law_no_sooner) l28 c28 k28
  have B28 := F28.binds (ps := ["belt", "plan"]) fun _ _ _ _ _ _ us hl => match us, hl with | [_, _], _ => rfl
  have F29 := fun_mk (st := s_law) l29 c29 k29
  have B29 := F29.binds (ps := ["script"]) fun _ _ _ _ _ _ us hl => match us, hl with | [_], _ => rfl
  have t29 := tabs "law" (by decide) fa cm29 Pm29 _ _ (PySem.W.mg_of X G a29) l29 rfl rfl hd29
  have u29 : ∀ p ∈ ([(Pm29, lamQ "law")] : List (Addr × Str)), p.1 = Pm29 → p.2 = lamQ "law" := by
    intro p hp e
    simp only [List.mem_cons, List.mem_nil_iff, or_false] at hp
    rcases hp with rfl <;> first | rfl
  have q1 : ∀ p ∈ ([(cm29, Pm29)] : List (Addr × Addr)), h.get? p.2 = some { cls := .none, data := .fields #[] } := by
    intro p hp
    simp only [List.mem_cons, List.mem_nil_iff, or_false] at hp
    rcases hp with rfl
    · exact t29
  have q2 : ∀ p ∈ ([(cm29, Pm29)] : List (Addr × Addr)), K.lookup p.2 = none := by
    intro p hp
    simp only [List.mem_cons, List.mem_nil_iff, or_false] at hp
    rcases hp with rfl
    · exact np29
  have q3 : ∀ p ∈ ([(cm29, Pm29)] : List (Addr × Addr)), PySem.W.CodeHd h p.1 p.2 := by
    intro p hp
    simp only [List.mem_cons, List.mem_nil_iff, or_false] at hp
    rcases hp with rfl
    · exact PySem.W.codeHd_of_K X hd29
  refine ⟨PySem.W.fnOf "law" "law" (defArgs s_law) (defBody s_law) (defScope s_law) .none kV29 dc29 pm29 an29 (.ref cm29) ct29, [(cm29, Pm29)], spL [(Pm29, lamQ "law")] m_law, q1, q2, q3, fun s v => .of_eq rfl, fun H a ns hl _ hO hS => law_endT (cs := [(cm29, Pm29)]) (by simp) law_true nl hl hO hS, fun base _ _ TB => ?_⟩
  have tb29 := TB (cm29, Pm29) (by simp)
  have w_BadBelt : WordOk l.prog w K mg base [(Pm29, lamQ "law")] 6 f19 _ ["e"] C_BadBelt "BadBelt" := ok_law_word (isa := isaW "BadBelt") F19 Z ⟨eg_BadBelt, ek_BadBelt, es_BadBelt, ed_BadBelt, ea_BadBelt, en_BadBelt, et_BadBelt, em_BadBelt⟩ (kv_BadBelt.trans (by decide +kernel)) (PySem.W.mg_of X G xa_BadBelt) (kk_BadBelt_BadBelt.trans (by decide +kernel)) (PySem.W.mg_of X G xa_BadPlan) (kk_BadBelt_BadPlan.trans (by decide +kernel)) (PySem.W.mg_of X G xa_BadBottle) (kk_BadBelt_BadBottle.trans (by decide +kernel)) (PySem.W.mg_of X G xa_BadNumber) (kk_BadBelt_BadNumber.trans (by decide +kernel)) (PySem.W.mg_of X G xa_BadPaper) (kk_BadBelt_BadPaper.trans (by decide +kernel)) (PySem.W.mg_of X G xa_NoPlan) (kk_BadBelt_NoPlan.trans (by decide +kernel)) (PySem.W.mg_of X G xa_BadText) (kk_BadBelt_BadText.trans (by decide +kernel)) (word_BadBelt)
  have w_BadPlan : WordOk l.prog w K mg base [(Pm29, lamQ "law")] 6 f19 _ ["e"] C_BadPlan "BadPlan" := ok_law_word (isa := isaW "BadPlan") F19 Z ⟨eg_BadPlan, ek_BadPlan, es_BadPlan, ed_BadPlan, ea_BadPlan, en_BadPlan, et_BadPlan, em_BadPlan⟩ (kv_BadPlan.trans (by decide +kernel)) (PySem.W.mg_of X G xa_BadBelt) (kk_BadPlan_BadBelt.trans (by decide +kernel)) (PySem.W.mg_of X G xa_BadPlan) (kk_BadPlan_BadPlan.trans (by decide +kernel)) (PySem.W.mg_of X G xa_BadBottle) (kk_BadPlan_BadBottle.trans (by decide +kernel)) (PySem.W.mg_of X G xa_BadNumber) (kk_BadPlan_BadNumber.trans (by decide +kernel)) (PySem.W.mg_of X G xa_BadPaper) (kk_BadPlan_BadPaper.trans (by decide +kernel)) (PySem.W.mg_of X G xa_NoPlan) (kk_BadPlan_NoPlan.trans (by decide +kernel)) (PySem.W.mg_of X G xa_BadText) (kk_BadPlan_BadText.trans (by decide +kernel)) (word_BadPlan)
  have w_BadBottle : WordOk l.prog w K mg base [(Pm29, lamQ "law")] 6 f19 _ ["e"] C_BadBottle "BadBottle" := ok_law_word (isa := isaW "BadBottle") F19 Z ⟨eg_BadBottle, ek_BadBottle, es_BadBottle, ed_BadBottle, ea_BadBottle, en_BadBottle, et_BadBottle, em_BadBottle⟩ (kv_BadBottle.trans (by decide +kernel)) (PySem.W.mg_of X G xa_BadBelt) (kk_BadBottle_BadBelt.trans (by decide +kernel)) (PySem.W.mg_of X G xa_BadPlan) (kk_BadBottle_BadPlan.trans (by decide +kernel)) (PySem.W.mg_of X G xa_BadBottle) (kk_BadBottle_BadBottle.trans (by decide +kernel)) (PySem.W.mg_of X G xa_BadNumber) (kk_BadBottle_BadNumber.trans (by decide +kernel)) (PySem.W.mg_of X G xa_BadPaper) (kk_BadBottle_BadPaper.trans (by decide +kernel)) (PySem.W.mg_of X G xa_NoPlan) (kk_BadBottle_NoPlan.trans (by decide +kernel)) (PySem.W.mg_of X G xa_BadText) (kk_BadBottle_BadText.trans (by decide +kernel)) (word_BadBottle)
  have w_BadNumber : WordOk l.prog w K mg base [(Pm29, lamQ "law")] 6 f19 _ ["e"] C_BadNumber "BadNumber" := ok_law_word (isa := isaW "BadNumber") F19 Z ⟨eg_BadNumber, ek_BadNumber, es_BadNumber, ed_BadNumber, ea_BadNumber, en_BadNumber, et_BadNumber, em_BadNumber⟩ (kv_BadNumber.trans (by decide +kernel)) (PySem.W.mg_of X G xa_BadBelt) (kk_BadNumber_BadBelt.trans (by decide +kernel)) (PySem.W.mg_of X G xa_BadPlan) (kk_BadNumber_BadPlan.trans (by decide +kernel)) (PySem.W.mg_of X G xa_BadBottle) (kk_BadNumber_BadBottle.trans (by decide +kernel)) (PySem.W.mg_of X G xa_BadNumber) (kk_BadNumber_BadNumber.trans (by decide +kernel)) (PySem.W.mg_of X G xa_BadPaper) (kk_BadNumber_BadPaper.trans (by decide +kernel)) (PySem.W.mg_of X G xa_NoPlan) (kk_BadNumber_NoPlan.trans (by decide +kernel)) (PySem.W.mg_of X G xa_BadText) (kk_BadNumber_BadText.trans (by decide +kernel)) (word_BadNumber)
  have w_BadPaper : WordOk l.prog w K mg base [(Pm29, lamQ "law")] 6 f19 _ ["e"] C_BadPaper "BadPaper" := ok_law_word (isa := isaW "BadPaper") F19 Z ⟨eg_BadPaper, ek_BadPaper, es_BadPaper, ed_BadPaper, ea_BadPaper, en_BadPaper, et_BadPaper, em_BadPaper⟩ (kv_BadPaper.trans (by decide +kernel)) (PySem.W.mg_of X G xa_BadBelt) (kk_BadPaper_BadBelt.trans (by decide +kernel)) (PySem.W.mg_of X G xa_BadPlan) (kk_BadPaper_BadPlan.trans (by decide +kernel)) (PySem.W.mg_of X G xa_BadBottle) (kk_BadPaper_BadBottle.trans (by decide +kernel)) (PySem.W.mg_of X G xa_BadNumber) (kk_BadPaper_BadNumber.trans (by decide +kernel)) (PySem.W.mg_of X G xa_BadPaper) (kk_BadPaper_BadPaper.trans (by decide +kernel)) (PySem.W.mg_of X G xa_NoPlan) (kk_BadPaper_NoPlan.trans (by decide +kernel)) (PySem.W.mg_of X G xa_BadText) (kk_BadPaper_BadText.trans (by decide +kernel)) (word_BadPaper)
  have w_NoPlan : WordOk l.prog w K mg base [(Pm29, lamQ "law")] 6 f19 _ ["e"] C_NoPlan "NoPlan" := ok_law_word (isa := isaW "NoPlan") F19 Z ⟨eg_NoPlan, ek_NoPlan, es_NoPlan, ed_NoPlan, ea_NoPlan, en_NoPlan, et_NoPlan, em_NoPlan⟩ (kv_NoPlan.trans (by decide +kernel)) (PySem.W.mg_of X G xa_BadBelt) (kk_NoPlan_BadBelt.trans (by decide +kernel)) (PySem.W.mg_of X G xa_BadPlan) (kk_NoPlan_BadPlan.trans (by decide +kernel)) (PySem.W.mg_of X G xa_BadBottle) (kk_NoPlan_BadBottle.trans (by decide +kernel)) (PySem.W.mg_of X G xa_BadNumber) (kk_NoPlan_BadNumber.trans (by decide +kernel)) (PySem.W.mg_of X G xa_BadPaper) (kk_NoPlan_BadPaper.trans (by decide +kernel)) (PySem.W.mg_of X G xa_NoPlan) (kk_NoPlan_NoPlan.trans (by decide +kernel)) (PySem.W.mg_of X G xa_BadText) (kk_NoPlan_BadText.trans (by decide +kernel)) (word_NoPlan)
  have w_BadText : WordOk l.prog w K mg base [(Pm29, lamQ "law")] 6 f19 _ ["e"] C_BadText "BadText" := ok_law_word (isa := isaW "BadText") F19 Z ⟨eg_BadText, ek_BadText, es_BadText, ed_BadText, ea_BadText, en_BadText, et_BadText, em_BadText⟩ (kv_BadText.trans (by decide +kernel)) (PySem.W.mg_of X G xa_BadBelt) (kk_BadText_BadBelt.trans (by decide +kernel)) (PySem.W.mg_of X G xa_BadPlan) (kk_BadText_BadPlan.trans (by decide +kernel)) (PySem.W.mg_of X G xa_BadBottle) (kk_BadText_BadBottle.trans (by decide +kernel)) (PySem.W.mg_of X G xa_BadNumber) (kk_BadText_BadNumber.trans (by decide +kernel)) (PySem.W.mg_of X G xa_BadPaper) (kk_BadText_BadPaper.trans (by decide +kernel)) (PySem.W.mg_of X G xa_NoPlan) (kk_BadText_NoPlan.trans (by decide +kernel)) (PySem.W.mg_of X G xa_BadText) (kk_BadText_BadText.trans (by decide +kernel)) (word_BadText)
  have tl : Told l.prog w K mg base [(Pm29, lamQ "law")] 6 ws := ok_law_told F20 (PySem.W.mg_of X G a20) B20 (PySem.W.mg_of X G a19) k19 B19 (PySem.W.mg_of X G ya) (by
    intro c hc
    simp only [ws, List.mem_cons, List.mem_nil_iff, or_false] at hc
    rcases hc with rfl | rfl | rfl | rfl | rfl | rfl | rfl
    · exact ⟨C_BadBelt, PySem.W.mg_of X G xa_BadBelt, ex_BadBelt, w_BadBelt⟩
    · exact ⟨C_BadPlan, PySem.W.mg_of X G xa_BadPlan, ex_BadPlan, w_BadPlan⟩
    · exact ⟨C_BadBottle, PySem.W.mg_of X G xa_BadBottle, ex_BadBottle, w_BadBottle⟩
    · exact ⟨C_BadNumber, PySem.W.mg_of X G xa_BadNumber, ex_BadNumber, w_BadNumber⟩
    · exact ⟨C_BadPaper, PySem.W.mg_of X G xa_BadPaper, ex_BadPaper, w_BadPaper⟩
    · exact ⟨C_NoPlan, PySem.W.mg_of X G xa_NoPlan, ex_NoPlan, w_NoPlan⟩
    · exact ⟨C_BadText, PySem.W.mg_of X G xa_BadText, ex_BadText, w_BadText⟩)
  have d_is_count : Fn l.prog w K mg base [(Pm29, lamQ "law")] "is_count" 1 m_is_count := ok_is_count F0 (PySem.W.mg_of X G a0) B0 Z 
  have d_is_rising : Fn l.prog w K mg base [(Pm29, lamQ "law")] "is_rising" 2 m_is_rising := ok_is_rising F1 (PySem.W.mg_of X G a1) B1 Z d_is_count
  have d_is_spot : Fn l.prog w K mg base [(Pm29, lamQ "law")] "is_spot" 3 m_is_spot := ok_is_spot F2 (PySem.W.mg_of X G a2) B2 Z d_is_count d_is_rising
  have d_is_kicker : Fn l.prog w K mg base [(Pm29, lamQ "law")] "is_kicker" 2 m_is_kicker := ok_is_kicker F3 (PySem.W.mg_of X G a3) B3 Z d_is_count
  have d_is_belt : Fn l.prog w K mg base [(Pm29, lamQ "law")] "is_belt" 4 m_is_belt := ok_is_belt F4 (PySem.W.mg_of X G a4) B4 Z d_is_count d_is_spot d_is_kicker
  have d_need_belt : Fn l.prog w K mg base [(Pm29, lamQ "law")] "need_belt" 5 m_need_belt := ok_need_belt F5 (PySem.W.mg_of X G a5) B5 Z d_is_belt
  have d_sees : Fn l.prog w K mg base [(Pm29, lamQ "law")] "sees" 1 m_sees := ok_sees F6 (PySem.W.mg_of X G a6) B6 Z 
  have d_first_kicker : Fn l.prog w K mg base [(Pm29, lamQ "law")] "first_kicker" 1 m_first_kicker := ok_first_kicker F7 (PySem.W.mg_of X G a7) B7 Z 
  have d_useful : Fn l.prog w K mg base [(Pm29, lamQ "law")] "useful" 2 m_useful := ok_useful F8 (PySem.W.mg_of X G a8) B8 Z d_sees d_first_kicker
  have d_need_plan : Fn l.prog w K mg base [(Pm29, lamQ "law")] "need_plan" 3 m_need_plan := ok_need_plan F9 (PySem.W.mg_of X G a9) B9 Z d_is_rising
  have d_need_bottle : Fn l.prog w K mg base [(Pm29, lamQ "law")] "need_bottle" 3 m_need_bottle := ok_need_bottle F10 (PySem.W.mg_of X G a10) B10 Z d_is_rising
  have d_need_count : Fn l.prog w K mg base [(Pm29, lamQ "law")] "need_count" 2 m_need_count := ok_need_count F11 (PySem.W.mg_of X G a11) B11 Z d_is_count
  have d_out_of : Fn l.prog w K mg base [(Pm29, lamQ "law")] "out_of" 2 m_out_of := ok_out_of F12 (PySem.W.mg_of X G a12) B12 Z d_first_kicker d_sees
  have d_out : Fn l.prog w K mg base [(Pm29, lamQ "law")] "out" 6 m_out := ok_out F13 (PySem.W.mg_of X G a13) B13 Z d_need_belt d_need_plan d_need_bottle d_out_of
  have d_least_seen : Fn l.prog w K mg base [(Pm29, lamQ "law")] "least_seen" 3 m_least_seen := ok_least_seen F14 (PySem.W.mg_of X G a14) B14 Z d_useful
  have d_borne : Fn l.prog w K mg base [(Pm29, lamQ "law")] "borne" 6 m_borne := ok_borne F15 (PySem.W.mg_of X G a15) B15 Z d_need_belt d_need_plan d_least_seen
  have d_lets : Fn l.prog w K mg base [(Pm29, lamQ "law")] "lets" 6 m_lets := ok_lets F16 (PySem.W.mg_of X G a16) B16 Z d_need_belt d_need_plan d_need_count d_useful
  have d_law_cell : Fn l.prog w K mg base [(Pm29, lamQ "law")] "_law_cell" 1 m_law_cell := ok_law_cell F17 (PySem.W.mg_of X G a17) B17 Z 
  have d_law_drawn : Fn l.prog w K mg base [(Pm29, lamQ "law")] "_law_drawn" 1 m_law_drawn := ok_law_drawn F18 (PySem.W.mg_of X G a18) B18 Z 
  have d_law_some : Fn l.prog w K mg base [(Pm29, lamQ "law")] "_law_some" 2 m_law_some := ok_law_some F21 (PySem.W.mg_of X G a21) B21 Z d_law_drawn
  have d_law_belt : Fn l.prog w K mg base [(Pm29, lamQ "law")] "_law_belt" 3 m_law_belt := ok_law_belt F22 (PySem.W.mg_of X G a22) B22 Z d_law_drawn d_law_some
  have d_law_plan : Fn l.prog w K mg base [(Pm29, lamQ "law")] "_law_plan" 3 m_law_plan := ok_law_plan F23 (PySem.W.mg_of X G a23) B23 Z d_law_some d_law_drawn
  have d_law_out : Fn l.prog w K mg base [(Pm29, lamQ "law")] "_law_out" 1 m_law_out := ok_law_out F24 (PySem.W.mg_of X G a24) B24 Z 
  have d_law_rows : Fn l.prog w K mg base [(Pm29, lamQ "law")] "_law_rows" 1 m_law_rows := ok_law_rows F25 (PySem.W.mg_of X G a25) B25 Z 
  have d_law_bears : Fn l.prog w K mg base [(Pm29, lamQ "law")] "_law_bears" 2 m_law_bears := ok_law_bears F26 (PySem.W.mg_of X G a26) B26 Z d_law_rows d_law_out
  have d_law_holds : Fn l.prog w K mg base [(Pm29, lamQ "law")] "_law_holds" 2 m_law_holds := ok_law_holds F27 (PySem.W.mg_of X G a27) B27 Z d_law_out
  have d_law_no_sooner : Fn l.prog w K mg base [(Pm29, lamQ "law")] "_law_no_sooner" 7 m_law_no_sooner := ok_law_no_sooner F28 (PySem.W.mg_of X G a28) B28 Z d_law_rows d_out
  exact law_fn (okX_law F29 Z rfl tb29 (by simp) u29 tl d_law_drawn d_law_cell d_law_belt d_law_plan d_law_bears d_lets d_law_no_sooner d_borne d_law_holds d_out)
end Bl
open PySem PySem.W PyProof.Rows
set_option maxRecDepth 100000 in
set_option maxHeartbeats 0 in
theorem PySem.Challenge.cw_beltlooks_k21_whole_slips_holds : PySem.Challenge.rw_beltlooks_k21_whole_slips.Holds := by
  w_on; o_law; k_head; (case hw => w_witness2)
  k_fill
  refine Dl.walk_ofD (l := PySem.Challenge.rw_beltlooks_k21_whole_slips) (n := 63) (k := 9) (x := "script") (CX := fun w => L2N.CX PySem.Challenge.rw_beltlooks_k21_whole_slips.prog w) ["law"] rfl (by decide) rfl ⟨rfl, by decide, by decide⟩ ?R (fun w h Y => PySem.W.km_in_of Y) ?F (fun w H s e s' h => Dl.cx_noN h)
  case R => kernel_rfl
  case F =>
    intro w mg fa h KX G hmg tabs
    refine' Bl.all_mk (Pm29 := 288) KX G hmg tabs ?nl ?a0 ?l0 ?c0 ?k0 ?a1 ?l1 ?c1 ?k1 ?a2 ?l2 ?c2 ?k2 ?a3 ?l3 ?c3 ?k3 ?a4 ?l4 ?c4 ?k4 ?a5 ?l5 ?c5 ?k5 ?a6 ?l6 ?c6 ?k6 ?a7 ?l7 ?c7 ?k7 ?a8 ?l8 ?c8 ?k8 ?a9 ?l9 ?c9 ?k9 ?a10 ?l10 ?c10 ?k10 ?a11 ?l11 ?c11 ?k11 ?a12 ?l12 ?c12 ?k12 ?a13 ?l13 ?c13 ?k13 ?a14 ?l14 ?c14 ?k14 ?a15 ?l15 ?c15 ?k15 ?a16 ?l16 ?c16 ?k16 ?a17 ?l17 ?c17 ?k17 ?a18 ?l18 ?c18 ?k18 ?a19 ?l19 ?c19 ?k19 ?a20 ?l20 ?c20 ?k20 ?a21 ?l21 ?c21 ?k21 ?a22 ?l22 ?c22 ?k22 ?a23 ?l23 ?c23 ?k23 ?a24 ?l24 ?c24 ?k24 ?a25 ?l25 ?c25 ?k25 ?a26 ?l26 ?c26 ?k26 ?a27 ?l27 ?c27 ?k27 ?a28 ?l28 ?c28 ?k28 ?a29 ?l29 ?c29 ?k29 ?hd29 ?np29 ?zb_ValueError ?zb_all ?zb_any ?zb_bool ?zb_int ?zb_isinstance ?zb_len ?zb_list ?zb_max ?zb_min ?zb_range ?zb_sorted ?zb_sum ?zb_tuple ?zb_zip ?zc_MOST_COST ?zc_MOST_FAULTS ?zc_MOST_KICKERS ?zc_MOST_PLACE ?zc_MOST_SLIPS ?zc_MOST_SPOTS ?xa_BadBelt ?xa_BadPlan ?xa_BadBottle ?xa_BadNumber ?xa_BadPaper ?xa_NoPlan ?xa_BadText ?xe_BadBelt ?xk_BadBelt ?xs_BadBelt ?xt_BadBelt ?xe_BadBottle ?xk_BadBottle ?xs_BadBottle ?xt_BadBottle ?xe_BadNumber ?xk_BadNumber ?xs_BadNumber ?xt_BadNumber ?xe_BadPlan ?xk_BadPlan ?xs_BadPlan ?xt_BadPlan ?ya ?ex_BadBelt ?kv_BadBelt ?eg_BadBelt ?ek_BadBelt ?es_BadBelt ?ed_BadBelt ?ea_BadBelt ?en_BadBelt ?et_BadBelt ?em_BadBelt ?kk_BadBelt_BadBelt ?kk_BadBelt_BadPlan ?kk_BadBelt_BadBottle ?kk_BadBelt_BadNumber ?kk_BadBelt_BadPaper ?kk_BadBelt_NoPlan ?kk_BadBelt_BadText ?ex_BadPlan ?kv_BadPlan ?eg_BadPlan ?ek_BadPlan ?es_BadPlan ?ed_BadPlan ?ea_BadPlan ?en_BadPlan ?et_BadPlan ?em_BadPlan ?kk_BadPlan_BadBelt ?kk_BadPlan_BadPlan ?kk_BadPlan_BadBottle ?kk_BadPlan_BadNumber ?kk_BadPlan_BadPaper ?kk_BadPlan_NoPlan ?kk_BadPlan_BadText ?ex_BadBottle ?kv_BadBottle ?eg_BadBottle ?ek_BadBottle ?es_BadBottle ?ed_BadBottle ?ea_BadBottle ?en_BadBottle ?et_BadBottle ?em_BadBottle ?kk_BadBottle_BadBelt ?kk_BadBottle_BadPlan ?kk_BadBottle_BadBottle ?kk_BadBottle_BadNumber ?kk_BadBottle_BadPaper ?kk_BadBottle_NoPlan ?kk_BadBottle_BadText ?ex_BadNumber ?kv_BadNumber ?eg_BadNumber ?ek_BadNumber ?es_BadNumber ?ed_BadNumber ?ea_BadNumber ?en_BadNumber ?et_BadNumber ?em_BadNumber ?kk_BadNumber_BadBelt ?kk_BadNumber_BadPlan ?kk_BadNumber_BadBottle ?kk_BadNumber_BadNumber ?kk_BadNumber_BadPaper ?kk_BadNumber_NoPlan ?kk_BadNumber_BadText ?ex_BadPaper ?kv_BadPaper ?eg_BadPaper ?ek_BadPaper ?es_BadPaper ?ed_BadPaper ?ea_BadPaper ?en_BadPaper ?et_BadPaper ?em_BadPaper ?kk_BadPaper_BadBelt ?kk_BadPaper_BadPlan ?kk_BadPaper_BadBottle ?kk_BadPaper_BadNumber ?kk_BadPaper_BadPaper ?kk_BadPaper_NoPlan ?kk_BadPaper_BadText ?ex_NoPlan ?kv_NoPlan ?eg_NoPlan ?ek_NoPlan ?es_NoPlan ?ed_NoPlan ?ea_NoPlan ?en_NoPlan ?et_NoPlan ?em_NoPlan ?kk_NoPlan_BadBelt ?kk_NoPlan_BadPlan ?kk_NoPlan_BadBottle ?kk_NoPlan_BadNumber ?kk_NoPlan_BadPaper ?kk_NoPlan_NoPlan ?kk_NoPlan_BadText ?ex_BadText ?kv_BadText ?eg_BadText ?ek_BadText ?es_BadText ?ed_BadText ?ea_BadText ?en_BadText ?et_BadText ?em_BadText ?kk_BadText_BadBelt ?kk_BadText_BadPlan ?kk_BadText_BadBottle ?kk_BadText_BadNumber ?kk_BadText_BadPaper ?kk_BadText_NoPlan ?kk_BadText_BadText
    (case nl => kernel_rfl)
    (case a0 => k_is)
    (case l0 => k_is)
    (case c0 => k_is)
    (case k0 => k_is)
    (case a1 => k_is)
    (case l1 => k_is)
    (case c1 => k_is)
    (case k1 => k_is)
    (case a2 => k_is)
    (case l2 => k_is)
    (case c2 => k_is)
    (case k2 => k_is)
    (case a3 => k_is)
    (case l3 => k_is)
    (case c3 => k_is)
    (case k3 => k_is)
    (case a4 => k_is)
    (case l4 => k_is)
    (case c4 => k_is)
    (case k4 => k_is)
    (case a5 => k_is)
    (case l5 => k_is)
    (case c5 => k_is)
    (case k5 => k_is)
    (case a6 => k_is)
    (case l6 => k_is)
    (case c6 => k_is)
    (case k6 => k_is)
    (case a7 => k_is)
    (case l7 => k_is)
    (case c7 => k_is)
    (case k7 => k_is)
    (case a8 => k_is)
    (case l8 => k_is)
    (case c8 => k_is)
    (case k8 => k_is)
    (case a9 => k_is)
    (case l9 => k_is)
    (case c9 => k_is)
    (case k9 => k_is)
    (case a10 => k_is)
    (case l10 => k_is)
    (case c10 => k_is)
    (case k10 => k_is)
    (case a11 => k_is)
    (case l11 => k_is)
    (case c11 => k_is)
    (case k11 => k_is)
    (case a12 => k_is)
    (case l12 => k_is)
    (case c12 => k_is)
    (case k12 => k_is)
    (case a13 => k_is)
    (case l13 => k_is)
    (case c13 => k_is)
    (case k13 => k_is)
    (case a14 => k_is)
    (case l14 => k_is)
    (case c14 => k_is)
    (case k14 => k_is)
    (case a15 => k_is)
    (case l15 => k_is)
    (case c15 => k_is)
    (case k15 => k_is)
    (case a16 => k_is)
    (case l16 => k_is)
    (case c16 => k_is)
    (case k16 => k_is)
    (case a17 => k_is)
    (case l17 => k_is)
    (case c17 => k_is)
    (case k17 => k_is)
    (case a18 => k_is)
    (case l18 => k_is)
    (case c18 => k_is)
    (case k18 => k_is)
    (case a19 => k_is)
    (case l19 => k_is)
    (case c19 => k_is)
    (case k19 => k_is)
    (case a20 => k_is)
    (case l20 => k_is)
    (case c20 => k_is)
    (case k20 => k_is)
    (case a21 => k_is)
    (case l21 => k_is)
    (case c21 => k_is)
    (case k21 => k_is)
    (case a22 => k_is)
    (case l22 => k_is)
    (case c22 => k_is)
    (case k22 => k_is)
    (case a23 => k_is)
    (case l23 => k_is)
    (case c23 => k_is)
    (case k23 => k_is)
    (case a24 => k_is)
    (case l24 => k_is)
    (case c24 => k_is)
    (case k24 => k_is)
    (case a25 => k_is)
    (case l25 => k_is)
    (case c25 => k_is)
    (case k25 => k_is)
    (case a26 => k_is)
    (case l26 => k_is)
    (case c26 => k_is)
    (case k26 => k_is)
    (case a27 => k_is)
    (case l27 => k_is)
    (case c27 => k_is)
    (case k27 => k_is)
    (case a28 => k_is)
    (case l28 => k_is)
    (case c28 => k_is)
    (case k28 => k_is)
    (case a29 => k_is)
    (case l29 => k_is)
    (case c29 => k_is)
    (case k29 => k_is)
    (case hd29 => kernel_rfl)
    (case np29 => kernel_rfl)
    (case zb_ValueError => k_is)
    (case zb_all => k_is)
    (case zb_any => k_is)
    (case zb_bool => k_is)
    (case zb_int => k_is)
    (case zb_isinstance => k_is)
    (case zb_len => k_is)
    (case zb_list => k_is)
    (case zb_max => k_is)
    (case zb_min => k_is)
    (case zb_range => k_is)
    (case zb_sorted => k_is)
    (case zb_sum => k_is)
    (case zb_tuple => k_is)
    (case zb_zip => k_is)
    (case zc_MOST_COST => k_is)
    (case zc_MOST_FAULTS => k_is)
    (case zc_MOST_KICKERS => k_is)
    (case zc_MOST_PLACE => k_is)
    (case zc_MOST_SLIPS => k_is)
    (case zc_MOST_SPOTS => k_is)
    (case xa_BadBelt => k_is)
    (case xa_BadPlan => k_is)
    (case xa_BadBottle => k_is)
    (case xa_BadNumber => k_is)
    (case xa_BadPaper => k_is)
    (case xa_NoPlan => k_is)
    (case xa_BadText => k_is)
    (case xe_BadBelt => k_exc)
    (case xk_BadBelt => k_is)
    (case xs_BadBelt => k_is)
    (case xt_BadBelt => k_is)
    (case xe_BadBottle => k_exc)
    (case xk_BadBottle => k_is)
    (case xs_BadBottle => k_is)
    (case xt_BadBottle => k_is)
    (case xe_BadNumber => k_exc)
    (case xk_BadNumber => k_is)
    (case xs_BadNumber => k_is)
    (case xt_BadNumber => k_is)
    (case xe_BadPlan => k_exc)
    (case xk_BadPlan => k_is)
    (case xs_BadPlan => k_is)
    (case xt_BadPlan => k_is)
    (case ya => k_is)
    (case ex_BadBelt => kernel_rfl)
    (case kv_BadBelt => kernel_rfl)
    (case eg_BadBelt => k_is)
    (case ek_BadBelt => k_is)
    (case es_BadBelt => k_is)
    (case ed_BadBelt => k_is)
    (case ea_BadBelt => k_is)
    (case en_BadBelt => k_is)
    (case et_BadBelt => k_is)
    (case em_BadBelt => k_is)
    (case kk_BadBelt_BadBelt => kernel_rfl)
    (case kk_BadBelt_BadPlan => kernel_rfl)
    (case kk_BadBelt_BadBottle => kernel_rfl)
    (case kk_BadBelt_BadNumber => kernel_rfl)
    (case kk_BadBelt_BadPaper => kernel_rfl)
    (case kk_BadBelt_NoPlan => kernel_rfl)
    (case kk_BadBelt_BadText => kernel_rfl)
    (case ex_BadPlan => kernel_rfl)
    (case kv_BadPlan => kernel_rfl)
    (case eg_BadPlan => k_is)
    (case ek_BadPlan => k_is)
    (case es_BadPlan => k_is)
    (case ed_BadPlan => k_is)
    (case ea_BadPlan => k_is)
    (case en_BadPlan => k_is)
    (case et_BadPlan => k_is)
    (case em_BadPlan => k_is)
    (case kk_BadPlan_BadBelt => kernel_rfl)
    (case kk_BadPlan_BadPlan => kernel_rfl)
    (case kk_BadPlan_BadBottle => kernel_rfl)
    (case kk_BadPlan_BadNumber => kernel_rfl)
    (case kk_BadPlan_BadPaper => kernel_rfl)
    (case kk_BadPlan_NoPlan => kernel_rfl)
    (case kk_BadPlan_BadText => kernel_rfl)
    (case ex_BadBottle => kernel_rfl)
    (case kv_BadBottle => kernel_rfl)
    (case eg_BadBottle => k_is)
    (case ek_BadBottle => k_is)
    (case es_BadBottle => k_is)
    (case ed_BadBottle => k_is)
    (case ea_BadBottle => k_is)
    (case en_BadBottle => k_is)
    (case et_BadBottle => k_is)
    (case em_BadBottle => k_is)
    (case kk_BadBottle_BadBelt => kernel_rfl)
    (case kk_BadBottle_BadPlan => kernel_rfl)
    (case kk_BadBottle_BadBottle => kernel_rfl)
    (case kk_BadBottle_BadNumber => kernel_rfl)
    (case kk_BadBottle_BadPaper => kernel_rfl)
    (case kk_BadBottle_NoPlan => kernel_rfl)
    (case kk_BadBottle_BadText => kernel_rfl)
    (case ex_BadNumber => kernel_rfl)
    (case kv_BadNumber => kernel_rfl)
    (case eg_BadNumber => k_is)
    (case ek_BadNumber => k_is)
    (case es_BadNumber => k_is)
    (case ed_BadNumber => k_is)
    (case ea_BadNumber => k_is)
    (case en_BadNumber => k_is)
    (case et_BadNumber => k_is)
    (case em_BadNumber => k_is)
    (case kk_BadNumber_BadBelt => kernel_rfl)
    (case kk_BadNumber_BadPlan => kernel_rfl)
    (case kk_BadNumber_BadBottle => kernel_rfl)
    (case kk_BadNumber_BadNumber => kernel_rfl)
    (case kk_BadNumber_BadPaper => kernel_rfl)
    (case kk_BadNumber_NoPlan => kernel_rfl)
    (case kk_BadNumber_BadText => kernel_rfl)
    (case ex_BadPaper => kernel_rfl)
    (case kv_BadPaper => kernel_rfl)
    (case eg_BadPaper => k_is)
    (case ek_BadPaper => k_is)
    (case es_BadPaper => k_is)
    (case ed_BadPaper => k_is)
    (case ea_BadPaper => k_is)
    (case en_BadPaper => k_is)
    (case et_BadPaper => k_is)
    (case em_BadPaper => k_is)
    (case kk_BadPaper_BadBelt => kernel_rfl)
    (case kk_BadPaper_BadPlan => kernel_rfl)
    (case kk_BadPaper_BadBottle => kernel_rfl)
    (case kk_BadPaper_BadNumber => kernel_rfl)
    (case kk_BadPaper_BadPaper => kernel_rfl)
    (case kk_BadPaper_NoPlan => kernel_rfl)
    (case kk_BadPaper_BadText => kernel_rfl)
    (case ex_NoPlan => kernel_rfl)
    (case kv_NoPlan => kernel_rfl)
    (case eg_NoPlan => k_is)
    (case ek_NoPlan => k_is)
    (case es_NoPlan => k_is)
    (case ed_NoPlan => k_is)
    (case ea_NoPlan => k_is)
    (case en_NoPlan => k_is)
    (case et_NoPlan => k_is)
    (case em_NoPlan => k_is)
    (case kk_NoPlan_BadBelt => kernel_rfl)
    (case kk_NoPlan_BadPlan => kernel_rfl)
    (case kk_NoPlan_BadBottle => kernel_rfl)
    (case kk_NoPlan_BadNumber => kernel_rfl)
    (case kk_NoPlan_BadPaper => kernel_rfl)
    (case kk_NoPlan_NoPlan => kernel_rfl)
    (case kk_NoPlan_BadText => kernel_rfl)
    (case ex_BadText => kernel_rfl)
    (case kv_BadText => kernel_rfl)
    (case eg_BadText => k_is)
    (case ek_BadText => k_is)
    (case es_BadText => k_is)
    (case ed_BadText => k_is)
    (case ea_BadText => k_is)
    (case en_BadText => k_is)
    (case et_BadText => k_is)
    (case em_BadText => k_is)
    (case kk_BadText_BadBelt => kernel_rfl)
    (case kk_BadText_BadPlan => kernel_rfl)
    (case kk_BadText_BadBottle => kernel_rfl)
    (case kk_BadText_BadNumber => kernel_rfl)
    (case kk_BadText_BadPaper => kernel_rfl)
    (case kk_BadText_NoPlan => kernel_rfl)
    (case kk_BadText_BadText => kernel_rfl)
