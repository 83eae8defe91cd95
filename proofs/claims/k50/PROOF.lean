import PyProof.Rows.All
import Wide.All
import OpenK.AllK
import Wide.FinOn
import HandS.ForMost
import HandS.Wide
import HandS.IsInst
import HandS.TupAny
import HandS.TupMul
import HandS.TupLe
import HandS.Deep
import HandS.Flow
import HandS.WideBits
import HandS.Style
import KE.SortData
import KE.DataMinMax
import KE.DataAny
import PyProof.Rows.SumAny
import PyProof.WalksMore
import HandS.Zip
import HandS.Rev
import KE.GoesMore
import PyProof.EnumMake
import PyProof.Draws
import PySem.Challenge.RW_sealskept_k50_whole_audits
set_option Elab.async false
set_option linter.all false
set_option maxRecDepth 100000
set_option maxHeartbeats 1000000
/-! the evaluator's values, how they stand in the heap, the readings -/
namespace EV
open PySem L2

abbrev D := PyData
/-- the heap without what stands at O -/
def cut (H : Hp) (O : List Addr) : Hp := fun a => if a ∈ O then none else H a
theorem cut_of {H : Hp} {O : List Addr} {a : Addr} {o : HO} (h : cut H O a = some o) : a ∉ O ∧ H a = some o := by
  unfold cut at h
  split at h
  · cases h
  · exact ⟨by assumption, h⟩
theorem cut_mk {H : Hp} {O : List Addr} {a : Addr} {o : HO} (n : a ∉ O) (h : H a = some o) : cut H O a = some o := by
  unfold cut
  rw [if_neg n]
  exact h
theorem cut_same {H H' : Hp} (h : Same H H') (O : List Addr) : Same (cut H O) (cut H' O) := fun b o e =>
  cut_mk (cut_of e).1 (h b o (cut_of e).2)
theorem cut_le {H : Hp} {O O' : List Addr} (h : ∀ a ∈ O, a ∈ O') : Same (cut H O') (cut H O) := fun b o e =>
  cut_mk (fun z => (cut_of e).1 (h b z)) (cut_of e).2
theorem cut_all (H : Hp) (O : List Addr) : Same (cut H O) H := fun b o e => (cut_of e).2
theorem cut_new {H H' : Hp} {O : List Addr} {p : Addr} (h : Same H H') (n : H p = none) : Same (cut H O) (cut H' (p :: O)) := fun b o e => by
  obtain ⟨e1, e2⟩ := cut_of e
  refine cut_mk (fun z => ?_) (h b o e2)
  rcases List.mem_cons.mp z with rfl | z
  · rw [n] at e2; cases e2
  · exact e1 z
theorem same_seqT {K : PySem.W.Frag} {H H' : Hp} {a : Addr} {xs : List V} (e : Same H H') (h : SqT K H a xs) : SqT K H' a xs := by
  rcases h with (h | ⟨o, h⟩) | h
  · exact .inl (.inl (e _ _ h))
  · exact .inl (.inr ⟨o, e _ _ h⟩)
  · exact .inr h
mutual
theorem dp_mono {K : PySem.W.Frag} {H H' : Hp} (m : Same H H') : ∀ {d : D} {v : V}, Dp K H v d → Dp K H' v d
  | .none, _, h => by cases h; exact .non
  | .bool b, _, h => by cases h; exact .bl b
  | .int i, _, h => by cases h; exact .int i
  | .str x, _, h => by cases h; exact .str x
  | .list ds, _, h => by
    cases h with
    | lst a b => exact .lst (m.seq a) (dpa_mono m b)
  | .tuple ds, _, h => by
    cases h with
    | tup a b => exact .tup (same_seqT m a) (dpa_mono m b)
  | .dict _, _, h => by cases h
theorem dpa_mono {K : PySem.W.Frag} {H H' : Hp} (m : Same H H') : ∀ {ds : List D} {vs : List V}, DpAll K H vs ds → DpAll K H' vs ds
  | [], _, h => by cases h; exact .nil
  | d :: ds, _, h => by
    cases h with
    | cons a b => exact .cons (dp_mono m a) (dpa_mono m b)
end
theorem dpa_len {K : PySem.W.Frag} {H : Hp} : ∀ {vs : List V} {ds : List D}, DpAll K H vs ds → vs.length = ds.length
  | _, _, .nil => rfl
  | _, _, .cons _ t => by simp [dpa_len t]
theorem dpa_append {K : PySem.W.Frag} {H : Hp} : ∀ {vs ws : List V} {ds es : List D}, DpAll K H vs ds → DpAll K H ws es → DpAll K H (vs ++ ws) (ds ++ es)
  | _, _, _, _, .nil, h => h
  | _, _, _, _, .cons a b, h => .cons a (dpa_append b h)
theorem dpa_get {K : PySem.W.Frag} {H : Hp} : ∀ {vs : List V} {ds : List D} {i : Nat} {d : D}, DpAll K H vs ds → ds[i]? = some d → ∃ v, vs[i]? = some v ∧ Dp K H v d
  | _, _, _, _, .nil, e => by simp at e
  | _, _, 0, _, .cons a b, e => by simp at e; subst e; exact ⟨_, rfl, a⟩
  | _, _, i + 1, _, .cons a b, e => by
    obtain ⟨v, h1, h2⟩ := dpa_get (i := i) b (by simpa using e)
    exact ⟨v, by simpa using h1, h2⟩
theorem dpa_getV {K : PySem.W.Frag} {H : Hp} : ∀ {vs : List V} {ds : List D} {i : Nat} {v : V}, DpAll K H vs ds → vs[i]? = some v → ∃ d, ds[i]? = some d ∧ Dp K H v d
  | _, _, _, _, .nil, e => by simp at e
  | _, _, 0, _, .cons a b, e => by simp at e; subst e; exact ⟨_, rfl, a⟩
  | _, _, i + 1, _, .cons a b, e => by
    obtain ⟨v, h1, h2⟩ := dpa_getV (i := i) b (by simpa using e)
    exact ⟨v, by simpa using h1, h2⟩
theorem dpa_set {K : PySem.W.Frag} {H : Hp} {x : V} {d : D} (r : Dp K H x d) : ∀ {vs : List V} {ds : List D} (i : Nat), DpAll K H vs ds → DpAll K H (vs.set i x) (ds.set i d)
  | _, _, _, .nil => .nil
  | _, _, 0, .cons _ t => .cons r t
  | _, _, i + 1, .cons q t => .cons q (dpa_set r i t)
theorem dpa_take {K : PySem.W.Frag} {H : Hp} : ∀ {vs : List V} {ds : List D} (n : Nat), DpAll K H vs ds → DpAll K H (vs.take n) (ds.take n)
  | _, _, 0, _ => .nil
  | _, _, _ + 1, .nil => .nil
  | _, _, n + 1, .cons r t => .cons r (dpa_take n t)
theorem dpa_drop {K : PySem.W.Frag} {H : Hp} : ∀ {vs : List V} {ds : List D} (n : Nat), DpAll K H vs ds → DpAll K H (vs.drop n) (ds.drop n)
  | _, _, 0, r => r
  | _, _, _ + 1, .nil => .nil
  | _, _, n + 1, .cons _ t => dpa_drop n t
theorem dpa_rev {K : PySem.W.Frag} {H : Hp} : ∀ {vs : List V} {ds : List D}, DpAll K H vs ds → DpAll K H vs.reverse ds.reverse
  | _, _, .nil => .nil
  | _, _, .cons a b => by
    rw [List.reverse_cons, List.reverse_cons]
    exact dpa_append (dpa_rev b) (.cons a .nil)

/-- what one holds alone: a list, a dict -/
inductive Ob where
  | lst (xs : List D)
  | dct (kvs : List (D × D))
  | set (xs : List D)
inductive W where
  | d (x : D)
  | o (b : Ob)
abbrev En := List (Option W)
/-- an owned thing as it stands; Hc the heap without what is owned -/
def ObRep (K : PySem.W.Frag) (Hc : Hp) : Ob → HO → Prop
  | .lst xs, o => ∃ vs, o = .lst vs ∧ DpAll K Hc vs xs
  | .dct _, _ => False
  | .set _, _ => False
theorem ob_mono {K : PySem.W.Frag} {H H' : Hp} (m : Same H H') : ∀ {b : Ob} {o : HO}, ObRep K H b o → ObRep K H' b o
  | .lst _, _, ⟨vs, e, h⟩ => ⟨vs, e, dpa_mono m h⟩
  | .dct _, _, h => h
  | .set _, _, h => h

/-- an expression's result: frozen, or new and one's own -/
def Res (K : PySem.W.Frag) (H H' : Hp) (O : List Addr) : W → V → Prop
  | .d x, u => Dp K (cut H' O) u x
  | .o b, u => ∃ p ho, u = .ref p ∧ p ∉ O ∧ H p = none ∧ H' p = some ho ∧ ObRep K (cut H' (p :: O)) b ho
/-- the same, only to be looked at -/
def BRes (K : PySem.W.Frag) (H' : Hp) (O : List Addr) : W → V → Prop
  | .d x, u => Dp K (cut H' O) u x
  | .o b, u => ∃ p ho, u = .ref p ∧ H' p = some ho ∧ ObRep K (cut H' O) b ho
/-- a slot's value -/
def Slot (K : PySem.W.Frag) (H : Hp) (O : List Addr) : W → V → Prop
  | .d x, u => Dp K (cut H O) u x
  | .o b, u => ∃ p ho, u = .ref p ∧ p ∈ O ∧ H p = some ho ∧ ObRep K (cut H O) b ho
/-- what is owned stands -/
def Has (H : Hp) (O : List Addr) : Prop := ∀ a ∈ O, ∃ o, H a = some o
theorem Has.mono {H H' : Hp} {O : List Addr} (h : Has H O) (m : Same H H') : Has H' O := fun a z => let ⟨o, e⟩ := h a z; ⟨o, m _ _ e⟩
theorem Has.not {H : Hp} {O : List Addr} {p : Addr} (h : Has H O) (n : H p = none) : p ∉ O := fun z => by
  obtain ⟨o, e⟩ := h p z
  rw [n] at e; cases e
structure EnvRep (K : PySem.W.Frag) (H : Hp) (O : List Addr) (env : En) (σ : St) : Prop where
  has : Has H O
  len : env.length = σ.length
  slot : ∀ (i : Nat) (w : W), env[i]? = some (some w) → ∃ u, σ[i]? = some (some u) ∧ Slot K H O w u
  apart : ∀ (i j : Nat) (b c : Ob) (p : Addr), env[i]? = some (some (.o b)) → env[j]? = some (some (.o c)) → σ[i]? = some (some (.ref p)) → σ[j]? = some (some (.ref p)) → i = j
section
variable {K : PySem.W.Frag} {H H' H1 H2 : Hp} {O O' : List Addr} {env : En} {σ : St} {w : W} {u : V}
theorem Slot.mono (m : Same H H') (h : Slot K H O w u) : Slot K H' O w u := by
  cases w with
  | d x => exact dp_mono (cut_same m O) h
  | o b =>
    obtain ⟨p, ho, e, hp, h1, h2⟩ := h
    exact ⟨p, ho, e, hp, m _ _ h1, ob_mono (cut_same m O) h2⟩
theorem EnvRep.mono (m : Same H H') (h : EnvRep K H O env σ) : EnvRep K H' O env σ :=
  ⟨h.has.mono m, h.len, fun i w e => let ⟨u, a, b⟩ := h.slot i w e; ⟨u, a, b.mono m⟩, h.apart⟩
theorem BRes.mono (m : Same H H') (h : BRes K H O w u) : BRes K H' O w u := by
  cases w with
  | d x => exact dp_mono (cut_same m O) h
  | o b =>
    obtain ⟨p, ho, e, h1, h2⟩ := h
    exact ⟨p, ho, e, m _ _ h1, ob_mono (cut_same m O) h2⟩
theorem Slot.b (h : Slot K H O w u) : BRes K H O w u := by
  cases w with
  | d x => exact h
  | o b =>
    obtain ⟨p, ho, e, hp, h1, h2⟩ := h
    exact ⟨p, ho, e, h1, h2⟩
theorem Res.b (h : Res K H H' O w u) : BRes K H' O w u := by
  cases w with
  | d x => exact h
  | o b =>
    obtain ⟨p, ho, e, hp, h0, h1, h2⟩ := h
    exact ⟨p, ho, e, h1, ob_mono (cut_le fun a z => List.mem_cons_of_mem _ z) h2⟩
/-- a new thing stays new, seen from before -/
theorem Res.back (m : Same H H1) (h : Res K H1 H' O w u) : Res K H H' O w u := by
  cases w with
  | d x => exact h
  | o b =>
    obtain ⟨p, ho, e, hp, h0, h1, h2⟩ := h
    exact ⟨p, ho, e, hp, m.free h0, h1, h2⟩
end

/-! ### readings -/
/-- an expression that gives a value f of the names' values -/
def rE (K : PySem.W.Frag) (f : En → Option W) : TE := fun σ H Q => ∃ O env w, EnvRep K H O env σ ∧ f env = some w ∧ ∀ H' u, Same H H' → Res K H H' O w u → Q u H'
/-- .. only looked at -/
def rB (K : PySem.W.Frag) (f : En → Option W) : TE := fun σ H Q => ∃ O env w, EnvRep K H O env σ ∧ f env = some w ∧ ∀ H' u, Same H H' → BRes K H' O w u → Q u H'
/-- a test -/
def rT (K : PySem.W.Frag) (f : En → Option Bool) : TT := fun σ H Q => ∃ O env b, EnvRep K H O env σ ∧ f env = some b ∧ ∀ H', Same H H' → Q b H'
theorem pe_imp {X : Cx} {e : Expr} {t t' : TE} (h : PE X e t) (i : ∀ σ H Q, t' σ H Q → t σ H Q) : PE X e t' := ⟨fun pins s σ H Q I q => h.run pins s σ H Q I (i σ H Q q)⟩
theorem pt_imp {X : Cx} {e : Expr} {t t' : TT} (h : PT X e t) (i : ∀ σ H Q, t' σ H Q → t σ H Q) : PT X e t' := ⟨fun pins s σ H Q I q => h.run pins s σ H Q I (i σ H Q q)⟩
theorem pw_imp {X : Cx} {e : Expr} {t t' : TT} (h : PW X e t) (i : ∀ σ H Q, t' σ H Q → t σ H Q) : PW X e t' := ⟨fun whole pins s σ H Q I q => h.run whole pins s σ H Q I (i σ H Q q)⟩
section
variable {X : Cx} {e a b : Expr} {f g : En → Option W}
theorem be (h : PE X e (rE X.K f)) : PE X e (rB X.K f) := pe_imp h fun σ H Q ⟨O, env, w, h1, h2, h3⟩ => ⟨O, env, w, h1, h2, fun H' u m r => h3 H' u m r.b⟩

/-! ### names, constants -/
def xVar (i : Nat) : En → Option W := fun env => match env[i]? with
  | some (some (.d x)) => some (.d x)
  | _ => none
def xRd (i : Nat) : En → Option W := fun env => (env[i]?).join
def xC (x : D) : En → Option W := fun _ => some (.d x)
theorem ev_var {i : Nat} {x : Str} {pos : Pos} (hN : X.N[i]? = some x) (hv : Vis X.env.scope x) (hd : (x == ("__debug__" : Str)) = false := by decide) (hcd : (x == ("__classdict__" : Str)) = false := by decide) : PE X (.Name x pos) (rE X.K (xVar i)) :=
  pe_imp (pe_var hN hv hd hcd) fun σ H Q ⟨O, env, w, h1, h2, h3⟩ => by
    unfold xVar at h2
    split at h2
    · rename_i y e
      cases h2
      obtain ⟨u, e1, e2⟩ := h1.slot i _ e
      exact ⟨u, e1, h3 H u (Same.refl _) e2⟩
    · cases h2
theorem ev_rd {i : Nat} {x : Str} {pos : Pos} (hN : X.N[i]? = some x) (hv : Vis X.env.scope x) (hd : (x == ("__debug__" : Str)) = false := by decide) (hcd : (x == ("__classdict__" : Str)) = false := by decide) : PE X (.Name x pos) (rB X.K (xRd i)) :=
  pe_imp (pe_var hN hv hd hcd) fun σ H Q ⟨O, env, w, h1, h2, h3⟩ => by
    unfold xRd at h2
    have e : env[i]? = some (some w) := Option.join_eq_some_iff.mp h2
    obtain ⟨u, e1, e2⟩ := h1.slot i _ e
    exact ⟨u, e1, h3 H u (Same.refl _) e2.b⟩
theorem ev_int {i j pos} : PE X (.Constant (.int i) j pos) (rE X.K (xC (.int i))) := pe_imp pe_int fun σ H Q ⟨O, env, w, h1, h2, h3⟩ => by
  cases h2; exact h3 H _ (Same.refl _) (Dp.int i)
theorem ev_bl {b j pos} : PE X (.Constant (.bool b) j pos) (rE X.K (xC (.bool b))) := pe_imp pe_bl fun σ H Q ⟨O, env, w, h1, h2, h3⟩ => by
  cases h2; exact h3 H _ (Same.refl _) (Dp.bl b)
theorem ev_non {j pos} : PE X (.Constant .none j pos) (rE X.K (xC .none)) := pe_imp pe_non fun σ H Q ⟨O, env, w, h1, h2, h3⟩ => by
  cases h2; exact h3 H _ (Same.refl _) Dp.non
theorem ev_str {x j pos} : PE X (.Constant (.str x) j pos) (rE X.K (xC (.str x))) := pe_imp pe_str fun σ H Q ⟨O, env, w, h1, h2, h3⟩ => by
  cases h2; exact h3 H _ (Same.refl _) (Dp.str x)

/-! ### operations by values -/
/-- what a value rule r must give: of looked-at operands a result comb -/
def Op1 (K : PySem.W.Frag) (comb : W → Option W) (r : V → Hp → VK → Prop) : Prop :=
  ∀ H O x wx w Q, Has H O → BRes K H O wx x → comb wx = some w → (∀ H' u, Same H H' → Res K H H' O w u → Q u H') → r x H Q
def Op2 (K : PySem.W.Frag) (comb : W → W → Option W) (r : R2) : Prop :=
  ∀ H O x y wx wy w Q, Has H O → BRes K H O wx x → BRes K H O wy y → comb wx wy = some w → (∀ H' u, Same H H' → Res K H H' O w u → Q u H') → r x y H Q
def x1 (comb : W → Option W) (f : En → Option W) : En → Option W := fun env => (f env).bind comb
def x2 (comb : W → W → Option W) (f g : En → Option W) : En → Option W := fun env => (f env).bind fun x => (g env).bind fun y => comb x y
theorem rd1 {comb : W → Option W} {r : V → Hp → VK → Prop} (h : Op1 X.K comb r) {σ H Q} (q : rE X.K (x1 comb f) σ H Q) : tUn r (rB X.K f) σ H Q := by
  obtain ⟨O, env, w, h1, h2, h3⟩ := q
  unfold x1 at h2
  obtain ⟨wx, e1, e2⟩ := Option.bind_eq_some_iff.mp h2
  exact ⟨O, env, wx, h1, e1, fun H1 x m1 r1 => h H1 O x wx w Q (h1.has.mono m1) r1 e2 fun H' u m2 r2 => h3 H' u (m1.trans m2) (r2.back m1)⟩
theorem rd2 {comb : W → W → Option W} {r : R2} (h : Op2 X.K comb r) {σ H Q} (q : rE X.K (x2 comb f g) σ H Q) : tOp r (rB X.K f) (rB X.K g) σ H Q := by
  obtain ⟨O, env, w, h1, h2, h3⟩ := q
  unfold x2 at h2
  obtain ⟨wx, e1, e2⟩ := Option.bind_eq_some_iff.mp h2
  obtain ⟨wy, e3, e4⟩ := Option.bind_eq_some_iff.mp e2
  refine ⟨O, env, wx, h1, e1, fun H1 x m1 r1 => ⟨O, env, wy, h1.mono m1, e3, fun H2 y m2 r2 => ?_⟩⟩
  exact h H2 O x y wx wy w Q (h1.has.mono (m1.trans m2)) (r1.mono m2) r2 e4 fun H' u m3 r3 => h3 H' u ((m1.trans m2).trans m3) (r3.back (m1.trans m2))
theorem ev_bin {op : Operator} {pos : Pos} {comb : W → W → Option W} {r : R2} (ho : OpR X (binaryOp op) r) (h : Op2 X.K comb r) (ha : PE X a (rB X.K f)) (hb : PE X b (rB X.K g)) : PE X (.BinOp a op b pos) (rE X.K (x2 comb f g)) :=
  pe_imp (pe_op ho ha hb) fun _ _ _ q => rd2 h q
theorem ev_un {op : UnaryOp} {pos : Pos} {comb : W → Option W} {r : V → Hp → VK → Prop} (ho : UnR X (unaryOp op) r) (h : Op1 X.K comb r) (ha : PE X a (rB X.K f)) : PE X (.UnaryOp op a pos) (rE X.K (x1 comb f)) :=
  pe_imp (pe_un ho ha) fun _ _ _ q => rd1 h q
theorem opr_or {fn : Value → Value → Sem Value} {r r' : R2} (h : OpR X fn r) (h' : OpR X fn r') : OpR X fn (fun x y H Q => r x y H Q ∨ r' x y H Q) := by
  intro pins s σ H x y v u Q I rx ry q
  rcases q with q | q
  · exact h pins s σ H x y v u Q I rx ry q
  · exact h' pins s σ H x y v u Q I rx ry q
end
end EV

set_option Elab.async false
set_option linter.all false
set_option maxRecDepth 100000
set_option maxHeartbeats 1000000
/-! operators, comparisons, tests, displays, subscripts -/
namespace EV
open PySem L2
@[simp] theorem sizeLine_val : sizeLine = 16777216 := sizeLine_eq

/-! ### looking at an operand -/
theorem bres_dp {K : PySem.W.Frag} {H : Hp} {O : List Addr} {x : D} {u : V} (h : BRes K H O (.d x) u) : Dp K H u x := dp_mono (cut_all H O) h
theorem bres_int {K : PySem.W.Frag} {H : Hp} {O : List Addr} {i : Int} {u : V} (h : BRes K H O (.d (.int i)) u) : u = .int i := by
  have h : Dp K (cut H O) u (.int i) := h
  cases h; rfl
theorem bres_bool {K : PySem.W.Frag} {H : Hp} {O : List Addr} {b : Bool} {u : V} (h : BRes K H O (.d (.bool b)) u) : u = .bl b := by
  have h : Dp K (cut H O) u (.bool b) := h
  cases h; rfl
theorem bres_str {K : PySem.W.Frag} {H : Hp} {O : List Addr} {b : Str} {u : V} (h : BRes K H O (.d (.str b)) u) : u = .str b := by
  have h : Dp K (cut H O) u (.str b) := h
  cases h; rfl
theorem bres_none {K : PySem.W.Frag} {H : Hp} {O : List Addr} {u : V} (h : BRes K H O (.d .none) u) : u = .non := by
  have h : Dp K (cut H O) u .none := h
  cases h; rfl
theorem bres_tup {K : PySem.W.Frag} {H : Hp} {O : List Addr} {xs : List D} {u : V} (h : BRes K H O (.d (.tuple xs)) u) : ∃ p vs, u = .ref p ∧ SqT K H p vs ∧ DpAll K (cut H O) vs xs := by
  have h : Dp K (cut H O) u (.tuple xs) := h
  cases h with
  | tup a b => exact ⟨_, _, rfl, same_seqT (cut_all H O) a, b⟩
/-- a list, frozen or one's own -/
def asL : W → Option (List D)
  | .d (.list xs) => some xs
  | .o (.lst xs) => some xs
  | _ => none
@[simp] theorem asL_d (xs : List D) : asL (.d (.list xs)) = some xs := rfl
@[simp] theorem asL_o (xs : List D) : asL (.o (.lst xs)) = some xs := rfl
/-- a list or a tuple -/
def asS : W → Option (List D)
  | .d (.tuple xs) => some xs
  | .d (.list xs) => some xs
  | .o (.lst xs) => some xs
  | _ => none
@[simp] theorem asS_t (xs : List D) : asS (.d (.tuple xs)) = some xs := rfl
@[simp] theorem asS_d (xs : List D) : asS (.d (.list xs)) = some xs := rfl
@[simp] theorem asS_o (xs : List D) : asS (.o (.lst xs)) = some xs := rfl
/-- as data -/
def dat : W → Option D
  | .d x => some x
  | .o (.lst xs) => some (.list xs)
  | _ => none
@[simp] theorem dat_d (x : D) : dat (.d x) = some x := rfl
@[simp] theorem dat_o (xs : List D) : dat (.o (.lst xs)) = some (.list xs) := rfl
section
variable {K : PySem.W.Frag} {H H' : Hp} {O : List Addr} {w : W} {u : V} {xs : List D} {x : D}
theorem bres_lst (h : BRes K H O w u) (e : asL w = some xs) : ∃ p vs, u = .ref p ∧ SqL K H p vs ∧ DpAll K (cut H O) vs xs := by
  unfold asL at e
  split at e
  · cases e
    have h : Dp K (cut H O) u (.list xs) := h
    cases h with
    | lst a b => exact ⟨_, _, rfl, (cut_all H O).seq a, b⟩
  · cases e
    obtain ⟨p, ho, e, h1, vs, rfl, h2⟩ := h
    exact ⟨p, vs, e, .inl (.inl h1), h2⟩
  · cases e
theorem bres_seq (h : BRes K H O w u) (e : asS w = some xs) : ∃ p vs, u = .ref p ∧ (SqL K H p vs ∨ SqT K H p vs) ∧ DpAll K (cut H O) vs xs := by
  unfold asS at e
  split at e
  · cases e
    obtain ⟨p, vs, a, b, c⟩ := bres_tup h
    exact ⟨p, vs, a, .inr b, c⟩
  · obtain ⟨p, vs, a, b, c⟩ := bres_lst (w := .d (.list _)) h e
    exact ⟨p, vs, a, .inl b, c⟩
  · obtain ⟨p, vs, a, b, c⟩ := bres_lst (w := .o (.lst _)) h e
    exact ⟨p, vs, a, .inl b, c⟩
  · cases e
theorem bres_dat (h : BRes K H O w u) (e : dat w = some x) : Dp K H u x := by
  unfold dat at e
  split at e
  · cases e; exact bres_dp h
  · cases e
    obtain ⟨p, ho, rfl, h1, vs, rfl, h2⟩ := h
    exact .lst (.inl (.inl h1)) (dpa_mono (cut_all H O) h2)
  · cases e
/-- a result made data: a new list is frozen -/
theorem res_dat (h : Res K H H' O w u) (e : dat w = some x) : Dp K (cut H' O) u x := by
  unfold dat at e
  split at e
  · cases e; exact h
  · cases e
    obtain ⟨p, ho, rfl, hp, h0, h1, vs, rfl, h2⟩ := h
    exact .lst (.inl (.inl (cut_mk hp h1))) (dpa_mono (cut_le fun a z => List.mem_cons_of_mem _ z) h2)
  · cases e
/-- a new list -/
theorem res_new_lst {p : Addr} {vs : List V} (hO : Has H O) (n : H p = none) (h : DpAll K (cut H O) vs xs) : Res K H (upd H p (.lst vs)) O (.o (.lst xs)) (.ref p) := by
  have np : p ∉ O := hO.not n
  refine ⟨p, _, rfl, np, n, upd_same, vs, rfl, dpa_mono (cut_new (fun b o e => ?_) n) h⟩
  rw [upd_ne (ne_of_none e n)]; exact e
theorem same_upd {p : Addr} {o : HO} (n : H p = none) : Same H (upd H p o) := fun b u e => by
  rw [upd_ne (ne_of_none e n)]; exact e
theorem res_new_tup {p : Addr} {vs : List V} (hO : Has H O) (n : H p = none) (h : DpAll K (cut H O) vs xs) : Res K H (upd H p (.tup vs)) O (.d (.tuple xs)) (.ref p) := by
  have np : p ∉ O := hO.not n
  exact Dp.tup (.inl (.inl (cut_mk np upd_same))) (dpa_mono (cut_same (same_upd n) O) h)
theorem res_d {x : D} (h : Dp K (cut H O) u x) : Res K H H O (.d x) u := h
end

/-! ### ints -/
section
variable {X : Cx} {a b : Expr} {f g : En → Option W} {pos : Pos}
def wInt (F : Int → Int → Int) : W → W → Option W
  | .d (.int i), .d (.int j) => some (.d (.int (F i j)))
  | _, _ => none
def wIntC (C : Int → Int → Bool) (F : Int → Int → Int) : W → W → Option W
  | .d (.int i), .d (.int j) => if C i j then some (.d (.int (F i j))) else none
  | _, _ => none
theorem op2_int {F : Int → Int → Int} : Op2 X.K (wInt F) (rI0 fun i j => .int (F i j)) := fun H O x y wx wy w Q hO hx hy e q => by
  unfold wInt at e
  split at e
  · cases e
    exact ⟨_, _, bres_int hx, bres_int hy, q H _ (Same.refl _) (Dp.int _)⟩
  · cases e
theorem op2_intC {C : Int → Int → Bool} {P : Int → Int → Prop} {F : Int → Int → Int} (hC : ∀ i j, C i j = true → P i j) : Op2 X.K (wIntC C F) (rI P fun i j => .int (F i j)) := fun H O x y wx wy w Q hO hx hy e q => by
  unfold wIntC at e
  split at e
  · split at e
    · cases e
      exact ⟨_, _, bres_int hx, bres_int hy, hC _ _ (by assumption), q H _ (Same.refl _) (Dp.int _)⟩
    · cases e
  · cases e
def mulOk (i j : Int) : Bool := decide (i.natAbs.log2 + j.natAbs.log2 < 1000000) || (decide (i.natAbs < 2 ^ 64) || decide (j.natAbs < 2 ^ 64))
def CMulA (i j : Int) : Prop := CMulW i j ∨ CMul i j
theorem mulOk_ok {i j : Int} (h : mulOk i j = true) : CMulA i j := by
  unfold mulOk at h
  simp only [Bool.or_eq_true, decide_eq_true_eq] at h
  rcases h with h | h | h
  · exact .inl h
  · exact .inr (.inl ⟨by omega, by omega⟩)
  · exact .inr (.inr ⟨by omega, by omega⟩)
theorem op_mulA : OpR X (binaryOp .Mult) (rI CMulA fun i j => .int (i * j)) := opI fun _ _ _ _ _ _ _ hc q => PyProof.Rows.mul_int q (hc.elim CMulW.ok CMul.ok)
theorem iop_mulA : OpR X (inplaceOp .Mult) (rI CMulA fun i j => .int (i * j)) := opI fun _ _ _ _ _ _ _ hc q => PyProof.Rows.imul_int q (hc.elim CMulW.ok CMul.ok)
/-! ### + -/
def rCatL (K : PySem.W.Frag) : R2 := fun x y H Q => ∃ l b xs zs, x = .ref l ∧ y = .ref b ∧ SqL K H l xs ∧ SqL K H b zs ∧ xs.length + zs.length ≤ sizeLine ∧ ∀ p, H p = none → Q (.ref p) (upd H p (.lst (xs ++ zs)))
theorem op_catL : OpR X (binaryOp .Add) (rCatL X.K) := by
  intro pins s σ H x y v u Q I rx ry h
  obtain ⟨l, b, xs, zs, rfl, rfl, hl, hb, hz, q⟩ := h
  cases rx
  cases ry
  obtain ⟨its, r1, ⟨⟨cls, dd, data, sl⟩, n, ho, hc, hd, hdt⟩, _⟩ := I.list hl
  obtain ⟨its2, r2, ⟨⟨cls2, dd2, data2, sl2⟩, n2, ho2, hc2, hd2, hdt2⟩, _⟩ := I.list hb
  simp only at hc hd hdt hc2 hd2 hdt2
  subst hc hd hdt hc2 hd2 hdt2
  have e : its.toArray ++ its2.toArray = (its ++ its2).toArray := by simp
  have z1 := r1.length
  have z2 := r2.length
  refine PySem.concat_meets ⟨_, ho, rfl⟩ ⟨_, ho2, rfl⟩ noFill_list_add seq_list_add F.slot_list_add F.entry_list_add (F.args_list_add_2 _ _)
    (PyProof.Rows.list_addW l b its.toArray its2.toArray n n2 none none sl sl2 (by rw [List.size_toArray, List.size_toArray]; omega)) ⟨ho, ho2, ?_⟩
  rw [e]
  refine ⟨.ref s.heap.objs.size, _, I.laid (t' := s.toks) (o := .lst (xs ++ zs)) (fun b ob q => Heap.get?_push_of_some _ q) (Nat.le_refl _) ?_, rfl, q _ (I.hok.fresh (Nat.le_refl _))⟩
  exact ⟨by rw [List.length_append]; exact hz, _, _, r1.append r2, Heap.get?_push_size _ rfl⟩
def wAdd : W → W → Option W
  | .d (.int i), .d (.int j) => some (.d (.int (i + j)))
  | .d (.str i), .d (.str j) => if i.length + j.length ≤ 16777216 then some (.d (.str (i ++ j))) else none
  | .d (.tuple xs), .d (.tuple ys) => if xs.length + ys.length ≤ 16777216 then some (.d (.tuple (xs ++ ys))) else none
  | x, y => match asL x, asL y with
    | some xs, some ys => if xs.length + ys.length ≤ 16777216 then some (.o (.lst (xs ++ ys))) else none
    | _, _ => none
theorem op2_add : Op2 X.K wAdd (fun x y H Q => rI0 (fun i j => .int (i + j)) x y H Q ∨ ((fun x y H Q => ∃ i j, x = .str i ∧ y = .str j ∧ i.length + j.length ≤ sizeLine ∧ Q (.str (i ++ j)) H) x y H Q ∨ (rCatA X.K x y H Q ∨ rCatL X.K x y H Q))) := fun H O x y wx wy w Q hO hx hy e q => by
  unfold wAdd at e
  split at e
  · cases e
    exact .inl ⟨_, _, bres_int hx, bres_int hy, q H _ (Same.refl _) (Dp.int _)⟩
  · split at e
    · cases e
      exact .inr (.inl ⟨_, _, bres_str hx, bres_str hy, by rw [sizeLine_val]; assumption, q H _ (Same.refl _) (Dp.str _)⟩)
    · cases e
  · split at e
    · cases e
      obtain ⟨p, vs, rfl, h1, h2⟩ := bres_tup hx
      obtain ⟨p2, vs2, rfl, h3, h4⟩ := bres_tup hy
      have l1 := dpa_len h2
      have l2 := dpa_len h4
      refine .inr (.inr (.inl ⟨p, p2, vs, vs2, rfl, rfl, h1, h3, by rw [sizeLine_val]; omega, fun z => ?_, fun _ z => ?_, fun _ _ r n => ?_⟩))
      · subst z
        cases h2
        exact q H _ (Same.refl _) hy
      · subst z
        cases h4
        rw [List.append_nil] at q
        exact q H _ (Same.refl _) hx
      · exact q _ _ (same_upd n) (res_new_tup hO n (dpa_append h2 h4))
    · cases e
  · split at e
    · rename_i e1 e2
      split at e
      · cases e
        obtain ⟨p, vs, rfl, h1, h2⟩ := bres_lst hx e1
        obtain ⟨p2, vs2, rfl, h3, h4⟩ := bres_lst hy e2
        have l1 := dpa_len h2
        have l2 := dpa_len h4
        refine .inr (.inr (.inr ⟨p, p2, vs, vs2, rfl, rfl, h1, h3, by rw [sizeLine_val]; omega, fun r n => ?_⟩))
        exact q _ _ (same_upd n) (res_new_lst hO n (dpa_append h2 h4))
      · cases e
    · cases e
theorem ev_add (ha : PE X a (rB X.K f)) (hb : PE X b (rB X.K g)) : PE X (.BinOp a .Add b pos) (rE X.K (x2 wAdd f g)) :=
  ev_bin (opr_or op_add (opr_or op_add_str (opr_or op_catA op_catL))) op2_add ha hb
theorem ev_sub (ha : PE X a (rB X.K f)) (hb : PE X b (rB X.K g)) : PE X (.BinOp a .Sub b pos) (rE X.K (x2 (wInt fun i j => i - j) f g)) := ev_bin op_sub op2_int ha hb
/-! ### * -/
def rRepL (K : PySem.W.Frag) : R2 := fun x y H Q => ∃ l k xs, x = .ref l ∧ y = .int k ∧ Rd H l (.lst xs) ∧ -(2 ^ 63) ≤ k ∧ k < 2 ^ 63 ∧ xs.length * k.toNat ≤ sizeLine ∧
  ∀ p, H p = none → Q (.ref p) (upd H p (.lst (List.replicate k.toNat xs).flatten))
/-- what * can do: ints; a new list times an int -/
def wMul : W → W → Option W
  | .d (.int i), .d (.int j) => if mulOk i j then some (.d (.int (i * j))) else none
  | .o (.lst xs), .d (.int k) => if k < 2 ^ 24 ∧ -(2 ^ 24) ≤ k ∧ xs.length * k.toNat ≤ 16777216 then some (.o (.lst (List.replicate k.toNat xs).flatten)) else none
  | _, _ => none
theorem dpa_rep {K : PySem.W.Frag} {H : Hp} {vs : List V} {xs : List D} (h : DpAll K H vs xs) : ∀ n : Nat, DpAll K H (List.replicate n vs).flatten (List.replicate n xs).flatten
  | 0 => .nil
  | n + 1 => by
    rw [List.replicate_succ, List.replicate_succ, List.flatten_cons, List.flatten_cons]
    exact dpa_append h (dpa_rep h n)
theorem op2_mul : Op2 X.K wMul (fun x y H Q => rI CMulA (fun i j => .int (i * j)) x y H Q ∨ rRep x y H Q) := fun H O x y wx wy w Q hO hx hy e q => by
  unfold wMul at e
  split at e
  · split at e
    · cases e
      exact .inl ⟨_, _, bres_int hx, bres_int hy, mulOk_ok (by assumption), q H _ (Same.refl _) (Dp.int _)⟩
    · cases e
  · split at e
    · cases e
      rename_i hk
      obtain ⟨p, ho, rfl, h1, vs, rfl, h2⟩ := hx
      have l1 := dpa_len h2
      exact .inr ⟨p, _, vs, rfl, bres_int hy, h1, by omega, by omega, by rw [sizeLine_val, l1]; exact hk.2.2, fun r n => q _ _ (same_upd n) (res_new_lst hO n (dpa_rep h2 _))⟩
    · cases e
  · cases e
theorem ev_mul (ha : PE X a (rB X.K f)) (hb : PE X b (rB X.K g)) : PE X (.BinOp a .Mult b pos) (rE X.K (x2 wMul f g)) := ev_bin (opr_or op_mulA op_rep) op2_mul ha hb
/-! ### //, %, ** and bits -/
def fdOk (i j : Int) : Bool := (decide (0 < j) && decide (j.natAbs.log2 < 9000)) || (decide (j < 0) && decide (j.natAbs < 1073741824))
def CDivA (i j : Int) : Prop := CDivW i j ∨ CDivN i j
theorem op_fdivA : OpR X (binaryOp .FloorDiv) (rI CDivA fun i j => .int (i.fdiv j)) := opI fun i j _ _ _ _ _ hc q => by
  rcases hc with hc | hc
  · have h1 : (0 : Int) < j := hc.1
    exact PyProof.Rows.floordiv_int (by omega) q (.inl (PyProof.noPylong_of_log2 hc.2))
  · exact PyProof.Rows.floordiv_int hc.1 q (.inl (PyProof.noPylong_small hc.2))
theorem fdOk_ok (i j : Int) (h : fdOk i j = true) : CDivA i j := by
  unfold fdOk at h
  simp only [Bool.or_eq_true, Bool.and_eq_true, decide_eq_true_eq] at h
  rcases h with h | h
  · exact .inl h
  · exact .inr ⟨by omega, h.2⟩
theorem ev_fdiv (ha : PE X a (rB X.K f)) (hb : PE X b (rB X.K g)) : PE X (.BinOp a .FloorDiv b pos) (rE X.K (x2 (wIntC fdOk Int.fdiv) f g)) := ev_bin op_fdivA (op2_intC fdOk_ok) ha hb
theorem ev_mod (ha : PE X a (rB X.K f)) (hb : PE X b (rB X.K g)) : PE X (.BinOp a .Mod b pos) (rE X.K (x2 (wIntC (fun _ j => decide (j ≠ 0)) Int.fmod) f g)) :=
  ev_bin op_modN (op2_intC fun i j h => of_decide_eq_true h) ha hb
def powOk (i j : Int) : Bool := decide (0 ≤ j ∧ j ≤ 1000000 ∧ i.natAbs < 2 ^ 64)
theorem powOk_ok (i j : Int) (h : powOk i j = true) : CPow i j := by
  unfold powOk at h
  have h2 := of_decide_eq_true h
  exact h2
theorem ev_pow (ha : PE X a (rB X.K f)) (hb : PE X b (rB X.K g)) : PE X (.BinOp a .Pow b pos) (rE X.K (x2 (wIntC powOk fun i j => i ^ j.toNat) f g)) := ev_bin op_pow (op2_intC powOk_ok) ha hb
theorem ev_shl (ha : PE X a (rB X.K f)) (hb : PE X b (rB X.K g)) : PE X (.BinOp a .LShift b pos) (rE X.K (x2 (wIntC powOk fun i j => i * 2 ^ j.toNat) f g)) := ev_bin op_shl (op2_intC powOk_ok) ha hb
theorem ev_shr (ha : PE X a (rB X.K f)) (hb : PE X b (rB X.K g)) : PE X (.BinOp a .RShift b pos) (rE X.K (x2 (wIntC (fun _ j => decide (0 ≤ j)) fun i j => i / 2 ^ j.toNat) f g)) :=
  ev_bin op_shr (op2_intC fun i j h => of_decide_eq_true h) ha hb
theorem ev_and (ha : PE X a (rB X.K f)) (hb : PE X b (rB X.K g)) : PE X (.BinOp a .BitAnd b pos) (rE X.K (x2 (wInt Builtin.bitAnd) f g)) := ev_bin op_and op2_int ha hb
theorem ev_or (ha : PE X a (rB X.K f)) (hb : PE X b (rB X.K g)) : PE X (.BinOp a .BitOr b pos) (rE X.K (x2 (wInt Builtin.bitOr) f g)) := ev_bin op_or op2_int ha hb
theorem ev_xor (ha : PE X a (rB X.K f)) (hb : PE X b (rB X.K g)) : PE X (.BinOp a .BitXor b pos) (rE X.K (x2 (wInt Builtin.bitXor) f g)) := ev_bin op_xor op2_int ha hb
def wNeg : W → Option W
  | .d (.int i) => some (.d (.int (-i)))
  | _ => none
theorem op1_neg : Op1 X.K wNeg (rU fun i => .int (-i)) := fun H O x wx w Q hO hx e q => by
  unfold wNeg at e
  split at e
  · cases e
    exact ⟨_, bres_int hx, q H _ (Same.refl _) (Dp.int _)⟩
  · cases e
theorem ev_neg (ha : PE X a (rB X.K f)) : PE X (.UnaryOp .USub a pos) (rE X.K (x1 wNeg f)) := ev_un un_neg op1_neg ha
def wInv : W → Option W
  | .d (.int i) => some (.d (.int (Builtin.bitNot i)))
  | _ => none
theorem op1_inv : Op1 X.K wInv (rU fun i => .int (Builtin.bitNot i)) := fun H O x wx w Q hO hx e q => by
  unfold wInv at e
  split at e
  · cases e
    exact ⟨_, bres_int hx, q H _ (Same.refl _) (Dp.int _)⟩
  · cases e
theorem ev_inv (ha : PE X a (rB X.K f)) : PE X (.UnaryOp .Invert a pos) (rE X.K (x1 wInv f)) := ev_un un_inv op1_inv ha
end
end EV

set_option Elab.async false
set_option linter.all false
set_option maxRecDepth 100000
set_option maxHeartbeats 1000000
/-! comparisons, tests, and | or, displays, subscripts -/
namespace EV
open PySem L2
section
variable {X : Cx} {e a b c : Expr} {f g h : En → Option W} {pos : Pos}

/-! ### comparisons -/
def Op2B (K : PySem.W.Frag) (comb : W → W → Option Bool) (r : R2) : Prop :=
  ∀ H O x y wx wy c Q, Has H O → BRes K H O wx x → BRes K H O wy y → comb wx wy = some c → Q (.bl c) H → r x y H Q
def t2 (comb : W → W → Option Bool) (f g : En → Option W) : En → Option Bool := fun env => (f env).bind fun x => (g env).bind fun y => comb x y
/-- a truth value as a value -/
def bw (c : Bool) : W := .d (.bool c)
def xB (f : En → Option Bool) : En → Option W := fun env => (f env).map bw
theorem rd2B {comb : W → W → Option Bool} {r : R2} (hr : Op2B X.K comb r) {σ H Q} (q : rE X.K (xB (t2 comb f g)) σ H Q) : tOp r (rB X.K f) (rB X.K g) σ H Q := by
  obtain ⟨O, env, w, h1, h2, h3⟩ := q
  unfold xB t2 at h2
  obtain ⟨cc, e0, rfl⟩ := Option.map_eq_some_iff.mp h2
  obtain ⟨wx, e1, e2⟩ := Option.bind_eq_some_iff.mp e0
  obtain ⟨wy, e3, e4⟩ := Option.bind_eq_some_iff.mp e2
  refine ⟨O, env, wx, h1, e1, fun H1 x m1 r1 => ⟨O, env, wy, h1.mono m1, e3, fun H2 y m2 r2 => ?_⟩⟩
  exact hr H2 O x y wx wy cc Q (h1.has.mono (m1.trans m2)) (r1.mono m2) r2 e4 (h3 H2 _ (m1.trans m2) (Dp.bl cc))
theorem rd2T {comb : W → W → Option Bool} {r : R2} (hr : Op2B X.K comb r) {σ H Q} (q : rT X.K (t2 comb f g) σ H Q) : tTest (tOp r (rB X.K f) (rB X.K g)) σ H Q := by
  obtain ⟨O, env, cc, h1, e0, h3⟩ := q
  unfold t2 at e0
  obtain ⟨wx, e1, e2⟩ := Option.bind_eq_some_iff.mp e0
  obtain ⟨wy, e3, e4⟩ := Option.bind_eq_some_iff.mp e2
  refine ⟨O, env, wx, h1, e1, fun H1 x m1 r1 => ⟨O, env, wy, h1.mono m1, e3, fun H2 y m2 r2 => ?_⟩⟩
  exact hr H2 O x y wx wy cc _ (h1.has.mono (m1.trans m2)) (r1.mono m2) r2 e4 ⟨cc, rfl, h3 H2 (m1.trans m2)⟩
theorem ev_cmp {op : CmpOp} {comb : W → W → Option Bool} {r : R2} (ho : OpR X (compareOp op) r) (hr : Op2B X.K comb r) (ha : PE X a (rB X.K f)) (hb : PE X b (rB X.K g)) (hm : behindInMarks op b = false) : PE X (.Compare a [op] [b] pos) (rE X.K (xB (t2 comb f g))) :=
  pe_imp (pe_cmpR ho ha hb hm) fun _ _ _ q => rd2B hr q
theorem et_cmp {op : CmpOp} {comb : W → W → Option Bool} {r : R2} (ho : OpR X (compareOp op) r) (hr : Op2B X.K comb r) (ha : PE X a (rB X.K f)) (hb : PE X b (rB X.K g)) (hm : behindInMarks op b = false) : PT X (.Compare a [op] [b] pos) (rT X.K (t2 comb f g)) :=
  pt_imp (pt_cmpR ho ha hb hm) fun _ _ _ q => rd2T hr q
def cInt (F : Int → Int → Bool) : W → W → Option Bool
  | .d (.int i), .d (.int j) => some (F i j)
  | _, _ => none
theorem op2b_int {F : Int → Int → Bool} : Op2B X.K (cInt F) (rI0 fun i j => .bl (F i j)) := fun H O x y wx wy cc Q hO hx hy e q => by
  unfold cInt at e
  split at e
  · cases e
    exact ⟨_, _, bres_int hx, bres_int hy, q⟩
  · cases e
/-- tuples of ints -/
def asInts : List D → Option (List Int)
  | [] => some []
  | .int i :: r => (asInts r).map (i :: ·)
  | _ => none
theorem asInts_dp {K : PySem.W.Frag} {H : Hp} : ∀ {xs : List D} {vs : List V} {ns : List Int}, asInts xs = some ns → DpAll K H vs xs → vs = ns.map V.int
  | [], _, _, e, .nil => by cases e; rfl
  | .int i :: r, _, _, e, .cons a b => by
    unfold asInts at e
    obtain ⟨ns, e1, rfl⟩ := Option.map_eq_some_iff.mp e
    cases a
    rw [asInts_dp e1 b]; rfl
  | .none :: _, _, _, e, _ => by cases e
  | .bool _ :: _, _, _, e, _ => by cases e
  | .str _ :: _, _, _, e, _ => by cases e
  | .list _ :: _, _, _, e, _ => by cases e
  | .tuple _ :: _, _, _, e, _ => by cases e
  | .dict _ :: _, _, _, e, _ => by cases e
def cLt : W → W → Option Bool
  | .d (.int i), .d (.int j) => some (decide (i < j))
  | .d (.tuple xs), .d (.tuple ys) => match asInts xs, asInts ys with
    | some ns, some ms => some (HT.lexLt ns ms)
    | _, _ => none
  | _, _ => none
theorem op2b_lt : Op2B X.K cLt (fun x y H Q => rI0 (fun i j => .bl (decide (i < j))) x y H Q ∨ rLtT X.K x y H Q) := fun H O x y wx wy cc Q hO hx hy e q => by
  unfold cLt at e
  split at e
  · cases e
    exact .inl ⟨_, _, bres_int hx, bres_int hy, q⟩
  · split at e
    · cases e
      rename_i e1 e2
      obtain ⟨p, vs, rfl, h1, h2⟩ := bres_tup hx
      obtain ⟨p2, vs2, rfl, h3, h4⟩ := bres_tup hy
      have z1 := asInts_dp e1 h2
      have z2 := asInts_dp e2 h4
      subst z1 z2
      exact .inr ⟨_, _, _, _, rfl, rfl, h1, h3, q⟩
    · cases e
  · cases e
theorem ev_lt {k : Nat} (hr : Room k X.A) (ha : PE X a (rB X.K f)) (hb : PE X b (rB X.K g)) : PE X (.Compare a [.Lt] [b] pos) (rE X.K (xB (t2 cLt f g))) := ev_cmp (opr_or op_lt (op_ltT hr.units0)) op2b_lt ha hb (nomark b)
theorem et_lt {k : Nat} (hr : Room k X.A) (ha : PE X a (rB X.K f)) (hb : PE X b (rB X.K g)) : PT X (.Compare a [.Lt] [b] pos) (rT X.K (t2 cLt f g)) := et_cmp (opr_or op_lt (op_ltT hr.units0)) op2b_lt ha hb (nomark b)
theorem ev_le (ha : PE X a (rB X.K f)) (hb : PE X b (rB X.K g)) : PE X (.Compare a [.LtE] [b] pos) (rE X.K (xB (t2 (cInt fun i j => decide (i ≤ j)) f g))) := ev_cmp op_le op2b_int ha hb (nomark b)
theorem et_le (ha : PE X a (rB X.K f)) (hb : PE X b (rB X.K g)) : PT X (.Compare a [.LtE] [b] pos) (rT X.K (t2 (cInt fun i j => decide (i ≤ j)) f g)) := et_cmp op_le op2b_int ha hb (nomark b)
theorem ev_gt (ha : PE X a (rB X.K f)) (hb : PE X b (rB X.K g)) : PE X (.Compare a [.Gt] [b] pos) (rE X.K (xB (t2 (cInt fun i j => decide (j < i)) f g))) := ev_cmp op_gt op2b_int ha hb (nomark b)
theorem et_gt (ha : PE X a (rB X.K f)) (hb : PE X b (rB X.K g)) : PT X (.Compare a [.Gt] [b] pos) (rT X.K (t2 (cInt fun i j => decide (j < i)) f g)) := et_cmp op_gt op2b_int ha hb (nomark b)
theorem ev_ge (ha : PE X a (rB X.K f)) (hb : PE X b (rB X.K g)) : PE X (.Compare a [.GtE] [b] pos) (rE X.K (xB (t2 (cInt fun i j => decide (j ≤ i)) f g))) := ev_cmp op_ge op2b_int ha hb (nomark b)
theorem et_ge (ha : PE X a (rB X.K f)) (hb : PE X b (rB X.K g)) : PT X (.Compare a [.GtE] [b] pos) (rT X.K (t2 (cInt fun i j => decide (j ≤ i)) f g)) := et_cmp op_ge op2b_int ha hb (nomark b)
/-- == of data -/
def cEq : W → W → Option Bool
  | .d (.int i), .d (.int j) => some (i == j)
  | x, y => match dat x, dat y with
    | some u, some v => if SeqAt.shaped u && SeqAt.shaped v then some (PyData.eqv u v) else none
    | _, _ => none
def cNe (x y : W) : Option Bool := (cEq x y).map (!·)
theorem cEq_dat {x y : W} {cc : Bool} (e : cEq x y = some cc) : ∃ u v, dat x = some u ∧ dat y = some v ∧ SeqAt.shaped u = true ∧ SeqAt.shaped v = true ∧ cc = PyData.eqv u v := by
  unfold cEq at e
  split at e
  · cases e
    exact ⟨_, _, rfl, rfl, rfl, rfl, by simp [PyData.eqv]⟩
  · split at e
    · split at e
      · cases e
        rename_i h1 h2 h3
        rw [Bool.and_eq_true] at h3
        exact ⟨_, _, h1, h2, h3.1, h3.2, rfl⟩
      · cases e
    · cases e
theorem op2b_eq : Op2B X.K cEq (rEqD X.K) := fun H O x y wx wy cc Q hO hx hy e q => by
  obtain ⟨u, v, e1, e2, s1, s2, rfl⟩ := cEq_dat e
  exact ⟨u, v, bres_dat hx e1, bres_dat hy e2, s1, s2, q⟩
theorem op2b_ne : Op2B X.K cNe (rNeD X.K) := fun H O x y wx wy cc Q hO hx hy e q => by
  unfold cNe at e
  obtain ⟨c0, e0, rfl⟩ := Option.map_eq_some_iff.mp e
  obtain ⟨u, v, e1, e2, s1, s2, rfl⟩ := cEq_dat e0
  exact ⟨u, v, bres_dat hx e1, bres_dat hy e2, s1, s2, q⟩
theorem ev_eq {k : Nat} (hr : Room k X.A) (ha : PE X a (rB X.K f)) (hb : PE X b (rB X.K g)) : PE X (.Compare a [.Eq] [b] pos) (rE X.K (xB (t2 cEq f g))) := ev_cmp (op_eqD hr.units) op2b_eq ha hb (nomark b)
theorem et_eq {k : Nat} (hr : Room k X.A) (ha : PE X a (rB X.K f)) (hb : PE X b (rB X.K g)) : PT X (.Compare a [.Eq] [b] pos) (rT X.K (t2 cEq f g)) := et_cmp (op_eqD hr.units) op2b_eq ha hb (nomark b)
theorem ev_ne {k : Nat} (hr : Room k X.A) (ha : PE X a (rB X.K f)) (hb : PE X b (rB X.K g)) : PE X (.Compare a [.NotEq] [b] pos) (rE X.K (xB (t2 cNe f g))) := ev_cmp (op_neD hr.units) op2b_ne ha hb (nomark b)
theorem et_ne {k : Nat} (hr : Room k X.A) (ha : PE X a (rB X.K f)) (hb : PE X b (rB X.K g)) : PT X (.Compare a [.NotEq] [b] pos) (rT X.K (t2 cNe f g)) := et_cmp (op_neD hr.units) op2b_ne ha hb (nomark b)
/-- x is None -/
def isN : W → Bool
  | .d .none => true
  | _ => false
theorem bres_isN {K : PySem.W.Frag} {H : Hp} {O : List Addr} {w : W} {u : V} (h : BRes K H O w u) : decide (u = .non) = isN w := by
  cases w with
  | d x =>
    have h : Dp K (cut H O) u x := h
    cases h <;> simp [isN]
  | o bb =>
    obtain ⟨p, ho, rfl, _⟩ := h
    simp [isN]
def cIs : W → W → Option Bool
  | x, .d .none => some (isN x)
  | .d (.bool i), .d (.bool j) => some (decide (i = j))
  | _, _ => none
def cIsNot (x y : W) : Option Bool := (cIs x y).map (!·)
theorem op2b_is : Op2B X.K cIs (fun x y H Q => (y = .non ∧ Q (.bl (decide (x = .non))) H) ∨ ∃ i j, x = .bl i ∧ y = .bl j ∧ Q (.bl (decide (i = j))) H) := fun H O x y wx wy cc Q hO hx hy e q => by
  unfold cIs at e
  split at e
  · cases e
    exact .inl ⟨bres_none hy, by rw [bres_isN hx]; exact q⟩
  · cases e
    exact .inr ⟨_, _, bres_bool hx, bres_bool hy, q⟩
  · cases e
theorem op2b_isnot : Op2B X.K cIsNot (fun x y H Q => (y = .non ∧ Q (.bl (!decide (x = .non))) H) ∨ ∃ i j, x = .bl i ∧ y = .bl j ∧ Q (.bl (!decide (i = j))) H) := fun H O x y wx wy cc Q hO hx hy e q => by
  unfold cIsNot at e
  obtain ⟨c0, e0, rfl⟩ := Option.map_eq_some_iff.mp e
  unfold cIs at e0
  split at e0
  · cases e0
    exact .inl ⟨bres_none hy, by rw [bres_isN hx]; exact q⟩
  · cases e0
    exact .inr ⟨_, _, bres_bool hx, bres_bool hy, q⟩
  · cases e0
theorem ev_is (ha : PE X a (rB X.K f)) (hb : PE X b (rB X.K g)) : PE X (.Compare a [.Is] [b] pos) (rE X.K (xB (t2 cIs f g))) := ev_cmp (opr_or op_isN op_is_bl) op2b_is ha hb (nomark b)
theorem et_is (ha : PE X a (rB X.K f)) (hb : PE X b (rB X.K g)) : PT X (.Compare a [.Is] [b] pos) (rT X.K (t2 cIs f g)) := et_cmp (opr_or op_isN op_is_bl) op2b_is ha hb (nomark b)
theorem ev_isnot (ha : PE X a (rB X.K f)) (hb : PE X b (rB X.K g)) : PE X (.Compare a [.IsNot] [b] pos) (rE X.K (xB (t2 cIsNot f g))) := ev_cmp (opr_or op_notN op_isnot_bl) op2b_isnot ha hb (nomark b)
theorem et_isnot (ha : PE X a (rB X.K f)) (hb : PE X b (rB X.K g)) : PT X (.Compare a [.IsNot] [b] pos) (rT X.K (t2 cIsNot f g)) := et_cmp (opr_or op_notN op_isnot_bl) op2b_isnot ha hb (nomark b)
/-- x in a list or tuple -/
def rInDT (K : PySem.W.Frag) (neg : Bool) : R2 := fun x y H Q => ∃ d ds, Dp K H x d ∧ (Dp K H y (.list ds) ∨ Dp K H y (.tuple ds)) ∧ SeqAt.shaped d = true ∧ SeqAt.shaped (.list ds) = true ∧ Q (.bl (if neg then !(ds.any fun z => PyData.eqv z d) else (ds.any fun z => PyData.eqv z d))) H
theorem op_inDT (hu : X.A.units + 65 < cLine) : OpR X (compareOp .In) (rInDT X.K false) := by
  intro pins s σ H x y v u Q I rx ry h
  obtain ⟨d, ds, hd, he, sd, se, q⟩ := h
  obtain ⟨as, r1⟩ := Dp.reads I d x v hd rx
  rcases he with he | he
  · obtain ⟨bs, r2⟩ := Dp.reads I (.list ds) y u he ry
    exact SeqAt.in_list_reads r2 r1 (SeqAt.canLay_of_shaped se) (SeqAt.canLay_of_shaped sd) (PyProof.Rows.room_in_shaped sd hu) ⟨.bl _, H, I, rfl, q⟩
  · obtain ⟨bs, r2⟩ := Dp.reads I (.tuple ds) y u he ry
    exact SeqAt.in_tuple_reads r2 r1 (SeqAt.canLay_of_shaped se) (SeqAt.canLay_of_shaped sd) (PyProof.Rows.room_in_shaped sd hu) ⟨.bl _, H, I, rfl, q⟩
theorem op_notInDT (hu : X.A.units + 65 < cLine) : OpR X (compareOp .NotIn) (rInDT X.K true) := by
  intro pins s σ H x y v u Q I rx ry h
  obtain ⟨d, ds, hd, he, sd, se, q⟩ := h
  obtain ⟨as, r1⟩ := Dp.reads I d x v hd rx
  rcases he with he | he
  · obtain ⟨bs, r2⟩ := Dp.reads I (.list ds) y u he ry
    exact SeqAt.notIn_list_reads r2 r1 (SeqAt.canLay_of_shaped se) (SeqAt.canLay_of_shaped sd) (PyProof.Rows.room_in_shaped sd hu) ⟨.bl _, H, I, rfl, q⟩
  · obtain ⟨bs, r2⟩ := Dp.reads I (.tuple ds) y u he ry
    exact SeqAt.notIn_tuple_reads r2 r1 (SeqAt.canLay_of_shaped se) (SeqAt.canLay_of_shaped sd) (PyProof.Rows.room_in_shaped sd hu) ⟨.bl _, H, I, rfl, q⟩
def cIn (x y : W) : Option Bool := match dat x, asS y with
  | some d, some ds => if SeqAt.shaped d && SeqAt.shaped (.list ds) then some (ds.any fun z => PyData.eqv z d) else none
  | _, _ => none
def cNotIn (x y : W) : Option Bool := (cIn x y).map (!·)
theorem bres_seqD {K : PySem.W.Frag} {H : Hp} {O : List Addr} {w : W} {u : V} {xs : List D} (h : BRes K H O w u) (e : asS w = some xs) : Dp K H u (.list xs) ∨ Dp K H u (.tuple xs) := by
  obtain ⟨p, vs, rfl, a, b⟩ := bres_seq h e
  rcases a with a | a
  · exact .inl (.lst a (dpa_mono (cut_all H O) b))
  · exact .inr (.tup a (dpa_mono (cut_all H O) b))
theorem op2b_in : Op2B X.K cIn (rInDT X.K false) := fun H O x y wx wy cc Q hO hx hy e q => by
  unfold cIn at e
  split at e
  · rename_i d ds e1 e2
    split at e
    · cases e
      rename_i h3
      rw [Bool.and_eq_true] at h3
      exact ⟨d, ds, bres_dat hx e1, bres_seqD hy e2, h3.1, h3.2, q⟩
    · cases e
  · cases e
theorem op2b_notin : Op2B X.K cNotIn (rInDT X.K true) := fun H O x y wx wy cc Q hO hx hy e q => by
  unfold cNotIn at e
  obtain ⟨c0, e0, rfl⟩ := Option.map_eq_some_iff.mp e
  unfold cIn at e0
  split at e0
  · rename_i d ds e1 e2
    split at e0
    · cases e0
      rename_i h3
      rw [Bool.and_eq_true] at h3
      exact ⟨d, ds, bres_dat hx e1, bres_seqD hy e2, h3.1, h3.2, q⟩
    · cases e0
  · cases e0
theorem Room.units65 {k : Nat} {A : Around} (r : Room k A) : A.units + 65 < cLine := by have := r.un; omega
theorem ev_in {k : Nat} (hr : Room k X.A) (ha : PE X a (rB X.K f)) (hb : PE X b (rB X.K g)) (hm : behindInMarks .In b = false) : PE X (.Compare a [.In] [b] pos) (rE X.K (xB (t2 cIn f g))) := ev_cmp (op_inDT (Room.units65 hr)) op2b_in ha hb hm
theorem et_in {k : Nat} (hr : Room k X.A) (ha : PE X a (rB X.K f)) (hb : PE X b (rB X.K g)) (hm : behindInMarks .In b = false) : PT X (.Compare a [.In] [b] pos) (rT X.K (t2 cIn f g)) := et_cmp (op_inDT (Room.units65 hr)) op2b_in ha hb hm
theorem ev_notin {k : Nat} (hr : Room k X.A) (ha : PE X a (rB X.K f)) (hb : PE X b (rB X.K g)) (hm : behindInMarks .NotIn b = false) : PE X (.Compare a [.NotIn] [b] pos) (rE X.K (xB (t2 cNotIn f g))) := ev_cmp (op_notInDT (Room.units65 hr)) op2b_notin ha hb hm
theorem et_notin {k : Nat} (hr : Room k X.A) (ha : PE X a (rB X.K f)) (hb : PE X b (rB X.K g)) (hm : behindInMarks .NotIn b = false) : PT X (.Compare a [.NotIn] [b] pos) (rT X.K (t2 cNotIn f g)) := et_cmp (op_notInDT (Room.units65 hr)) op2b_notin ha hb hm

/-! ### tests -/
def truD : D → Option Bool
  | .none => some false
  | .bool b => some b
  | .int i => some (i != 0)
  | .str y => if y.length ≤ 16777216 then some ((y.length : Int) != 0) else none
  | .list xs => some (!xs.isEmpty)
  | .tuple xs => some (!xs.isEmpty)
  | .dict _ => none
def tru : W → Option Bool
  | .d x => truD x
  | .o (.lst xs) => some (!xs.isEmpty)
  | _ => none
theorem dpa_empty {K : PySem.W.Frag} {H : Hp} {vs : List V} {ds : List D} (h : DpAll K H vs ds) : ds.isEmpty = vs.isEmpty := by cases h <;> rfl
theorem tru_ok2 {K : PySem.W.Frag} {H : Hp} {O : List Addr} {w : W} {u : V} {k : Bool} (h : BRes K H O w u) (e : tru w = some k) : TruV K u H k := by
  cases w with
  | d x =>
    have h : Dp K (cut H O) u x := h
    have e : truD x = some k := e
    cases h with
    | non => cases e; rfl
    | bl b => cases e; rfl
    | int i => cases e; rfl
    | str y =>
      have e : (if y.length ≤ 16777216 then some ((y.length : Int) != 0) else none) = some k := e
      split at e
      · cases e; exact ⟨by rw [sizeLine_val]; assumption, rfl⟩
      · cases e
    | lst a b => cases e; exact .inl ⟨_, (cut_all H O).seq a, by rw [dpa_empty b]⟩
    | tup a b => cases e; exact .inr (.inl ⟨_, same_seqT (cut_all H O) a, by rw [dpa_empty b]⟩)
  | o bb =>
    obtain ⟨p, ho, rfl, h1, h2⟩ := h
    cases bb with
    | lst xs =>
      obtain ⟨vs, rfl, h2⟩ := h2
      cases e
      exact .inl ⟨_, .inl (.inl h1), by rw [dpa_empty h2]⟩
    | dct _ => cases e
    | set _ => cases e
def tV (f : En → Option W) : En → Option Bool := fun env => (f env).bind tru
/-- any value as a test -/
theorem et_val (ha : PE X a (rB X.K f)) (he : ∀ whole, isTrue a X.env whole = (do let v ← whole; standAt a.pos; holding [v] (truthy v))) : PT X a (rT X.K (tV f)) :=
  pt_imp (pt_truth ha he) fun σ H Q ⟨O, env, k, h1, h2, h3⟩ => by
    unfold tV at h2
    obtain ⟨w, e1, e2⟩ := Option.bind_eq_some_iff.mp h2
    exact ⟨O, env, w, h1, e1, fun H' u m r => ⟨k, tru_ok2 r e2, h3 H' m⟩⟩
def tN (f : En → Option Bool) : En → Option Bool := fun env => (f env).map (!·)
theorem et_not {p : En → Option Bool} (ha : PT X a (rT X.K p)) : PT X (.UnaryOp .Not a pos) (rT X.K (tN p)) :=
  pt_imp (pt_not ha) fun σ H Q ⟨O, env, k, h1, h2, h3⟩ => by
    unfold tN at h2
    obtain ⟨c0, e0, rfl⟩ := Option.map_eq_some_iff.mp h2
    exact ⟨O, env, c0, h1, e0, h3⟩
def tA (p q : En → Option Bool) : En → Option Bool := fun env => (p env).bind fun c => if c then q env else some false
def tO (p q : En → Option Bool) : En → Option Bool := fun env => (p env).bind fun c => if c then some true else q env
theorem ew_and1 {p : En → Option Bool} (ha : PT X a (rT X.K p)) : PW X (.BoolOp .And [a] pos) (rT X.K p) := pw_and1 ha
theorem ew_or1 {p : En → Option Bool} (ha : PT X a (rT X.K p)) : PW X (.BoolOp .Or [a] pos) (rT X.K p) := pw_or1 ha
theorem ew_and {rest : List Expr} {p q : En → Option Bool} (ha : PT X a (rT X.K p)) (hb : PW X (.BoolOp .And (b :: rest) pos) (rT X.K q)) : PW X (.BoolOp .And (a :: b :: rest) pos) (rT X.K (tA p q)) :=
  pw_imp (pw_and ha hb) fun σ H Q ⟨O, env, k, h1, h2, h3⟩ => by
    unfold tA at h2
    obtain ⟨c0, e0, e1⟩ := Option.bind_eq_some_iff.mp h2
    refine ⟨O, env, c0, h1, e0, fun H' m => ?_⟩
    cases c0 with
    | true => exact ⟨O, env, k, h1.mono m, e1, fun H2 m2 => h3 H2 (m.trans m2)⟩
    | false => cases e1; exact h3 H' m
theorem ew_or {rest : List Expr} {p q : En → Option Bool} (ha : PT X a (rT X.K p)) (hb : PW X (.BoolOp .Or (b :: rest) pos) (rT X.K q)) : PW X (.BoolOp .Or (a :: b :: rest) pos) (rT X.K (tO p q)) :=
  pw_imp (pw_or ha hb) fun σ H Q ⟨O, env, k, h1, h2, h3⟩ => by
    unfold tO at h2
    obtain ⟨c0, e0, e1⟩ := Option.bind_eq_some_iff.mp h2
    refine ⟨O, env, c0, h1, e0, fun H' m => ?_⟩
    cases c0 with
    | true => cases e1; exact h3 H' m
    | false => exact ⟨O, env, k, h1.mono m, e1, fun H2 m2 => h3 H2 (m.trans m2)⟩

/-! ### and | or | not | if else as values -/
/-- the first operands frozen data by their truth -/
def xA (f g : En → Option W) : En → Option W := fun env => (f env).bind fun x => (tru x).bind fun c => if c then g env else match x with | .d d => some (.d d) | _ => none
def xO (f g : En → Option W) : En → Option W := fun env => (f env).bind fun x => (tru x).bind fun c => if c then (match x with | .d d => some (.d d) | _ => none) else g env
theorem ev_one {op} (ha : PE X a (rE X.K f)) : PE X (.BoolOp op [a] pos) (rE X.K f) := pe_one ha
theorem ev_andV {rest : List Expr} (ha : PE X a (rE X.K f)) (hb : PE X (.BoolOp .And (b :: rest) pos) (rE X.K g)) : PE X (.BoolOp .And (a :: b :: rest) pos) (rE X.K (xA f g)) :=
  pe_imp (pe_andT ha hb) fun σ H Q ⟨O, env, w, h1, h2, h3⟩ => by
    unfold xA at h2
    obtain ⟨x, e0, e1⟩ := Option.bind_eq_some_iff.mp h2
    obtain ⟨c0, e2, e3⟩ := Option.bind_eq_some_iff.mp e1
    refine ⟨O, env, x, h1, e0, fun H' u m r => ⟨c0, tru_ok2 r.b e2, ?_⟩⟩
    cases c0 with
    | true => exact ⟨O, env, w, h1.mono m, e3, fun H2 u2 m2 r2 => h3 H2 u2 (m.trans m2) (r2.back m)⟩
    | false =>
      cases x with
      | d d => cases e3; exact h3 H' u m r
      | o _ => cases e3
theorem ev_orV {rest : List Expr} (ha : PE X a (rE X.K f)) (hb : PE X (.BoolOp .Or (b :: rest) pos) (rE X.K g)) : PE X (.BoolOp .Or (a :: b :: rest) pos) (rE X.K (xO f g)) :=
  pe_imp (pe_orT ha hb) fun σ H Q ⟨O, env, w, h1, h2, h3⟩ => by
    unfold xO at h2
    obtain ⟨x, e0, e1⟩ := Option.bind_eq_some_iff.mp h2
    obtain ⟨c0, e2, e3⟩ := Option.bind_eq_some_iff.mp e1
    refine ⟨O, env, x, h1, e0, fun H' u m r => ⟨c0, tru_ok2 r.b e2, ?_⟩⟩
    cases c0 with
    | false => exact ⟨O, env, w, h1.mono m, e3, fun H2 u2 m2 r2 => h3 H2 u2 (m.trans m2) (r2.back m)⟩
    | true =>
      cases x with
      | d d => cases e3; exact h3 H' u m r
      | o _ => cases e3
theorem ev_notV (ha : PE X a (rB X.K f)) : PE X (.UnaryOp .Not a pos) (rE X.K (xB (tN (tV f)))) :=
  pe_imp (pe_notT ha) fun σ H Q ⟨O, env, w, h1, h2, h3⟩ => by
    unfold xB tN tV at h2
    obtain ⟨c0, e0, rfl⟩ := Option.map_eq_some_iff.mp h2
    obtain ⟨c1, e1, rfl⟩ := Option.map_eq_some_iff.mp e0
    obtain ⟨x, e2, e3⟩ := Option.bind_eq_some_iff.mp e1
    exact ⟨O, env, x, h1, e2, fun H' u m r => ⟨c1, tru_ok2 r e3, h3 H' _ m (Dp.bl _)⟩⟩
def xIf (p : En → Option Bool) (f g : En → Option W) : En → Option W := fun env => (p env).bind fun c => if c then f env else g env
theorem ev_if {p : En → Option Bool} (hc : PT X c (rT X.K p)) (ha : PE X a (rE X.K f)) (hb : PE X b (rE X.K g)) : PE X (.IfExp c a b pos) (rE X.K (xIf p f g)) :=
  pe_imp (pe_ifExp hc ha hb) fun σ H Q ⟨O, env, w, h1, h2, h3⟩ => by
    unfold xIf at h2
    obtain ⟨c0, e0, e1⟩ := Option.bind_eq_some_iff.mp h2
    refine ⟨O, env, c0, h1, e0, fun H' m => ?_⟩
    cases c0 with
    | true => exact ⟨O, env, w, h1.mono m, e1, fun H2 u2 m2 r2 => h3 H2 u2 (m.trans m2) (r2.back m)⟩
    | false => exact ⟨O, env, w, h1.mono m, e1, fun H2 u2 m2 r2 => h3 H2 u2 (m.trans m2) (r2.back m)⟩
end
end EV

set_option Elab.async false
set_option linter.all false
set_option maxRecDepth 100000
set_option maxHeartbeats 1000000
/-! displays, subscripts, slices, built-in calls -/
namespace EV
open PySem L2
section
variable {X : Cx} {e a b c : Expr} {es : List Expr} {f g h : En → Option W} {fs : En → Option (List D)} {pos : Pos}

/-! ### argument lists as data -/
def rAD (K : PySem.W.Frag) (f : En → Option (List D)) : TA := fun σ H Q => ∃ O env ds, EnvRep K H O env σ ∧ f env = some ds ∧ ∀ H' vs, Same H H' → DpAll K (cut H' O) vs ds → Q vs H'
def aN : En → Option (List D) := fun _ => some []
def aC (f : En → Option W) (fs : En → Option (List D)) : En → Option (List D) := fun env => (f env).bind fun w => (dat w).bind fun d => (fs env).map (d :: ·)
theorem pa_imp {t t' : TA} (h : PA X es t) (i : ∀ σ H Q, t' σ H Q → t σ H Q) : PA X es t' := ⟨fun pos pins s σ H Q I q => h.run pos pins s σ H Q I (i σ H Q q)⟩
theorem ea_nil : PA X [] (rAD X.K aN) := pa_imp pa_nil fun σ H Q ⟨O, env, ds, h1, h2, h3⟩ => by
  cases h2; exact h3 H [] (Same.refl _) .nil
theorem ea_cons (ha : PE X e (rE X.K f)) (hr : PA X es (rAD X.K fs)) (hs : starEach (e :: es) X.env = (false, eval e X.env) :: starEach es X.env := by rfl) : PA X (e :: es) (rAD X.K (aC f fs)) :=
  pa_imp (pa_cons ha hr hs) fun σ H Q ⟨O, env, ds, h1, h2, h3⟩ => by
    unfold aC at h2
    obtain ⟨w, e1, e2⟩ := Option.bind_eq_some_iff.mp h2
    obtain ⟨d, e3, e4⟩ := Option.bind_eq_some_iff.mp e2
    obtain ⟨dr, e5, rfl⟩ := Option.map_eq_some_iff.mp e4
    refine ⟨O, env, w, h1, e1, fun H1 u m1 r1 => ⟨O, env, dr, h1.mono m1, e5, fun H2 vs m2 r2 => ?_⟩⟩
    exact h3 H2 _ (m1.trans m2) (.cons (dp_mono (cut_same m2 O) (res_dat r1 e3)) r2)
def xTup (fs : En → Option (List D)) : En → Option W := fun env => (fs env).bind fun ds => if ds.length ≤ 16777216 then some (.d (.tuple ds)) else none
def xLst (fs : En → Option (List D)) : En → Option W := fun env => (fs env).bind fun ds => if ds.length ≤ 16777216 then some (.o (.lst ds)) else none
theorem ev_tup {x1} (ha : PA X es (rAD X.K fs)) : PE X (.Tuple es x1 pos) (rE X.K (xTup fs)) :=
  pe_imp (pe_tup ha) fun σ H Q ⟨O, env, w, h1, h2, h3⟩ => by
    unfold xTup at h2
    obtain ⟨ds, e1, e2⟩ := Option.bind_eq_some_iff.mp h2
    split at e2
    · cases e2
      refine ⟨O, env, ds, h1, e1, fun H1 vs m1 r1 => ⟨by rw [sizeLine_val, dpa_len r1]; assumption, fun p n => ?_⟩⟩
      exact h3 _ _ (m1.trans (same_upd n)) (res_new_tup (h1.has.mono m1) n r1)
    · cases e2
theorem ev_lst (ha : PA X es (rAD X.K fs)) : PE X (.List es pos) (rE X.K (xLst fs)) :=
  pe_imp (pe_lst ha) fun σ H Q ⟨O, env, w, h1, h2, h3⟩ => by
    unfold xLst at h2
    obtain ⟨ds, e1, e2⟩ := Option.bind_eq_some_iff.mp h2
    split at e2
    · cases e2
      refine ⟨O, env, ds, h1, e1, fun H1 vs m1 r1 => ⟨by rw [sizeLine_val, dpa_len r1]; assumption, fun p n => ?_⟩⟩
      exact h3 _ _ (m1.trans (same_upd n)) ((res_new_lst (h1.has.mono m1) n r1).back m1)
    · cases e2

/-! ### subscripts -/
def wIx : W → W → Option W
  | .d (.str z), .d (.int i) => if z.length ≤ 16777216 then (atI z.cps.toList i).map fun c => .d (.str ⟨#[c]⟩) else none
  | x, .d (.int i) => (asS x).bind fun xs => (atI xs i).map .d
  | _, _ => none
theorem atI_dp {K : PySem.W.Frag} {H : Hp} {vs : List V} {ds : List D} {i : Int} {d : D} (h : DpAll K H vs ds) (e : atI ds i = some d) : ∃ v, atI vs i = some v ∧ Dp K H v d := by
  unfold atI at e ⊢
  rw [dpa_len h]
  obtain ⟨j, e1, e2⟩ := Option.bind_eq_some_iff.mp e
  obtain ⟨v, e3, e4⟩ := dpa_get h e2
  exact ⟨v, by rw [e1]; exact e3, e4⟩
theorem op2_ix : Op2 X.K wIx (rIx X.K) := fun H O x y wx wy w Q hO hx hy e q => by
  unfold wIx at e
  split at e
  · split at e
    · obtain ⟨cc, e1, rfl⟩ := Option.map_eq_some_iff.mp e
      exact .inr (.inr ⟨_, _, cc, bres_str hx, bres_int hy, by rw [sizeLine_val]; assumption, e1, q H _ (Same.refl _) (Dp.str _)⟩)
    · cases e
  · obtain ⟨xs, e1, e2⟩ := Option.bind_eq_some_iff.mp e
    obtain ⟨d, e3, rfl⟩ := Option.map_eq_some_iff.mp e2
    obtain ⟨p, vs, rfl, h1, h2⟩ := bres_seq hx e1
    obtain ⟨v, e4, e5⟩ := atI_dp h2 e3
    rcases h1 with h1 | h1
    · exact .inl ⟨p, vs, _, v, rfl, bres_int hy, h1, e4, q H _ (Same.refl _) e5⟩
    · exact .inr (.inl ⟨p, vs, _, v, rfl, bres_int hy, h1, e4, q H _ (Same.refl _) e5⟩)
  · cases e
theorem ev_ix (ha : PE X a (rB X.K f)) (hb : PE X b (rB X.K g)) (hs : PlainIx b) : PE X (.Subscript a b pos) (rE X.K (x2 wIx f g)) := pe_imp (pe_ix ix_seq ha hb hs) fun _ _ _ q => rd2 op2_ix q

/-! ### slices -/
def rO (K : PySem.W.Frag) (f : En → Option (Option Int)) : TO := fun σ H Q => ∃ O env l, EnvRep K H O env σ ∧ f env = some l ∧ ∀ H', Same H H' → Q l H'
def pN : En → Option (Option Int) := fun _ => some none
def wI : W → Option Int
  | .d (.int i) => some i
  | _ => none
def pS (f : En → Option W) : En → Option (Option Int) := fun env => (f env).bind fun w => (wI w).map some
theorem po_imp {o : Option Expr} {t t' : TO} (h : PO X o t) (i : ∀ σ H Q, t' σ H Q → t σ H Q) : PO X o t' := ⟨fun pins s σ H Q I q => h.run pins s σ H Q I (i σ H Q q)⟩
theorem eo_none : PO X none (rO X.K pN) := po_imp po_none fun σ H Q ⟨O, env, l, h1, h2, h3⟩ => by
  cases h2; exact h3 H (Same.refl _)
theorem eo_some (ha : PE X e (rB X.K f)) : PO X (some e) (rO X.K (pS f)) := po_imp (po_some ha) fun σ H Q ⟨O, env, l, h1, h2, h3⟩ => by
  unfold pS at h2
  obtain ⟨w, e1, e2⟩ := Option.bind_eq_some_iff.mp h2
  obtain ⟨i, e3, rfl⟩ := Option.map_eq_some_iff.mp e2
  refine ⟨O, env, w, h1, e1, fun H1 u m r => ?_⟩
  unfold wI at e3
  split at e3
  · cases e3
    exact ⟨_, bres_int r, h3 H1 m⟩
  · cases e3
def cutD (xs : List D) (lo hi : Option Int) : List D := (xs.drop (HT.sIx xs.length 0 lo)).take (HT.sIx xs.length xs.length hi - HT.sIx xs.length 0 lo)
theorem dpa_cut {K : PySem.W.Frag} {H : Hp} {vs : List V} {ds : List D} (lo hi : Option Int) (h : DpAll K H vs ds) : DpAll K H (cutV vs lo hi) (cutD ds lo hi) := by
  unfold cutV cutD
  rw [dpa_len h]
  exact dpa_take _ (dpa_drop _ h)
theorem cutV_whole {xs : List V} {lo hi : Option Int} (h : HT.sIx xs.length 0 lo = 0 ∧ HT.sIx xs.length xs.length hi = xs.length) : cutV xs lo hi = xs := by
  unfold cutV
  rw [h.1, h.2]
  simp
theorem cutD_whole {xs : List D} {lo hi : Option Int} (h : HT.sIx xs.length 0 lo = 0) (h' : HT.sIx xs.length xs.length hi = xs.length) : cutD xs lo hi = xs := by
  unfold cutD
  rw [h, h', List.drop_zero, Nat.sub_zero, List.take_length]
def wSl (w : W) (lo hi : Option Int) : Option W := match w with
  | .d (.str z) => if z.length ≤ 16777216 then some (.d (.str (cutS z lo hi))) else none
  | .d (.tuple xs) => some (.d (.tuple (cutD xs lo hi)))
  | x => (asL x).map fun xs => .o (.lst (cutD xs lo hi))
def xSl (f : En → Option W) (l h : En → Option (Option Int)) : En → Option W := fun env => (f env).bind fun w => (l env).bind fun lo => (h env).bind fun hi => wSl w lo hi
theorem ev_slice {lo hi : Option Expr} {l h : En → Option (Option Int)} {p2 : Pos} (ha : PE X e (rB X.K f)) (hl : PO X lo (rO X.K l)) (hh : PO X hi (rO X.K h)) : PE X (.Subscript e (.Slice lo hi none p2) pos) (rE X.K (xSl f l h)) :=
  pe_imp (pe_slice (SlR.or sl_str (SlR.or sl_tupA sl_list)) ha hl hh) fun σ H Q ⟨O, env, w, h1, h2, h3⟩ => by
    unfold xSl at h2
    obtain ⟨x, e1, e2⟩ := Option.bind_eq_some_iff.mp h2
    obtain ⟨lo', e3, e4⟩ := Option.bind_eq_some_iff.mp e2
    obtain ⟨hi', e5, e6⟩ := Option.bind_eq_some_iff.mp e4
    refine ⟨O, env, x, h1, e1, fun H1 u m1 r1 => ⟨O, env, lo', h1.mono m1, e3, fun H2 m2 => ⟨O, env, hi', h1.mono (m1.trans m2), e5, fun H3 m3 => ?_⟩⟩⟩
    have m := (m1.trans m2).trans m3
    have r3 : BRes X.K H3 O x u := r1.mono (m2.trans m3)
    have hO : Has H3 O := h1.has.mono m
    unfold wSl at e6
    split at e6
    · split at e6
      · cases e6
        exact .inl ⟨_, bres_str r3, by rw [sizeLine_val]; assumption, h3 H3 _ m (Dp.str _)⟩
      · cases e6
    · cases e6
      obtain ⟨p, vs, rfl, q1, q2⟩ := bres_tup r3
      refine .inr (.inl ⟨p, vs, rfl, q1, fun z => ?_, fun z r n => ?_⟩)
      · have t4 := dpa_len q2
        have t5 := z.1
        have t6 := z.2
        rw [t4] at t5 t6
        refine h3 H3 _ m ?_
        rw [cutD_whole t5 t6]
        exact r3
      · exact h3 _ _ (m.trans (same_upd n)) (res_new_tup hO n (dpa_cut lo' hi' q2))
    · obtain ⟨xs, e7, rfl⟩ := Option.map_eq_some_iff.mp e6
      obtain ⟨p, vs, rfl, q1, q2⟩ := bres_lst r3 e7
      exact .inr (.inr ⟨p, vs, rfl, q1, fun r n => h3 _ _ (m.trans (same_upd n)) ((res_new_lst hO n (dpa_cut lo' hi' q2)).back m)⟩)

/-! ### built-in calls by values -/
def C1 (K : PySem.W.Frag) (comb : W → Option W) (r : List V → Hp → VK → Prop) : Prop :=
  ∀ H O x wx w Q, Has H O → BRes K H O wx x → comb wx = some w → (∀ H' u, Same H H' → Res K H H' O w u → Q u H') → r [x] H Q
def C2 (K : PySem.W.Frag) (comb : W → W → Option W) (r : List V → Hp → VK → Prop) : Prop :=
  ∀ H O x y wx wy w Q, Has H O → BRes K H O wx x → BRes K H O wy y → comb wx wy = some w → (∀ H' u, Same H H' → Res K H H' O w u → Q u H') → r [x, y] H Q
theorem rc1 {comb : W → Option W} {r : List V → Hp → VK → Prop} (hc : C1 X.K comb r) {σ H Q} (q : rE X.K (x1 comb f) σ H Q) : tCB r (tCons (rB X.K f) tNil) σ H Q := by
  obtain ⟨O, env, w, h1, h2, h3⟩ := q
  unfold x1 at h2
  obtain ⟨wx, e1, e2⟩ := Option.bind_eq_some_iff.mp h2
  exact ⟨O, env, wx, h1, e1, fun H1 x m1 r1 => hc H1 O x wx w Q (h1.has.mono m1) r1 e2 fun H' u m2 r2 => h3 H' u (m1.trans m2) (r2.back m1)⟩
theorem rc2 {comb : W → W → Option W} {r : List V → Hp → VK → Prop} (hc : C2 X.K comb r) {σ H Q} (q : rE X.K (x2 comb f g) σ H Q) : tCB r (tCons (rB X.K f) (tCons (rB X.K g) tNil)) σ H Q := by
  obtain ⟨O, env, w, h1, h2, h3⟩ := q
  unfold x2 at h2
  obtain ⟨wx, e1, e2⟩ := Option.bind_eq_some_iff.mp h2
  obtain ⟨wy, e3, e4⟩ := Option.bind_eq_some_iff.mp e2
  refine ⟨O, env, wx, h1, e1, fun H1 x m1 r1 => ⟨O, env, wy, h1.mono m1, e3, fun H2 y m2 r2 => ?_⟩⟩
  exact hc H2 O x y wx wy w Q (h1.has.mono (m1.trans m2)) (r1.mono m2) r2 e4 fun H' u m3 r3 => h3 H' u ((m1.trans m2).trans m3) (r3.back (m1.trans m2))
theorem ev_c1 {id : String} {x : Str} {p : Pos} {comb : W → Option W} {r : List V → Hp → VK → Prop} (ho : CallR X (.builtin id) r) (hc : C1 X.K comb r) (hv : bootBuiltins x = some (.builtin id)) (hn : x ≠ "__name__") (hdb : (x == ("__debug__" : Str)) = false) (hg : Gl X x) (hm : X.mg x = none) (ha : PE X e (rB X.K f))
    (he : starEach [e] X.env = (false, eval e X.env) :: starEach [] X.env) (hpl : (backTo pos (starEach [] X.env)).any (·.1) = false) : PE X (.Call (.Name x p) [e] [] pos) (rE X.K (x1 comb f)) :=
  pe_imp (pe_callB ho hg hm hv (pa_cons ha pa_nil he) hn hdb he hpl) fun _ _ _ q => rc1 hc q
theorem ev_t1 {id : String} {x : Str} {p : Pos} {comb : W → Option W} {r : List V → Hp → VK → Prop} (ho : CallR X (.type id) r) (hc : C1 X.K comb r) (hv : bootBuiltins x = some (.type id)) (hn : x ≠ "__name__") (hdb : (x == ("__debug__" : Str)) = false) (hg : Gl X x) (hm : X.mg x = none) (ha : PE X e (rB X.K f))
    (he : starEach [e] X.env = (false, eval e X.env) :: starEach [] X.env) (hpl : (backTo pos (starEach [] X.env)).any (·.1) = false) : PE X (.Call (.Name x p) [e] [] pos) (rE X.K (x1 comb f)) :=
  pe_imp (pe_callTy ho hg hm hv (pa_cons ha pa_nil he) hn hdb he hpl) fun _ _ _ q => rc1 hc q
theorem ev_c2 {id : String} {x : Str} {p : Pos} {comb : W → W → Option W} {r : List V → Hp → VK → Prop} (ho : CallR X (.builtin id) r) (hc : C2 X.K comb r) (hv : bootBuiltins x = some (.builtin id)) (hn : x ≠ "__name__") (hdb : (x == ("__debug__" : Str)) = false) (hg : Gl X x) (hm : X.mg x = none) (ha : PE X a (rB X.K f)) (hb : PE X b (rB X.K g))
    (he : starEach [a, b] X.env = (false, eval a X.env) :: starEach [b] X.env) (he2 : starEach [b] X.env = (false, eval b X.env) :: starEach [] X.env) (hpl : (backTo pos (starEach [b] X.env)).any (·.1) = false) : PE X (.Call (.Name x p) [a, b] [] pos) (rE X.K (x2 comb f g)) :=
  pe_imp (pe_callB ho hg hm hv (pa_cons ha (pa_cons hb pa_nil he2) he) hn hdb he hpl) fun _ _ _ q => rc2 hc q
theorem bb_len : bootBuiltins "len" = some (.builtin "len") := by decide +kernel
theorem bb_abs : bootBuiltins "abs" = some (.builtin "abs") := by decide +kernel
theorem bb_max : bootBuiltins "max" = some (.builtin "max") := by decide +kernel
theorem bb_min : bootBuiltins "min" = some (.builtin "min") := by decide +kernel
theorem bb_sum : bootBuiltins "sum" = some (.builtin "sum") := by decide +kernel
theorem bb_sorted : bootBuiltins "sorted" = some (.builtin "sorted") := by decide +kernel
theorem bb_any : bootBuiltins "any" = some (.builtin "any") := by decide +kernel
theorem bb_all : bootBuiltins "all" = some (.builtin "all") := by decide +kernel
theorem bb_isinstance : bootBuiltins "isinstance" = some (.builtin "isinstance") := by decide +kernel
theorem bb_int : bootBuiltins "int" = some (.type "int") := by decide +kernel
theorem bb_bool : bootBuiltins "bool" = some (.type "bool") := by decide +kernel
theorem bb_str : bootBuiltins "str" = some (.type "str") := by decide +kernel
theorem bb_list : bootBuiltins "list" = some (.type "list") := by decide +kernel
theorem bb_tuple : bootBuiltins "tuple" = some (.type "tuple") := by decide +kernel
theorem bb_set : bootBuiltins "set" = some (.type "set") := by decide +kernel
/-- len -/
def wLen : W → Option W
  | .d (.str z) => if z.length ≤ 16777216 then some (.d (.int z.length)) else none
  | x => (asS x).map fun xs => .d (.int xs.length)
theorem c1_len : C1 X.K wLen (fun xs H Q => ∃ x n, xs = [x] ∧ LenV X.K x H n ∧ Q (.int n) H) := fun H O x wx w Q hO hx e q => by
  unfold wLen at e
  split at e
  · split at e
    · cases e
      have := bres_str hx
      subst this
      exact ⟨_, _, rfl, ⟨by rw [sizeLine_val]; assumption, rfl⟩, q H _ (Same.refl _) (Dp.int _)⟩
    · cases e
  · obtain ⟨xs, e1, rfl⟩ := Option.map_eq_some_iff.mp e
    obtain ⟨p, vs, rfl, h1, h2⟩ := bres_seq hx e1
    refine ⟨_, vs.length, rfl, ?_, ?_⟩
    · rcases h1 with h1 | h1
      · exact .inl ⟨_, h1, rfl⟩
      · exact .inr ⟨_, h1, rfl⟩
    · rw [dpa_len h2]
      exact q H _ (Same.refl _) (Dp.int _)
end
end EV

set_option Elab.async false
set_option linter.all false
set_option maxRecDepth 100000
set_option maxHeartbeats 1000000
/-! built-in calls -/
namespace EV
open PySem L2
section
variable {X : Cx} {e a b c : Expr} {es : List Expr} {f g h : En → Option W} {pos p : Pos}
/-! ### of one value -/
def wAbs : W → Option W
  | .d (.int i) => some (.d (.int i.natAbs))
  | _ => none
theorem c1_abs : C1 X.K wAbs (fun xs H Q => ∃ i, xs = [.int i] ∧ Q (.int (if i < 0 then -i else i)) H) := fun H O x wx w Q hO hx e q => by
  unfold wAbs at e
  split at e
  · cases e
    have := bres_int hx
    subst this
    refine ⟨_, rfl, ?_⟩
    rename_i i
    have : (if i < 0 then -i else i) = (i.natAbs : Int) := by split <;> omega
    rw [this]
    exact q H _ (Same.refl _) (Dp.int _)
  · cases e
def wToI : W → Option W
  | .d (.int i) => some (.d (.int i))
  | .d (.bool k) => some (.d (.int (if k then 1 else 0)))
  | _ => none
theorem c1_int : C1 X.K wToI (fun xs H Q => (∃ i, xs = [.int i] ∧ Q (.int i) H) ∨ ∃ k, xs = [.bl k] ∧ Q (.int (if k then 1 else 0)) H) := fun H O x wx w Q hO hx e q => by
  unfold wToI at e
  split at e
  · cases e
    have := bres_int hx
    subst this
    exact .inl ⟨_, rfl, q H _ (Same.refl _) (Dp.int _)⟩
  · cases e
    have := bres_bool hx
    subst this
    exact .inr ⟨_, rfl, q H _ (Same.refl _) (Dp.int _)⟩
  · cases e
def wToB : W → Option W
  | .d (.int i) => some (.d (.bool (i != 0)))
  | .d (.bool k) => some (.d (.bool k))
  | _ => none
theorem c1_bool : C1 X.K wToB (fun xs H Q => (∃ i, xs = [.int i] ∧ Q (.bl (i != 0)) H) ∨ ∃ k, xs = [.bl k] ∧ Q (.bl k) H) := fun H O x wx w Q hO hx e q => by
  unfold wToB at e
  split at e
  · cases e
    have := bres_int hx
    subst this
    exact .inl ⟨_, rfl, q H _ (Same.refl _) (Dp.bl _)⟩
  · cases e
    have := bres_bool hx
    subst this
    exact .inr ⟨_, rfl, q H _ (Same.refl _) (Dp.bl _)⟩
  · cases e
def wToL (w : W) : Option W := (asS w).map fun xs => .o (.lst xs)
theorem c1_list : C1 X.K wToL (fun xs H Q => ∃ p ys, xs = [.ref p] ∧ (SqL X.K H p ys ∨ SqT X.K H p ys) ∧ ∀ l, H l = none → Q (.ref l) (upd H l (.lst ys))) := fun H O x wx w Q hO hx e q => by
  unfold wToL at e
  obtain ⟨xs, e1, rfl⟩ := Option.map_eq_some_iff.mp e
  obtain ⟨p, vs, rfl, h1, h2⟩ := bres_seq hx e1
  exact ⟨p, vs, rfl, h1, fun l n => q _ _ (same_upd n) (res_new_lst hO n h2)⟩
def wToT (w : W) : Option W := (asS w).map fun xs => .d (.tuple xs)
theorem c1_tuple : C1 X.K wToT (fun xs H Q => ∃ p ys, xs = [.ref p] ∧ ((SqL X.K H p ys ∧ ∀ l, H l = none → Q (.ref l) (upd H l (.tup ys))) ∨ (SqT X.K H p ys ∧ Q (.ref p) H))) := fun H O x wx w Q hO hx e q => by
  unfold wToT at e
  obtain ⟨xs, e1, rfl⟩ := Option.map_eq_some_iff.mp e
  cases wx with
  | d y =>
    cases y with
    | tuple zs =>
      cases e1
      obtain ⟨p, vs, rfl, h1, h2⟩ := bres_tup hx
      exact ⟨p, vs, rfl, .inr ⟨h1, q H _ (Same.refl _) hx⟩⟩
    | list zs =>
      cases e1
      obtain ⟨p, vs, rfl, h1, h2⟩ := bres_lst (w := .d (.list _)) hx rfl
      exact ⟨p, vs, rfl, .inl ⟨h1, fun l n => q _ _ (same_upd n) (res_new_tup hO n h2)⟩⟩
    | _ => cases e1
  | o b =>
    cases b with
    | lst zs =>
      cases e1
      obtain ⟨p, vs, rfl, h1, h2⟩ := bres_lst (w := .o (.lst _)) hx rfl
      exact ⟨p, vs, rfl, .inl ⟨h1, fun l n => q _ _ (same_upd n) (res_new_tup hO n h2)⟩⟩
    | _ => cases e1
/-! ### sum -/
theorem sum_tupleG {prog : Program} {w : World} {A : Around} {E : Value → Shared → Prop} {s : Shared} {l : Addr} {xs : Array (Int × Tok)} {Q : Value → Shared → Prop} (hh : A.handled = none) (hl : s.heap.IsTuple l (intItems xs))
    (h : ∀ h' tk t', (∀ b o, s.heap.get? b = some o → h'.get? b = some o) → Q (.int (preSum (numAt xs) xs.size) t') { s with heap := h', toks := tk }) :
    wpAny (model prog w) A (call (.builtin "sum") [.ref l]) Q E s := by
  have hlt : l < s.heap.objs.size := by obtain ⟨_, e, _⟩ := hl; exact Heap.lt_size e
  refine call_sum_walkG (wpAny_pyIter_tuple hl ?_)
  refine ⟨_, _, _, _, _, _, numAt xs, rfl, Walks.tuple (A := A.in1) hh _ l (Nat.ne_of_lt hlt) (intItems xs), ⟨⟨_, Heap.get?_push_size _ rfl, rfl, rfl⟩, hl.push _⟩, fun b hb => ?_, (fun _ _ => intItems_at), fun h' tk t' hk => ?_⟩
  · show b < (s.heap.push _).objs.size
    rw [Heap.size_push]
    rcases List.mem_cons.mp hb with rfl | hb
    · exact Nat.lt_succ_self _
    · rcases List.mem_cons.mp hb with rfl | hb
      · exact Nat.lt_succ_of_lt hlt
      · cases hb
  · have q := h h' tk t' fun b o eo => hk b o (fun hmem => by
      rcases List.mem_cons.mp hmem with e1 | hmem
      · exact absurd (e1 ▸ Heap.lt_size eo) (Nat.lt_irrefl _)
      · cases hmem) (Heap.get?_push_of_some _ eo)
    simpa [intItems] using q
def rSumT (K : PySem.W.Frag) : List V → Hp → VK → Prop := fun vs H Q => ∃ (a : Addr) (ns : List Int), vs = [V.ref a] ∧ SqT K H a (ns.map V.int) ∧ Q (.int ns.sum) H
theorem cr_sumT (hc : X.calm = true) : CallR X (.builtin "sum") (rSumT X.K) := by
  intro pins s σ H vs us Q I r h
  obtain ⟨a, ns, rfl, hs, q⟩ := h
  obtain ⟨its, rv, hl, _⟩ := I.tuple hs
  rw [Vals.ref1 r]
  obtain ⟨xs, e⟩ := rv.ints.allInts.items
  have hn : numsOf (intItems xs).toList = ns := by rw [← e]; exact rv.ints.numsOf
  rw [nums_intItems] at hn
  rw [e] at hl
  refine sum_tupleG (I.ok.hd hc) hl fun h' tk t' hk => ⟨.int _, H, I.kept hk, ⟨t', ?_⟩, q⟩
  rw [preSum_eq, List.take_of_length_le (by simp), hn]
theorem callR_or {fv : Value} {r r' : List V → Hp → VK → Prop} (h : CallR X fv r) (h' : CallR X fv r') : CallR X fv (fun xs H Q => r xs H Q ∨ r' xs H Q) := by
  intro pins s σ H xs us Q I rs q
  rcases q with q | q
  · exact h pins s σ H xs us Q I rs q
  · exact h' pins s σ H xs us Q I rs q
def wSum (w : W) : Option W := (asS w).bind fun xs => (asInts xs).map fun ns => .d (.int ns.sum)
theorem c1_sum : C1 X.K wSum (fun xs H Q => rSum X.K xs H Q ∨ rSumT X.K xs H Q) := fun H O x wx w Q hO hx e q => by
  unfold wSum at e
  obtain ⟨xs, e1, e2⟩ := Option.bind_eq_some_iff.mp e
  obtain ⟨ns, e3, rfl⟩ := Option.map_eq_some_iff.mp e2
  obtain ⟨p, vs, rfl, h1, h2⟩ := bres_seq hx e1
  have := asInts_dp e3 h2
  subst this
  rcases h1 with h1 | h1
  · exact .inl ⟨p, ns, rfl, h1, q H _ (Same.refl _) (Dp.int _)⟩
  · exact .inr ⟨p, ns, rfl, h1, q H _ (Same.refl _) (Dp.int _)⟩
/-! ### any, all of a list of truth values -/
def asBls : List D → Option (List Bool)
  | [] => some []
  | .bool i :: r => (asBls r).map (i :: ·)
  | _ => none
theorem asBls_dp {K : PySem.W.Frag} {H : Hp} : ∀ {xs : List D} {vs : List V} {ns : List Bool}, asBls xs = some ns → DpAll K H vs xs → vs = ns.map V.bl
  | [], _, _, e, .nil => by cases e; rfl
  | .bool i :: r, _, _, e, .cons a b => by
    unfold asBls at e
    obtain ⟨ns, e1, rfl⟩ := Option.map_eq_some_iff.mp e
    cases a
    rw [asBls_dp e1 b]; rfl
  | .none :: _, _, _, e, _ => by cases e
  | .int _ :: _, _, _, e, _ => by cases e
  | .str _ :: _, _, _, e, _ => by cases e
  | .list _ :: _, _, _, e, _ => by cases e
  | .tuple _ :: _, _, _, e, _ => by cases e
  | .dict _ :: _, _, _, e, _ => by cases e
def wAny (w : W) : Option W := (asL w).bind fun xs => (asBls xs).map fun ns => .d (.bool (ns.any id))
def wAll (w : W) : Option W := (asL w).bind fun xs => (asBls xs).map fun ns => .d (.bool (ns.all id))
theorem c1_any : C1 X.K wAny (rAny X.K) := fun H O x wx w Q hO hx e q => by
  unfold wAny at e
  obtain ⟨xs, e1, e2⟩ := Option.bind_eq_some_iff.mp e
  obtain ⟨ns, e3, rfl⟩ := Option.map_eq_some_iff.mp e2
  obtain ⟨p, vs, rfl, h1, h2⟩ := bres_lst hx e1
  have := asBls_dp e3 h2
  subst this
  exact ⟨p, ns, rfl, h1, q H _ (Same.refl _) (Dp.bl _)⟩
theorem c1_all : C1 X.K wAll (rAll X.K) := fun H O x wx w Q hO hx e q => by
  unfold wAll at e
  obtain ⟨xs, e1, e2⟩ := Option.bind_eq_some_iff.mp e
  obtain ⟨ns, e3, rfl⟩ := Option.map_eq_some_iff.mp e2
  obtain ⟨p, vs, rfl, h1, h2⟩ := bres_lst hx e1
  have := asBls_dp e3 h2
  subst this
  exact ⟨p, ns, rfl, h1, q H _ (Same.refl _) (Dp.bl _)⟩
/-! ### min, max of two -/
def wMax2 : W → W → Option W
  | .d (.int i), .d (.int j) => some (.d (.int (max i j)))
  | _, _ => none
def wMin2 : W → W → Option W
  | .d (.int i), .d (.int j) => some (.d (.int (min i j)))
  | _, _ => none
theorem c2_max : C2 X.K wMax2 (fun xs H Q => ∃ i j, xs = [.int i, .int j] ∧ Q (.int (if j > i then j else i)) H) := fun H O x y wx wy w Q hO hx hy e q => by
  unfold wMax2 at e
  split at e
  · cases e
    have := bres_int hx
    subst this
    have := bres_int hy
    subst this
    rename_i i j
    refine ⟨i, j, rfl, ?_⟩
    rw [show (if j > i then j else i) = max i j by split <;> omega]
    exact q H _ (Same.refl _) (Dp.int _)
  · cases e
theorem c2_min : C2 X.K wMin2 (fun xs H Q => ∃ i j, xs = [.int i, .int j] ∧ Q (.int (if j < i then j else i)) H) := fun H O x y wx wy w Q hO hx hy e q => by
  unfold wMin2 at e
  split at e
  · cases e
    have := bres_int hx
    subst this
    have := bres_int hy
    subst this
    rename_i i j
    refine ⟨i, j, rfl, ?_⟩
    rw [show (if j < i then j else i) = min i j by split <;> omega]
    exact q H _ (Same.refl _) (Dp.int _)
  · cases e
/-! ### min, max, sorted of data -/
def alikeB (xs : List D) : Bool := (xs.all fun x => xs.all fun y => PySem.W.alike x y) && xs.all fun x => match x with | .none => false | _ => true
theorem alikeB_ok {xs : List D} (h : alikeB xs = true) : (∀ x ∈ xs, ∀ y ∈ xs, PySem.W.alike x y = true) ∧ ∀ x ∈ xs, x ≠ .none := by
  unfold alikeB at h
  rw [Bool.and_eq_true, List.all_eq_true, List.all_eq_true] at h
  refine ⟨fun x hx => List.all_eq_true.mp (h.1 x hx), fun x hx z => ?_⟩
  have := h.2 x hx
  rw [z] at this
  cases this
end
end EV

set_option Elab.async false
set_option linter.all false
set_option maxRecDepth 100000
set_option maxHeartbeats 1000000
/-! statements -/
namespace EV
open PySem L2

inductive Fl where
  | nx | bk | ct
  | rt (w : W)
/-- what a statement may change: what is owned -/
structure Ext (H H' : Hp) (O O' : List Addr) : Prop where
  keep : ∀ b o, b ∉ O → H b = some o → H' b = some o
  new : ∀ a ∈ O', a ∈ O ∨ H a = none
theorem Ext.of_same {H H' : Hp} (m : Same H H') (O : List Addr) : Ext H H' O O := ⟨fun b o _ e => m b o e, fun a z => .inl z⟩
theorem Ext.trans {H H1 H2 : Hp} {O O1 O2 : List Addr} (x : Ext H H1 O O1) (y : Ext H1 H2 O1 O2) : Ext H H2 O O2 := by
  refine ⟨fun b o n e => y.keep b o (fun z => ?_) (x.keep b o n e), fun a z => ?_⟩
  · rcases x.new b z with q | q
    · exact n q
    · rw [q] at e; cases e
  · rcases y.new a z with q | q
    · exact x.new a q
    · by_cases h : a ∈ O
      · exact .inl h
      · cases e : H a with
        | none => exact .inr rfl
        | some o =>
          have := x.keep a o h e
          rw [q] at this; cases this
/-- the same for all that is not to be leant on -/
theorem Ext.tot {H H' : Hp} {O O' : List Addr} (x : Ext H H' O O') (Ex : List Addr) : Ext H H' (Ex ++ O) (Ex ++ O') :=
  ⟨fun b o n e => x.keep b o (fun z => n (List.mem_append_right _ z)) e, fun a z => (List.mem_append.mp z).elim (fun q => .inl (List.mem_append_left _ q)) fun q => (x.new a q).elim (fun r => .inl (List.mem_append_right _ r)) .inr⟩
theorem Ext.cut {H H' : Hp} {T T' : List Addr} (x : Ext H H' T T') : Same (cut H T) (cut H' T') := fun b o e => by
  obtain ⟨n, e⟩ := cut_of e
  refine cut_mk (fun z => ?_) (x.keep b o n e)
  rcases x.new b z with q | q
  · exact n q
  · rw [q] at e; cases e
/-- the names: what they own is in O, not in Ex -/
structure SRep (K : PySem.W.Frag) (H : Hp) (Ex O : List Addr) (env : En) (σ : L2.St) : Prop where
  er : EnvRep K H (Ex ++ O) env σ
  own : ∀ (i : Nat) (b : Ob) (p : Addr), env[i]? = some (some (.o b)) → σ[i]? = some (some (.ref p)) → p ∈ O
  dis : ∀ a ∈ O, a ∉ Ex
/-- a returned value -/
def RRes (K : PySem.W.Frag) (H H' : Hp) (Ex O : List Addr) : W → V → Prop
  | .d x, u => Dp K (cut H' Ex) u x
  | .o b, u => ∃ p ho, u = .ref p ∧ p ∉ Ex ∧ (p ∈ O ∨ H p = none) ∧ H' p = some ho ∧ ObRep K (cut H' (p :: Ex)) b ho
def EndOk (K : PySem.W.Frag) (D : Ends) (H : Hp) (Ex O : List Addr) : Fl → En → Prop
  | .nx, env => ∀ H' O' σ', Ext H H' O O' → SRep K H' Ex O' env σ' → D.nx σ' H'
  | .bk, env => ∀ H' O' σ', Ext H H' O O' → SRep K H' Ex O' env σ' → D.bk σ' H'
  | .ct, env => ∀ H' O' σ', Ext H H' O O' → SRep K H' Ex O' env σ' → D.ct σ' H'
  | .rt w, _ => ∀ H' u, (∀ b o, b ∉ O → H b = some o → H' b = some o) → RRes K H H' Ex O w u → D.rt u H'
abbrev SF := En → Option (Fl × En)
def rS (K : PySem.W.Frag) (f : SF) : TS := fun D σ H => ∃ Ex O env fl env', SRep K H Ex O env σ ∧ f env = some (fl, env') ∧ EndOk K D H Ex O fl env'
theorem EndOk.ext {K : PySem.W.Frag} {D : Ends} {H H1 : Hp} {Ex O O1 : List Addr} {fl : Fl} {env : En} (x : Ext H H1 O O1) (h : EndOk K D H Ex O fl env) : EndOk K D H1 Ex O1 fl env := by
  cases fl with
  | nx => exact fun H' O' σ' y r => h H' O' σ' (x.trans y) r
  | bk => exact fun H' O' σ' y r => h H' O' σ' (x.trans y) r
  | ct => exact fun H' O' σ' y r => h H' O' σ' (x.trans y) r
  | rt w =>
    refine fun H' u k r => h H' u (fun b o n e => ?_) ?_
    · refine k b o (fun z => ?_) (x.keep b o n e)
      rcases x.new b z with q | q
      · exact n q
      · rw [q] at e; cases e
    · cases w with
      | d y => exact r
      | o b =>
        obtain ⟨p, ho, e, n, q, e2, r2⟩ := r
        refine ⟨p, ho, e, n, ?_, e2, r2⟩
        rcases q with q | q
        · exact x.new p q
        · by_cases hh : p ∈ O
          · exact .inl hh
          · cases e3 : H p with
            | none => exact .inr rfl
            | some oo =>
              have := x.keep p oo hh e3
              rw [q] at this; cases this
section
variable {K : PySem.W.Frag} {H H' H1 : Hp} {Ex O O' : List Addr} {env : En} {σ : L2.St} {i : Nat} {u : V} {w : W}
theorem SRep.same (m : Same H H') (h : SRep K H Ex O env σ) : SRep K H' Ex O env σ := ⟨h.er.mono m, h.own, h.dis⟩
/-- a frozen value put into a slot -/
theorem EnvRep.put_d {T : List Addr} {x : D} (h : EnvRep K H T env σ) (r : Dp K (cut H T) u x) : EnvRep K H T (env.set i (some (.d x))) (σ.set i (some u)) := by
  refine ⟨h.has, by simp [h.len], fun j w e => ?_, fun j l b c p e1 e2 e3 e4 => ?_⟩
  · by_cases hj : i = j
    · subst hj
      have hi : i < env.length := by
        have := (List.getElem?_eq_some_iff.mp e).1
        simpa using this
      rw [List.getElem?_set_self hi] at e
      cases e
      exact ⟨u, List.getElem?_set_self (by rw [← h.len]; exact hi), r⟩
    · rw [List.getElem?_set_ne hj] at e
      obtain ⟨v, a, b⟩ := h.slot j w e
      exact ⟨v, by rw [List.getElem?_set_ne hj]; exact a, b⟩
  · have dj : ∀ {j : Nat} {b : Ob}, (env.set i (some (.d x)))[j]? = some (some (W.o b)) → i ≠ j ∧ env[j]? = some (some (W.o b)) := fun {j b} e => by
      by_cases hj : i = j
      · subst hj
        have hi : i < env.length := by
          have := (List.getElem?_eq_some_iff.mp e).1
          simpa using this
        rw [List.getElem?_set_self hi] at e
        cases e
      · rw [List.getElem?_set_ne hj] at e
        exact ⟨hj, e⟩
    obtain ⟨n1, f1⟩ := dj e1
    obtain ⟨n2, f2⟩ := dj e2
    rw [List.getElem?_set_ne n1] at e3
    rw [List.getElem?_set_ne n2] at e4
    exact h.apart j l b c p f1 f2 e3 e4
theorem own_put_d {x : D} {j : Nat} {b : Ob} {p : Addr} (e : (env.set i (some (.d x)))[j]? = some (some (W.o b))) (e2 : (σ.set i (some u))[j]? = some (some (.ref p))) : env[j]? = some (some (W.o b)) ∧ σ[j]? = some (some (.ref p)) := by
  by_cases hj : i = j
  · subst hj
    have hi : i < env.length := by
      have := (List.getElem?_eq_some_iff.mp e).1
      simpa using this
    rw [List.getElem?_set_self hi] at e
    cases e
  · rw [List.getElem?_set_ne hj] at e e2
    exact ⟨e, e2⟩
theorem SRep.put_d {x : D} (h : SRep K H Ex O env σ) (r : Dp K (cut H (Ex ++ O)) u x) : SRep K H Ex O (env.set i (some (.d x))) (σ.set i (some u)) :=
  ⟨h.er.put_d r, fun j b p e e2 => let q := own_put_d e e2; h.own j b p q.1 q.2, h.dis⟩
theorem mem_mid {Ex O : List Addr} {p a : Addr} : a ∈ Ex ++ p :: O ↔ a ∈ p :: (Ex ++ O) := by simp; exact ⟨fun h => by rcases h with h | h | h <;> simp [h], fun h => by rcases h with h | h | h <;> simp [h]⟩
/-- a new thing of one's own put into a slot -/
theorem SRep.put_o {b : Ob} {p : Addr} {ho : HO} (h : SRep K H Ex O env σ) (m : Same H H') (np : p ∉ Ex ++ O) (n : H p = none) (e : H' p = some ho) (r : ObRep K (cut H' (p :: (Ex ++ O))) b ho) :
    SRep K H' Ex (p :: O) (env.set i (some (.o b))) (σ.set i (some (.ref p))) := by
  have c1 : Same (cut H (Ex ++ O)) (cut H' (Ex ++ p :: O)) := fun b o z => cut_le (fun a q => mem_mid.mp q) b o (cut_new m n b o z)
  have c2 : Same (cut H' (p :: (Ex ++ O))) (cut H' (Ex ++ p :: O)) := cut_le fun a q => mem_mid.mp q
  have old : ∀ {j : Nat} {c : Ob} {q : Addr}, env[j]? = some (some (W.o c)) → σ[j]? = some (some (.ref q)) → q ≠ p := fun {j c q} e1 e2 z => by
    subst z
    exact np (List.mem_append_right _ (h.own j c q e1 e2))
  refine ⟨⟨fun a z => ?_, by simp [h.er.len], fun j w z => ?_, fun j l b1 c1' q e1 e2 e3 e4 => ?_⟩, fun j b1 q e1 e2 => ?_, fun a z => ?_⟩
  · rcases List.mem_cons.mp (mem_mid.mp z) with rfl | z
    · exact ⟨ho, e⟩
    · exact (h.er.has.mono m) a z
  · by_cases hj : i = j
    · subst hj
      have hi : i < env.length := by
        have := (List.getElem?_eq_some_iff.mp z).1
        simpa using this
      rw [List.getElem?_set_self hi] at z
      cases z
      exact ⟨.ref p, List.getElem?_set_self (by rw [← h.er.len]; exact hi), p, ho, rfl, by simp, e, ob_mono c2 r⟩
    · rw [List.getElem?_set_ne hj] at z
      obtain ⟨v, a, bb⟩ := h.er.slot j w z
      refine ⟨v, by rw [List.getElem?_set_ne hj]; exact a, ?_⟩
      cases w with
      | d x => exact dp_mono c1 bb
      | o b1 =>
        obtain ⟨q, hq, e1, e2, e3, e4⟩ := bb
        exact ⟨q, hq, e1, mem_mid.mpr (List.mem_cons_of_mem _ e2), m _ _ e3, ob_mono c1 e4⟩
  · by_cases hj : i = j
    · by_cases hl : i = l
      · exact hj.symm.trans hl
      · exfalso
        subst hj
        have hi : i < σ.length := by
          have := (List.getElem?_eq_some_iff.mp e3).1
          simpa using this
        rw [List.getElem?_set_self hi] at e3
        rw [List.getElem?_set_ne hl] at e2 e4
        cases e3
        exact old e2 e4 rfl
    · by_cases hl : i = l
      · exfalso
        subst hl
        have hi : i < σ.length := by
          have := (List.getElem?_eq_some_iff.mp e4).1
          simpa using this
        rw [List.getElem?_set_self hi] at e4
        rw [List.getElem?_set_ne hj] at e1 e3
        cases e4
        exact old e1 e3 rfl
      · rw [List.getElem?_set_ne hj] at e1 e3
        rw [List.getElem?_set_ne hl] at e2 e4
        exact h.er.apart j l b1 c1' q e1 e2 e3 e4
  · by_cases hj : i = j
    · subst hj
      have hi : i < σ.length := by
        have := (List.getElem?_eq_some_iff.mp e2).1
        simpa using this
      rw [List.getElem?_set_self hi] at e2
      cases e2
      simp
    · rw [List.getElem?_set_ne hj] at e1 e2
      exact List.mem_cons_of_mem _ (h.own j b1 q e1 e2)
  · rcases List.mem_cons.mp z with rfl | z
    · exact fun q => np (List.mem_append_left _ q)
    · exact h.dis a z
/-- a result put into a slot -/
theorem SRep.put (h : SRep K H Ex O env σ) (m : Same H H') (r : Res K H H' (Ex ++ O) w u) : ∃ O', Ext H H' O O' ∧ SRep K H' Ex O' (env.set i (some w)) (σ.set i (some u)) := by
  cases w with
  | d x => exact ⟨O, Ext.of_same m O, (h.same m).put_d r⟩
  | o b =>
    obtain ⟨p, ho, rfl, np, n, e, r⟩ := r
    exact ⟨p :: O, ⟨fun b o _ q => m b o q, fun a z => (List.mem_cons.mp z).elim (fun q => .inr (q ▸ n)) .inl⟩, h.put_o m np n e r⟩
end

/-! ### blocks -/
theorem ps_imp {X : Cx} {st : Stmt} {t t' : TS} (h : PS X st t) (i : ∀ D σ H, t' D σ H → t D σ H) : PS X st t' := ⟨fun pins s σ H D I q => h.run pins s σ H D I (i D σ H q)⟩
theorem pss_imp {X : Cx} {st : List Stmt} {t t' : TS} (h : PSs X st t) (i : ∀ D σ H, t' D σ H → t D σ H) : PSs X st t' := ⟨fun pins s σ H D I q => h.run pins s σ H D I (i D σ H q)⟩
section
variable {X : Cx} {e a b c : Expr} {f g h : En → Option W} {pos : Pos} {st : Stmt} {rest : List Stmt} {F G : SF}
def sNil : SF := fun env => some (.nx, env)
def sSeq (F G : SF) : SF := fun env => (F env).bind fun r => match r with
  | (.nx, e1) => G e1
  | r => some r
theorem es_nil : PSs X [] (rS X.K sNil) := pss_imp pss_nil fun D σ H ⟨Ex, O, env, fl, env', h1, h2, h3⟩ => by
  cases h2
  exact h3 H O σ (Ext.of_same (Same.refl _) O) h1
theorem rs_seq {D : Ends} {σ : L2.St} {H : Hp} (q : rS X.K (sSeq F G) D σ H) : tSeq (rS X.K F) (rS X.K G) D σ H := by
  obtain ⟨Ex, O, env, fl, env', h1, h2, h3⟩ := q
  unfold sSeq at h2
  obtain ⟨⟨f1, e1⟩, q1, q2⟩ := Option.bind_eq_some_iff.mp h2
  refine ⟨Ex, O, env, f1, e1, h1, q1, ?_⟩
  cases f1 with
  | nx => exact fun H' O' σ' x r => ⟨Ex, O', e1, fl, env', r, q2, h3.ext x⟩
  | bk => cases q2; exact h3
  | ct => cases q2; exact h3
  | rt w => cases q2; exact h3
theorem es_cons (h1 : PS X st (rS X.K F)) (h2 : PSs X rest (rS X.K G)) : PSs X (st :: rest) (rS X.K (sSeq F G)) := pss_imp (pss_cons h1 h2) fun _ _ _ q => rs_seq q
theorem es_one (h1 : PS X st (rS X.K F)) : PSs X [st] (rS X.K F) := pss_one h1
/-- ghost: a name's list is from now on shared, never changed -/
def frzAt (i : Nat) (env : En) : En := match env[i]? with
  | some (some (.o (.lst xs))) => env.set i (some (.d (.list xs)))
  | _ => env
theorem frz_rep {K : PySem.W.Frag} {H : Hp} {Ex O : List Addr} {env : En} {σ : L2.St} (i : Nat) (h : SRep K H Ex O env σ) : ∃ O', Ext H H O O' ∧ (∀ a ∈ O', a ∈ O) ∧ SRep K H Ex O' (frzAt i env) σ := by
  unfold frzAt
  split
  · rename_i xs e
    obtain ⟨u, e1, p, ho, rfl, pO, hp, vs, rfl, r⟩ := h.er.slot i _ e
    have pO2 : p ∈ O := h.own i _ p e e1
    have hi : i < env.length := (List.getElem?_eq_some_iff.mp e).1
    have ne : ∀ {j : Nat} {b : Ob} {q : Addr}, i ≠ j → env[j]? = some (some (W.o b)) → σ[j]? = some (some (.ref q)) → q ≠ p := fun {j b q} hj f1 f2 z => by
      subst z
      exact hj (h.er.apart i j _ b q e f1 e1 f2)
    have sub : ∀ a ∈ Ex ++ O.filter (fun a => decide (a ≠ p)), a ∈ Ex ++ O := fun a z => by
      rcases List.mem_append.mp z with z | z
      · exact List.mem_append_left _ z
      · exact List.mem_append_right _ (List.mem_filter.mp z).1
    have np : p ∉ Ex ++ O.filter (fun a => decide (a ≠ p)) := fun z => by
      rcases List.mem_append.mp z with z | z
      · exact h.dis p pO2 z
      · have := (List.mem_filter.mp z).2
        simp at this
    refine ⟨O.filter fun a => decide (a ≠ p), ⟨fun b o _ q => q, fun a z => .inl (List.mem_filter.mp z).1⟩, fun a z => (List.mem_filter.mp z).1, ⟨⟨fun a z => h.er.has a (sub a z), by simp [h.er.len], fun j w z => ?_, fun j l b c q f1 f2 f3 f4 => ?_⟩, fun j b q f1 f2 => ?_, fun a z => h.dis a (List.mem_filter.mp z).1⟩⟩
    · by_cases hj : i = j
      · subst hj
        rw [List.getElem?_set_self hi] at z
        cases z
        exact ⟨.ref p, e1, Dp.lst (.inl (.inl (cut_mk np hp))) (dpa_mono (cut_le sub) r)⟩
      · rw [List.getElem?_set_ne hj] at z
        obtain ⟨v, f1, f2⟩ := h.er.slot j w z
        refine ⟨v, f1, ?_⟩
        cases w with
        | d x => exact dp_mono (cut_le sub) f2
        | o b =>
          obtain ⟨q, hq, rfl, g2, g3, g4⟩ := f2
          have g5 : q ∈ O := h.own j b q z f1
          exact ⟨q, hq, rfl, List.mem_append_right _ (List.mem_filter.mpr ⟨g5, by simpa using ne hj z f1⟩), g3, ob_mono (cut_le sub) g4⟩
    · have nj : ∀ {j : Nat} {b : Ob}, (env.set i (some (.d (.list xs))))[j]? = some (some (W.o b)) → env[j]? = some (some (W.o b)) := fun {j b} f => by
        by_cases hj : i = j
        · subst hj
          rw [List.getElem?_set_self hi] at f
          cases f
        · rwa [List.getElem?_set_ne hj] at f
      exact h.er.apart j l b c q (nj f1) (nj f2) f3 f4
    · by_cases hj : i = j
      · subst hj
        rw [List.getElem?_set_self hi] at f1
        cases f1
      · rw [List.getElem?_set_ne hj] at f1
        exact List.mem_filter.mpr ⟨h.own j b q f1 f2, by simpa using ne hj f1 f2⟩
  · exact ⟨O, Ext.of_same (Same.refl _) O, fun a z => z, h⟩
def sFrz (i : Nat) (F : SF) : SF := fun env => F (frzAt i env)
theorem rs_frz {i : Nat} {D : Ends} {σ : L2.St} {H : Hp} (q : rS X.K (sFrz i F) D σ H) : rS X.K F D σ H := by
  obtain ⟨Ex, O, env, fl, env', h1, h2, h3⟩ := q
  obtain ⟨O', x, _, r⟩ := frz_rep i h1
  exact ⟨Ex, O', frzAt i env, fl, env', r, h2, h3.ext x⟩
theorem ess_frz (i : Nat) (h : PSs X rest (rS X.K F)) : PSs X rest (rS X.K (sFrz i F)) := pss_imp h fun _ _ _ q => rs_frz q
theorem es_frz (i : Nat) (h : PS X st (rS X.K F)) : PS X st (rS X.K (sFrz i F)) := ps_imp h fun _ _ _ q => rs_frz q
/-- ghost: names forgotten behind a statement -/
def killAt : List Nat → En → En
  | [], env => env
  | i :: is, env => killAt is (env.set i none)
theorem kill_rep {K : PySem.W.Frag} {H : Hp} {Ex O : List Addr} {σ : L2.St} : ∀ (is : List Nat) {env : En}, SRep K H Ex O env σ → SRep K H Ex O (killAt is env) σ
  | [], _, h => h
  | i :: is, env, h => by
    have nj : ∀ {j : Nat} {w : W}, (env.set i none)[j]? = some (some w) → env[j]? = some (some w) := fun {j w} f => by
      by_cases hj : i = j
      · subst hj
        have hi : i < env.length := by
          have := (List.getElem?_eq_some_iff.mp f).1
          simpa using this
        rw [List.getElem?_set_self hi] at f
        cases f
      · rwa [List.getElem?_set_ne hj] at f
    exact kill_rep is ⟨⟨h.er.has, by simp [h.er.len], fun j w z => h.er.slot j w (nj z), fun j l b c p e1 e2 => h.er.apart j l b c p (nj e1) (nj e2)⟩, fun j b p e1 => h.own j b p (nj e1), h.dis⟩
def sKill (is : List Nat) (F : SF) : SF := fun env => (F env).map fun r => (r.1, killAt is r.2)
theorem rs_kill {is : List Nat} {D : Ends} {σ : L2.St} {H : Hp} (q : rS X.K (sKill is F) D σ H) : rS X.K F D σ H := by
  obtain ⟨Ex, O, env, fl, env', h1, h2, h3⟩ := q
  unfold sKill at h2
  obtain ⟨⟨f1, e1⟩, q1, q2⟩ := Option.map_eq_some_iff.mp h2
  cases q2
  refine ⟨Ex, O, env, f1, e1, h1, q1, ?_⟩
  cases f1 with
  | nx => exact fun H' O' σ' x r => h3 H' O' σ' x (kill_rep is r)
  | bk => exact fun H' O' σ' x r => h3 H' O' σ' x (kill_rep is r)
  | ct => exact fun H' O' σ' x r => h3 H' O' σ' x (kill_rep is r)
  | rt w => exact h3
theorem ess_kill (is : List Nat) (h : PSs X rest (rS X.K F)) : PSs X rest (rS X.K (sKill is F)) := pss_imp h fun _ _ _ q => rs_kill q
theorem es_kill (is : List Nat) (h : PS X st (rS X.K F)) : PS X st (rS X.K (sKill is F)) := ps_imp h fun _ _ _ q => rs_kill q

/-! ### plain statements -/
def sSet (i : Nat) (f : En → Option W) : SF := fun env => (f env).map fun w => (.nx, env.set i (some w))
theorem es_set {i : Nat} {x : Str} {pos' : Pos} (hN : X.N.Nodup) (hi : X.N[i]? = some x) (hx : Loc X.env.scope x) (he : PE X e (rE X.K f)) (hs : swapsWith e (some (.Name x pos')) pos.line X.env = pure false := by rfl) (hf : X.fn x = true ∨ X.env.scope.names.lookup x = some .local := by first | exact .inl rfl | exact .inr rfl | assumption) :
    PS X (.Assign [.Name x pos'] e pos) (rS X.K (sSet i f)) :=
  ps_imp (ps_set hN hi hx he hs hf) fun D σ H ⟨Ex, O, env, fl, env', h1, h2, h3⟩ => by
    unfold sSet at h2
    obtain ⟨w, e1, e2⟩ := Option.map_eq_some_iff.mp h2
    cases e2
    refine ⟨Ex ++ O, env, w, h1.er, e1, fun H' u m r => ?_⟩
    obtain ⟨O', x1, r1⟩ := h1.put (i := i) m r
    exact h3 H' O' _ x1 r1
def sPass : SF := fun env => some (.nx, env)
def sBrk : SF := fun env => some (.bk, env)
def sCnt : SF := fun env => some (.ct, env)
theorem es_pass : PS X (.Pass pos) (rS X.K sPass) := ps_imp ps_pass fun D σ H ⟨Ex, O, env, fl, env', h1, h2, h3⟩ => by
  cases h2
  exact h3 H O σ (Ext.of_same (Same.refl _) O) h1
theorem es_break : PS X (.Break pos) (rS X.K sBrk) := ps_imp ps_break fun D σ H ⟨Ex, O, env, fl, env', h1, h2, h3⟩ => by
  cases h2
  exact h3 H O σ (Ext.of_same (Same.refl _) O) h1
theorem es_continue : PS X (.Continue pos) (rS X.K sCnt) := ps_imp ps_continue fun D σ H ⟨Ex, O, env, fl, env', h1, h2, h3⟩ => by
  cases h2
  exact h3 H O σ (Ext.of_same (Same.refl _) O) h1
def sRet (f : En → Option W) : SF := fun env => (f env).map fun w => (.rt w, env)
theorem es_ret (he : PE X e (rE X.K f)) : PS X (.Return (some e) pos) (rS X.K (sRet f)) :=
  ps_imp (ps_ret he) fun D σ H ⟨Ex, O, env, fl, env', h1, h2, h3⟩ => by
    unfold sRet at h2
    obtain ⟨w, e1, e2⟩ := Option.map_eq_some_iff.mp h2
    cases e2
    refine ⟨Ex ++ O, env, w, h1.er, e1, fun H' u m r => h3 H' u (fun b o _ q => m b o q) ?_⟩
    cases w with
    | d x => exact dp_mono (cut_le fun a z => List.mem_append_left _ z) r
    | o b =>
      obtain ⟨p, ho, e, np, n, e2, r2⟩ := r
      refine ⟨p, ho, e, fun z => np (List.mem_append_left _ z), .inr n, e2, ob_mono (cut_le fun a z => ?_) r2⟩
      rcases List.mem_cons.mp z with rfl | z
      · simp
      · simp [z]
/-- return x, x a name: what it owns is handed over -/
theorem es_retRd {i : Nat} (he : PE X e (tVar i)) : PS X (.Return (some e) pos) (rS X.K (sRet (xRd i))) :=
  ps_imp (ps_ret he) fun D σ H ⟨Ex, O, env, fl, env', h1, h2, h3⟩ => by
    unfold sRet xRd at h2
    obtain ⟨w, e1, e2⟩ := Option.map_eq_some_iff.mp h2
    cases e2
    have e3 : env[i]? = some (some w) := Option.join_eq_some_iff.mp e1
    obtain ⟨u, f1, f2⟩ := h1.er.slot i w e3
    refine ⟨u, f1, h3 H u (fun b o _ q => q) ?_⟩
    cases w with
    | d x => exact dp_mono (cut_le fun a z => List.mem_append_left _ z) f2
    | o b =>
      obtain ⟨p, ho, rfl, g1, g2, g3⟩ := f2
      have pO := h1.own i b p e3 f1
      refine ⟨p, ho, rfl, h1.dis p pO, .inl pO, g2, ob_mono (cut_le fun a z => ?_) g3⟩
      rcases List.mem_cons.mp z with rfl | z
      · exact List.mem_append_right _ pO
      · exact List.mem_append_left _ z
theorem es_retN : PS X (.Return none pos) (rS X.K (sRet (xC .none))) := ps_imp ps_retN fun D σ H ⟨Ex, O, env, fl, env', h1, h2, h3⟩ => by
  cases h2
  exact h3 H .non (fun b o _ q => q) Dp.non
def sExpr (f : En → Option W) : SF := fun env => (f env).map fun _ => (.nx, env)
theorem es_expr (he : PE X e (rE X.K f)) (hs : swapsWith e none pos.line X.env = pure false := by rfl) : PS X (.Expr e pos) (rS X.K (sExpr f)) :=
  ps_imp (ps_expr he hs) fun D σ H ⟨Ex, O, env, fl, env', h1, h2, h3⟩ => by
    unfold sExpr at h2
    obtain ⟨w, e1, e2⟩ := Option.map_eq_some_iff.mp h2
    cases e2
    exact ⟨Ex ++ O, env, w, h1.er, e1, fun H' u m r => h3 H' O σ (Ext.of_same m O) (h1.same m)⟩
/-! ### if -/
def sIf (p : En → Option Bool) (F G : SF) : SF := fun env => (p env).bind fun c => if c then F env else G env
theorem es_if {p : En → Option Bool} {A B : List Stmt} (hc : PT X c (rT X.K p)) (ha : PSs X A (rS X.K F)) (hb : PSs X B (rS X.K G)) : PS X (.If c A B pos) (rS X.K (sIf p F G)) :=
  ps_imp (ps_if hc ha hb) fun D σ H ⟨Ex, O, env, fl, env', h1, h2, h3⟩ => by
    unfold sIf at h2
    obtain ⟨c0, e0, e1⟩ := Option.bind_eq_some_iff.mp h2
    refine ⟨Ex ++ O, env, c0, h1.er, e0, fun H' m => ?_⟩
    cases c0 with
    | true => exact ⟨Ex, O, env, fl, env', h1.same m, e1, h3.ext (Ext.of_same m O)⟩
    | false => exact ⟨Ex, O, env, fl, env', h1.same m, e1, h3.ext (Ext.of_same m O)⟩
/-! ### while -/
def whileL (p : En → Option Bool) (F : SF) : Nat → SF
  | 0, _ => none
  | n + 1, env => (p env).bind fun c => if c then (F env).bind fun r => match r with
      | (.nx, e1) => whileL p F n e1
      | (.ct, e1) => whileL p F n e1
      | (.bk, e1) => some (.nx, e1)
      | (.rt w, e1) => some (.rt w, e1)
    else some (.nx, env)
theorem es_while (n : Nat) {p : En → Option Bool} {A : List Stmt} (hp : PassesOwn (model X.prog X.w) X.A X.env X.xe) (hc : PT X c (rT X.K p)) (ha : PSs X A (rS X.K F)) : PS X (.While c A [] pos) (rS X.K (whileL p F n)) :=
  ps_imp (ps_while hp hc ha) fun D σ H q => by
    refine ⟨fun m σ H => rS X.K (whileL p F m) D σ H, ⟨n, q⟩, fun m σ H q => ?_⟩
    obtain ⟨Ex, O, env, fl, env', h1, h2, h3⟩ := q
    cases m with
    | zero => cases h2
    | succ m =>
      unfold whileL at h2
      obtain ⟨c0, e0, e1⟩ := Option.bind_eq_some_iff.mp h2
      refine ⟨Ex ++ O, env, c0, h1.er, e0, fun H1 m1 => ?_⟩
      cases c0 with
      | false =>
        cases e1
        exact h3 H1 O σ (Ext.of_same m1 O) (h1.same m1)
      | true =>
        rw [if_pos rfl] at e1
        obtain ⟨⟨f1, g1⟩, e2, e3⟩ := Option.bind_eq_some_iff.mp e1
        have h4 := h3.ext (Ext.of_same m1 O)
        refine ⟨fun σ' H' => rS X.K (whileL p F m) D σ' H', fun σ' H' z => ⟨m, Nat.lt_succ_self m, z⟩, Ex, O, env, f1, g1, h1.same m1, e2, ?_⟩
        cases f1 with
        | nx => exact fun H' O' σ' x r => ⟨Ex, O', g1, fl, env', r, e3, h4.ext x⟩
        | ct => exact fun H' O' σ' x r => ⟨Ex, O', g1, fl, env', r, e3, h4.ext x⟩
        | bk => cases e3; exact h4
        | rt w => cases e3; exact h4
end
end EV

set_option Elab.async false
set_option linter.all false
set_option maxRecDepth 100000
set_option maxHeartbeats 1000000
/-! targets, for, comprehensions, calls, defs -/
namespace EV
open PySem L2
section
variable {K : PySem.W.Frag} {H H' H1 H2 : Hp} {Ex O O' : List Addr} {env env' : En} {σ σ' : L2.St} {i : Nat} {u : V} {w : W}
/-! ### several results -/
def ownOf : W → V → List Addr
  | .o _, .ref p => [p]
  | _, _ => []
theorem EnvRep.more {p : Addr} {T : List Addr} (h : EnvRep K H T env σ) (m : Same H H') (np : p ∉ T) (n : H p = none) (e : ∃ o, H' p = some o) : EnvRep K H' (p :: T) env σ := by
  refine ⟨fun a z => ?_, h.len, fun j w z => ?_, h.apart⟩
  · rcases List.mem_cons.mp z with rfl | z
    · exact e
    · exact (h.has.mono m) a z
  · obtain ⟨v, a, b⟩ := h.slot j w z
    refine ⟨v, a, ?_⟩
    cases w with
    | d x => exact dp_mono (cut_new m n) b
    | o b1 =>
      obtain ⟨q, hq, e1, e2, e3, e4⟩ := b
      exact ⟨q, hq, e1, List.mem_cons_of_mem _ e2, m _ _ e3, ob_mono (cut_new m n) e4⟩
theorem Res.mem {T T' : List Addr} (h : Res K H H' T w u) (e : ∀ a, a ∈ T ↔ a ∈ T') : Res K H H' T' w u := by
  cases w with
  | d x => exact dp_mono (cut_le fun a z => (e a).mpr z) h
  | o b =>
    obtain ⟨p, ho, e1, np, n, e2, r⟩ := h
    refine ⟨p, ho, e1, fun z => np ((e p).mpr z), n, e2, ob_mono (cut_le fun a z => ?_) r⟩
    rcases List.mem_cons.mp z with rfl | z
    · simp
    · exact List.mem_cons_of_mem _ ((e a).mpr z)
/-- put, and what is owned behind it -/
theorem SRep.put' (h : SRep K H Ex O env σ) (m : Same H H') (r : Res K H H' (Ex ++ O) w u) : Ext H H' O (ownOf w u ++ O) ∧ SRep K H' Ex (ownOf w u ++ O) (env.set i (some w)) (σ.set i (some u)) := by
  cases w with
  | d x => exact ⟨Ext.of_same m O, (h.same m).put_d r⟩
  | o b =>
    obtain ⟨p, ho, rfl, np, n, e, r⟩ := r
    exact ⟨⟨fun b o _ q => m b o q, fun a z => (List.mem_cons.mp z).elim (fun q => .inr (q ▸ n)) .inl⟩, h.put_o m np n e r⟩
theorem EnvRep.after {T : List Addr} (h : EnvRep K H T env σ) (m : Same H H') (r : Res K H H' T w u) : EnvRep K H' (ownOf w u ++ T) env σ := by
  cases w with
  | d x => exact h.mono m
  | o b =>
    obtain ⟨p, ho, rfl, np, n, e, r⟩ := r
    exact h.more m np n ⟨_, e⟩
end
section
variable {X : Cx} {e a b c : Expr} {es : List Expr} {f g h : En → Option W} {pos : Pos} {st : Stmt} {rest : List Stmt} {F G : SF}
/-! ### a, b = x, y -/
def sPar (i j : Nat) (f g : En → Option W) : SF := fun env => (f env).bind fun v => (g env).map fun w => (.nx, (env.set i (some v)).set j (some w))
theorem es_par {i j : Nat} {x y : Str} {px py pt : Pos} {kt k2 pt2} (hc : X.calm = true) (hN : X.N.Nodup) (hi : X.N[i]? = some x) (hj : X.N[j]? = some y) (hij : i ≠ j)
    (hx : X.env.scope.names.lookup x = some .local) (hy : X.env.scope.names.lookup y = some .local) (ha : PE X a (rE X.K f)) (hb : PE X b (rE X.K g))
    (hw : swappedStores [.Tuple [.Name x px, .Name y py] kt pt] (.Tuple [a, b] k2 pt2) X.env = pure (some [x, y]))
    (hs : swapsWithSole [.Tuple [.Name x px, .Name y py] kt pt] (.Tuple [a, b] k2 pt2) pos.line X.env = pure false := by rfl)
    (s1 : starEach [a, b] X.env = (false, eval a X.env) :: starEach [b] X.env := by rfl) (s2 : starEach [b] X.env = (false, eval b X.env) :: starEach [] X.env := by rfl) :
    PS X (.Assign [.Tuple [.Name x px, .Name y py] kt pt] (.Tuple [a, b] k2 pt2) pos) (rS X.K (sPar i j f g)) :=
  ps_imp (ps_par hc hN hi hj hij hx hy (pa_cons ha (pa_cons hb pa_nil s2) s1) hw hs) fun D σ H ⟨Ex, O, env, fl, env', h1, h2, h3⟩ => by
    unfold sPar at h2
    obtain ⟨v, e1, e2⟩ := Option.bind_eq_some_iff.mp h2
    obtain ⟨w, e3, e4⟩ := Option.map_eq_some_iff.mp e2
    cases e4
    refine ⟨Ex ++ O, env, v, h1.er, e1, fun H1 x1 m1 r1 => ⟨ownOf v x1 ++ (Ex ++ O), env, w, h1.er.after m1 r1, e3, fun H2 x2 m2 r2 => ⟨x1, x2, rfl, ?_⟩⟩⟩
    obtain ⟨q1, q2⟩ := h1.put' (i := i) m1 r1
    have r3 : Res X.K H1 H2 (Ex ++ (ownOf v x1 ++ O)) w x2 := r2.mem fun a => by
      simp only [List.mem_append]
      exact ⟨fun z => by rcases z with z | z | z <;> simp [z], fun z => by rcases z with z | z | z <;> simp [z]⟩
    obtain ⟨q3, q4⟩ := q2.put' (i := j) m2 r3
    exact h3 H2 _ _ (q1.trans q3) q4

/-! ### targets -/
theorem pg_imp {t t' : TG} (h : PG X e t) (i : ∀ v σ H Q, t' v σ H Q → t v σ H Q) : PG X e t' := ⟨fun pins s σ H v u Q I r q => h.run pins s σ H v u Q I r (i v σ H Q q)⟩
theorem pgs_imp {t t' : TGs} (h : PGs X es t) (i : ∀ v σ H Q, t' v σ H Q → t v σ H Q) : PGs X es t' := ⟨fun pins s σ H v u Q I r q => h.run pins s σ H v u Q I r (i v σ H Q q)⟩
/-- the slots is are set, all else stays; nothing new is owned by a name -/
structure Put (is : List Nat) (env env' : En) (σ σ' : L2.St) : Prop where
  out : ∀ j, j ∉ is → σ'[j]? = σ[j]?
  len : σ'.length = σ.length
  own : ∀ (j : Nat) (b : Ob) (p : Addr), env'[j]? = some (some (.o b)) → σ'[j]? = some (some (.ref p)) → env[j]? = some (some (.o b)) ∧ σ[j]? = some (some (.ref p))
theorem Put.refl {is : List Nat} {env : En} {σ : L2.St} : Put is env env σ σ := ⟨fun _ _ => rfl, rfl, fun _ _ _ a b => ⟨a, b⟩⟩
theorem Put.trans {is js : List Nat} {env e1 e2 : En} {σ s1 s2 : L2.St} (x : Put is env e1 σ s1) (y : Put js e1 e2 s1 s2) : Put (is ++ js) env e2 σ s2 :=
  ⟨fun j n => (y.out j fun z => n (List.mem_append_right _ z)).trans (x.out j fun z => n (List.mem_append_left _ z)), y.len.trans x.len, fun j b p a q => let z := y.own j b p a q; x.own j b p z.1 z.2⟩
def rG (K : PySem.W.Frag) (is : List Nat) (t : D → En → Option En) : TG := fun v σ H Q => ∃ O env d env', EnvRep K H O env σ ∧ Dp K (cut H O) v d ∧ t d env = some env' ∧ ∀ σ', EnvRep K H O env' σ' → Put is env env' σ σ' → Q σ' H
def rGs (K : PySem.W.Frag) (is : List Nat) (t : List D → En → Option En) : TGs := fun vs σ H Q => ∃ O env ds env', EnvRep K H O env σ ∧ DpAll K (cut H O) vs ds ∧ t ds env = some env' ∧ ∀ σ', EnvRep K H O env' σ' → Put is env env' σ σ' → Q σ' H
def gN (i : Nat) (d : D) (env : En) : Option En := some (env.set i (some (.d d)))
theorem eg_name {i : Nat} {x : Str} (hN : X.N.Nodup) (hi : X.N[i]? = some x) (hx : Loc X.env.scope x) (hf : X.fn x = true ∨ X.env.scope.names.lookup x = some .local := by first | exact .inl rfl | exact .inr rfl | assumption) : PG X (.Name x pos) (rG X.K [i] (gN i)) :=
  pg_imp (pg_name hN hi hx hf) fun v σ H Q ⟨O, env, d, env', h1, h2, h3, h4⟩ => by
    cases h3
    refine h4 _ (h1.put_d h2) ⟨fun j n => ?_, by simp, fun j b p a q => own_put_d a q⟩
    rw [List.getElem?_set_ne]
    intro z
    exact n (by simp [z])
def gsN (ds : List D) (env : En) : Option En := match ds with
  | [] => some env
  | _ => none
def gsC (t : D → En → Option En) (ts : List D → En → Option En) (ds : List D) (env : En) : Option En := match ds with
  | d :: r => (t d env).bind fun e1 => ts r e1
  | [] => none
theorem egs_nil : PGs X [] (rGs X.K [] gsN) := pgs_imp pgs_nil fun vs σ H Q ⟨O, env, ds, env', h1, h2, h3, h4⟩ => by
  unfold gsN at h3
  split at h3
  · cases h3
    cases h2
    exact ⟨rfl, h4 σ h1 Put.refl⟩
  · cases h3
theorem egs_cons {is js : List Nat} {t : D → En → Option En} {ts : List D → En → Option En} (h1 : PG X e (rG X.K is t)) (h2 : PGs X es (rGs X.K js ts)) (hs : (assignEach (e :: es) X.env).map (·.2) = assign e X.env :: (assignEach es X.env).map (·.2) := by rfl) :
    PGs X (e :: es) (rGs X.K (is ++ js) (gsC t ts)) := pgs_imp (pgs_cons h1 h2 hs) fun vs σ H Q ⟨O, env, ds, env', q1, q2, q3, q4⟩ => by
  unfold gsC at q3
  split at q3
  · rename_i d r
    obtain ⟨e1, q5, q6⟩ := Option.bind_eq_some_iff.mp q3
    cases q2 with
    | cons r1 r2 =>
      refine ⟨_, _, rfl, O, env, d, e1, q1, r1, q5, fun s1 z1 p1 => ⟨O, e1, r, env', z1, r2, q6, fun s2 z2 p2 => q4 s2 z2 (p1.trans p2)⟩⟩
  · cases q3
def gT (n : Nat) (ts : List D → En → Option En) (d : D) (env : En) : Option En := match d with
  | .tuple ds => if ds.length = n then ts ds env else none
  | _ => none
theorem eg_tup {is : List Nat} {k n : Nat} {ts : List D → En → Option En} (hc : X.calm = true) (h : PGs X es (rGs X.K is ts))
    (hn : (assignEach es X.env).length = n := by rfl) (hst : (assignEach es X.env).findIdx? (·.1) = none := by rfl) : PG X (.Tuple es k pos) (rG X.K is (gT n ts)) :=
  pg_imp (pg_tup hc h hn hst) fun v σ H Q ⟨O, env, d, env', h1, h2, h3, h4⟩ => by
    unfold gT at h3
    split at h3
    · split at h3
      · cases h2 with
        | tup a b => exact ⟨_, _, rfl, same_seqT (cut_all H O) a, by rw [dpa_len b]; assumption, O, env, _, env', h1, b, h3, h4⟩
      · cases h3
    · cases h3
/-- target = e -/
def sAsg (f : En → Option W) (t : D → En → Option En) : SF := fun env => (f env).bind fun w => (dat w).bind fun d => (t d env).map fun e1 => (.nx, e1)
theorem es_asg {tg : Expr} {is : List Nat} {t : D → En → Option En} (he : PE X e (rE X.K f)) (hg : PG X tg (rG X.K is t)) (hs : swapsWithSole [tg] e pos.line X.env = pure false := by rfl) (hw : swappedStores [tg] e X.env = pure none := by rfl)
    (h1 : (assignEach [tg] X.env).map (·.2) = [assign tg X.env] := by rfl) : PS X (.Assign [tg] e pos) (rS X.K (sAsg f t)) :=
  ps_imp (ps_asg he hg hs hw h1) fun D σ H ⟨Ex, O, env, fl, env', h1, h2, h3⟩ => by
    unfold sAsg at h2
    obtain ⟨w, e1, e2⟩ := Option.bind_eq_some_iff.mp h2
    obtain ⟨d, e3, e4⟩ := Option.bind_eq_some_iff.mp e2
    obtain ⟨e5, e6, e7⟩ := Option.map_eq_some_iff.mp e4
    cases e7
    refine ⟨Ex ++ O, env, w, h1.er, e1, fun H1 x1 m1 r1 => ⟨Ex ++ O, env, d, _, h1.er.mono m1, res_dat r1 e3, e6, fun s1 z1 p1 => ?_⟩⟩
    exact h3 H1 O s1 (Ext.of_same m1 O) ⟨z1, fun j b p a q => let z := p1.own j b p a q; h1.own j b p z.1 z.2, h1.dis⟩

/-! ### what is walked -/
/-- the turns of J give the items xs, as long as what is not owned stays -/
def Src (K : PySem.W.Frag) (H : Hp) (O : List Addr) (xs : List D) (J : It) : Prop := ∀ H' O', Ext H H' O O' → Has H' O' → ∀ i,
  (i < xs.length → J.go i H' ∧ ∀ x H'', J.yld i H' x H'' → Same H' H'' ∧ ∃ d, xs[i]? = some d ∧ Dp K (cut H'' O') x d) ∧ (xs.length ≤ i → J.stop i H')
def rI (K : PySem.W.Frag) (f : En → Option (List D)) : TI := fun σ H R => ∃ O env xs, EnvRep K H O env σ ∧ f env = some xs ∧ ∀ H1 J, Same H H1 → Src K H1 O xs J → R J H1
theorem pi_imp {tg iter : Expr} {t t' : TI} (h : PI X tg iter t) (i : ∀ σ H R, t' σ H R → t σ H R) : PI X tg iter t' := ⟨fun pins s σ H R I q => h.run pins s σ H R I (i σ H R q)⟩
def iSeq (K : PySem.W.Frag) (tl : TE) : TI := fun σ H R => tl σ H fun x H1 => ∃ a, x = .ref a ∧ (((∃ xs, SqL K H1 a xs) ∧ R (Itl K a) H1) ∨ ((∃ xs, SqT K H1 a xs) ∧ R (Itt K a) H1))
theorem pi_seq {tg l : Expr} {tl : TE} (hl : PE X l tl) : PI X tg l (iSeq X.K tl) := by
  refine ⟨fun pins s σ H R I h => ?_⟩
  refine thn (hl.run pins s σ H _ I h) fun v s1 ⟨x, H1, I1, r1, q1⟩ => ?_
  obtain ⟨a, e, q1⟩ := q1
  subst e
  cases r1
  rcases q1 with ⟨⟨xs, hq⟩, q⟩ | ⟨⟨xs, hq⟩, q⟩
  · obtain ⟨its, rv, p, hz⟩ := I1.list hq
    refine wpAny_pyIter_list p.isList ?_
    refine ⟨s1.heap.objs.size, [s1.heap.objs.size], _, _, H1, rfl, I1.kept (t' := s1.toks) fun b o e => Heap.get?_push_of_some _ e, turn_list a _, ⟨_, Heap.get?_push_size _ rfl, rfl, rfl⟩, fun b hb => ?_, q⟩
    have e : b = s1.heap.objs.size := by simpa using hb
    subst e
    exact I1.fpOk (Nat.le_refl _) (I1.hok.fresh (Nat.le_refl _))
  · obtain ⟨its, rv, p, hz⟩ := I1.tuple hq
    refine wpAny_pyIter_tuple p ?_
    refine ⟨s1.heap.objs.size, [s1.heap.objs.size], _, _, H1, rfl, I1.kept (t' := s1.toks) fun b o e => Heap.get?_push_of_some _ e, turn_tuple a _, ⟨_, Heap.get?_push_size _ rfl, rfl, rfl⟩, fun b hb => ?_, q⟩
    have e : b = s1.heap.objs.size := by simpa using hb
    subst e
    exact I1.fpOk (Nat.le_refl _) (I1.hok.fresh (Nat.le_refl _))
theorem src_l {K : PySem.W.Frag} {H : Hp} {O : List Addr} {a : Addr} {vs : List V} {xs : List D} (h : SqL K (cut H O) a vs) (r : DpAll K (cut H O) vs xs) : Src K H O xs (Itl K a) := fun H' O' x _ i => by
  have h' : SqL K H' a vs := (cut_all H' O').seq (x.cut.seq h)
  have r' := dpa_mono x.cut r
  refine ⟨fun hi => ?_, fun hi => ⟨vs, h', by rw [dpa_len r]; exact hi⟩⟩
  have hi' : i < vs.length := by rw [dpa_len r]; exact hi
  refine ⟨⟨vs, vs[i], h', by simp [hi']⟩, fun y H'' q => ?_⟩
  obtain ⟨e, q⟩ := q
  subst e
  obtain ⟨d, e1, e2⟩ := dpa_getV r' (q vs h')
  exact ⟨Same.refl _, d, e1, e2⟩
theorem src_t {K : PySem.W.Frag} {H : Hp} {O : List Addr} {a : Addr} {vs : List V} {xs : List D} (h : SqT K (cut H O) a vs) (r : DpAll K (cut H O) vs xs) : Src K H O xs (Itt K a) := fun H' O' x _ i => by
  have h' : SqT K H' a vs := same_seqT (cut_all H' O') (same_seqT x.cut h)
  have r' := dpa_mono x.cut r
  refine ⟨fun hi => ?_, fun hi => ⟨vs, h', by rw [dpa_len r]; exact hi⟩⟩
  have hi' : i < vs.length := by rw [dpa_len r]; exact hi
  refine ⟨⟨vs, vs[i], h', by simp [hi']⟩, fun y H'' q => ?_⟩
  obtain ⟨e, q⟩ := q
  subst e
  obtain ⟨d, e1, e2⟩ := dpa_getV r' (q vs h')
  exact ⟨Same.refl _, d, e1, e2⟩
def seqD : D → Option (List D)
  | .list xs => some xs
  | .tuple xs => some xs
  | _ => none
@[simp] theorem seqD_l (xs : List D) : seqD (.list xs) = some xs := rfl
@[simp] theorem seqD_t (xs : List D) : seqD (.tuple xs) = some xs := rfl
def iS (f : En → Option W) : En → Option (List D) := fun env => (f env).bind fun w => (dat w).bind seqD
theorem ei_seq {tg : Expr} (ha : PE X e (rE X.K f)) : PI X tg e (rI X.K (iS f)) := pi_imp (pi_seq ha) fun σ H R ⟨O, env, xs, h1, h2, h3⟩ => by
  unfold iS at h2
  obtain ⟨w, e1, e2⟩ := Option.bind_eq_some_iff.mp h2
  obtain ⟨d, e3, e4⟩ := Option.bind_eq_some_iff.mp e2
  refine ⟨O, env, w, h1, e1, fun H1 u m r => ?_⟩
  have r := res_dat r e3
  unfold seqD at e4
  split at e4
  · cases e4
    cases r with
    | lst a b => exact ⟨_, rfl, .inl ⟨⟨_, (cut_all H1 O).seq a⟩, h3 H1 _ m (src_l a b)⟩⟩
  · cases e4
    cases r with
    | tup a b => exact ⟨_, rfl, .inr ⟨⟨_, same_seqT (cut_all H1 O) a⟩, h3 H1 _ m (src_t a b)⟩⟩
  · cases e4
/-- lo, lo + 1, .. -/
def intsD (lo : Int) (n : Nat) : List D := (List.range n).map fun i => .int (lo + (i : Nat))
theorem intsD_len (lo : Int) (n : Nat) : (intsD lo n).length = n := by simp [intsD]
theorem src_r {K : PySem.W.Frag} {H : Hp} {O : List Addr} (lo : Int) (n : Nat) : Src K H O (intsD lo n) (Itr lo n) := fun H' O' x _ i => by
  rw [intsD_len]
  refine ⟨fun hi => ⟨hi, fun y H'' q => ?_⟩, fun hi => hi⟩
  obtain ⟨rfl, rfl⟩ := q
  exact ⟨Same.refl _, .int (lo + i), by simp [intsD, hi], Dp.int _⟩
def rgB (j : Int) : Bool := Nat.ble j.natAbs 4000000000000000000
theorem rgB_bd {j : Int} (h : rgB j = true) : -(2 ^ 62) ≤ j ∧ j < 2 ^ 62 := by
  have := Nat.le_of_ble_eq_true h
  omega
theorem rgB_of {j : Int} (h : j.natAbs < 4000000000000000000) : rgB j = true := Nat.ble_eq_true_of_le (by omega)
def iR1 (f : En → Option W) : En → Option (List D) := fun env => (f env).bind fun w => (wI w).bind fun j => if rgB j then some (intsD 0 j.toNat) else none
def iR2 (f g : En → Option W) : En → Option (List D) := fun env => (f env).bind fun v => (g env).bind fun w => (wI v).bind fun i => (wI w).bind fun j => if rgB i && rgB j then some (intsD i (j - i).toNat) else none
theorem wI_some {w : W} {i : Int} (h : wI w = some i) : w = .d (.int i) := by
  unfold wI at h
  split at h
  · cases h; rfl
  · cases h
theorem ei_range1 {tg : Expr} {p : Pos} (hg : Gl X "range") (hm : X.mg "range" = none) (ha : PE X a (rB X.K f)) (hs : starEach [a] X.env = [(false, eval a X.env)] := by rfl) : PI X tg (.Call (.Name "range" p) [a] [] pos) (rI X.K (iR1 f)) :=
  pi_imp (pi_range1 hg hm (pa_cons ha pa_nil hs) hs) fun σ H R ⟨O, env, xs, h1, h2, h3⟩ => by
    unfold iR1 at h2
    obtain ⟨w, e1, e2⟩ := Option.bind_eq_some_iff.mp h2
    obtain ⟨j, e3, e4⟩ := Option.bind_eq_some_iff.mp e2
    cases wI_some e3
    split at e4
    · cases e4
      rename_i hj
      have hj := rgB_bd hj
      refine ⟨O, env, _, h1, e1, fun H1 u m r => ⟨j, by rw [bres_int r], hj.1, hj.2, h3 H1 _ m (src_r 0 _)⟩⟩
    · cases e4
theorem ei_range2 {tg : Expr} {p : Pos} (hg : Gl X "range") (hm : X.mg "range" = none) (ha : PE X a (rB X.K f)) (hb : PE X b (rB X.K g)) (hs : starEach [a, b] X.env = [(false, eval a X.env), (false, eval b X.env)] := by rfl) (hs2 : starEach [b] X.env = [(false, eval b X.env)] := by rfl) :
    PI X tg (.Call (.Name "range" p) [a, b] [] pos) (rI X.K (iR2 f g)) :=
  pi_imp (pi_range2 hg hm (pa_cons ha (pa_cons hb pa_nil hs2) (by rw [hs, hs2])) hs hs2) fun σ H R ⟨O, env, xs, h1, h2, h3⟩ => by
    unfold iR2 at h2
    obtain ⟨v, e1, e2⟩ := Option.bind_eq_some_iff.mp h2
    obtain ⟨w, e3, e4⟩ := Option.bind_eq_some_iff.mp e2
    obtain ⟨i, e5, e6⟩ := Option.bind_eq_some_iff.mp e4
    obtain ⟨j, e7, e8⟩ := Option.bind_eq_some_iff.mp e6
    cases wI_some e5
    cases wI_some e7
    split at e8
    · cases e8
      rename_i hj
      have hj := Bool.and_eq_true_iff.mp hj
      have hj : -(2 ^ 62) ≤ i ∧ i < 2 ^ 62 ∧ -(2 ^ 62) ≤ j ∧ j < 2 ^ 62 := ⟨(rgB_bd hj.1).1, (rgB_bd hj.1).2, rgB_bd hj.2⟩
      refine ⟨O, env, _, h1, e1, fun H1 u m r => ⟨O, env, _, h1.mono m, e3, fun H2 u2 m2 r2 => ⟨i, j, by rw [bres_int r, bres_int r2], hj, h3 H2 _ (m.trans m2) (src_r i _)⟩⟩⟩
    · cases e8
/-! ### for -/
def forL (t : D → En → Option En) (F : SF) : List D → SF
  | [], env => some (.nx, env)
  | x :: xs, env => (t x env).bind fun e1 => (F e1).bind fun r => match r with
    | (.nx, e2) => forL t F xs e2
    | (.ct, e2) => forL t F xs e2
    | (.bk, e2) => some (.nx, e2)
    | (.rt w, e2) => some (.rt w, e2)
def sFor (src : En → Option (List D)) (t : D → En → Option En) (F : SF) : SF := fun env => (src env).bind fun xs => forL t F xs env
theorem es_for {tg iter : Expr} {body : List Stmt} {is : List Nat} {src : En → Option (List D)} {t : D → En → Option En} (hp : PassesOwn (model X.prog X.w) X.A X.env X.xe) (hc : X.calm = true) (hi : PI X tg iter (rI X.K src)) (hg : PG X tg (rG X.K is t)) (hb : PSs X body (rS X.K F))
    (hs : ∀ x, foldedSetIterable iter X.env x = pure x := by intro _; rfl) : PS X (.For tg iter body [] pos) (rS X.K (sFor src t F)) :=
  ps_imp (ps_for hp hc hi hg hb hs) fun D σ H ⟨Ex, O, env, fl, env', h1, h2, h3⟩ => by
    unfold sFor at h2
    obtain ⟨xs, e1, e2⟩ := Option.bind_eq_some_iff.mp h2
    refine ⟨Ex ++ O, env, xs, h1.er, e1, fun H1 J m1 S => ?_⟩
    refine ⟨fun i m σ' H' => m = xs.length - i ∧ i ≤ xs.length ∧ ∃ O' env1 fl env', Ext H1 H' O O' ∧ SRep X.K H' Ex O' env1 σ' ∧ forL t F (xs.drop i) env1 = some (fl, env') ∧ EndOk X.K D H' Ex O' fl env', ⟨xs.length, by simp, Nat.zero_le _, O, env, fl, env', Ext.of_same (Same.refl _) O, h1.same m1, e2, h3.ext (Ext.of_same m1 O)⟩, ?_⟩
    rintro i m σ' H' ⟨rfl, hi, O', env1, fl1, env1', x1, s1, f1, g1⟩
    obtain ⟨S1, S2⟩ := S H' (Ex ++ O') (x1.tot Ex) s1.er.has i
    by_cases hlt : i < xs.length
    · right
      obtain ⟨S3, S4⟩ := S1 hlt
      refine ⟨S3, fun σ2 H2 => i + 1 ≤ xs.length ∧ ∃ O' env1 fl env', Ext H1 H2 O O' ∧ SRep X.K H2 Ex O' env1 σ2 ∧ forL t F (xs.drop (i + 1)) env1 = some (fl, env') ∧ EndOk X.K D H2 Ex O' fl env', fun σ2 H2 z => ⟨xs.length - (i + 1), by omega, rfl, z.1, z.2⟩, fun y H'' q => ?_⟩
      obtain ⟨m2, d, e3, r3⟩ := S4 y H'' q
      have e4 : xs.drop i = d :: xs.drop (i + 1) := by
        have hd : xs[i] = d := by
          have := List.getElem?_eq_getElem hlt
          rw [this] at e3
          exact Option.some.inj e3
        rw [← hd]
        exact List.drop_eq_getElem_cons hlt
      rw [e4] at f1
      unfold forL at f1
      obtain ⟨g2, f2, f3⟩ := Option.bind_eq_some_iff.mp f1
      obtain ⟨⟨fl2, g3⟩, f4, f5⟩ := Option.bind_eq_some_iff.mp f3
      have s2 := s1.same m2
      refine ⟨Ex ++ O', env1, d, g2, s2.er, r3, f2, fun s3 z3 p3 => ⟨Ex, O', g2, fl2, g3, ⟨z3, fun j b p a q => let z := p3.own j b p a q; s2.own j b p z.1 z.2, s2.dis⟩, f4, ?_⟩⟩
      have x2 : Ext H1 H'' O O' := x1.trans (Ext.of_same m2 O')
      have g4 := g1.ext (Ext.of_same m2 O')
      cases fl2 with
      | nx => exact fun H3 O3 s4 x4 r4 => ⟨hlt, O3, g3, fl1, env1', x2.trans x4, r4, f5, g4.ext x4⟩
      | ct => exact fun H3 O3 s4 x4 r4 => ⟨hlt, O3, g3, fl1, env1', x2.trans x4, r4, f5, g4.ext x4⟩
      | bk => cases f5; exact g4
      | rt w => cases f5; exact g4
    · left
      have e : i = xs.length := by omega
      refine ⟨S2 (by omega), ?_⟩
      rw [e, List.drop_length] at f1
      cases f1
      exact g1 H' O' σ' (Ext.of_same (Same.refl _) O') s1
end
end EV

set_option Elab.async false
set_option linter.all false
set_option maxRecDepth 100000
set_option maxHeartbeats 1000000
/-! comprehensions, calls, defs -/
namespace EV
open PySem L2
section
variable {K : PySem.W.Frag} {H H' H1 H2 : Hp} {O : List Addr} {env env' : En} {σ σ' : L2.St}
/-! ### what is walked, nothing changed -/
def SrcC (K : PySem.W.Frag) (H : Hp) (O : List Addr) (xs : List D) (J : It) : Prop := ∀ H' O', Same H H' → (∀ a ∈ O', a ∈ O ∨ H a = none) → Has H' O' → ∀ i,
  (i < xs.length → J.go i H' ∧ ∀ x H'', J.yld i H' x H'' → Same H' H'' ∧ ∃ d, xs[i]? = some d ∧ Dp K (cut H'' O') x d) ∧ (xs.length ≤ i → J.stop i H')
def rIc (K : PySem.W.Frag) (f : En → Option (List D)) : TI := fun σ H R => ∃ O env xs, EnvRep K H O env σ ∧ f env = some xs ∧ ∀ H1 J, Same H H1 → SrcC K H1 O xs J → R J H1
theorem Src.c {xs : List D} {J : It} (h : Src K H O xs J) : SrcC K H O xs J := fun H' O' m n hO i => h H' O' ⟨fun b o _ e => m b o e, n⟩ hO i
theorem eic {X : Cx} {tg e : Expr} {f : En → Option (List D)} (h : PI X tg e (rI X.K f)) : PI X tg e (rIc X.K f) := pi_imp h fun σ H R ⟨O, env, xs, h1, h2, h3⟩ => ⟨O, env, xs, h1, h2, fun H1 J m S => h3 H1 J m S.c⟩
/-- any list or tuple, one's own too -/
def iB (f : En → Option W) : En → Option (List D) := fun env => (f env).bind asS
theorem eic_seq {X : Cx} {tg e : Expr} {f : En → Option W} (ha : PE X e (rB X.K f)) : PI X tg e (rIc X.K (iB f)) := pi_imp (pi_seq ha) fun σ H R ⟨O, env, xs, h1, h2, h3⟩ => by
  unfold iB at h2
  obtain ⟨w, e1, e2⟩ := Option.bind_eq_some_iff.mp h2
  refine ⟨O, env, w, h1, e1, fun H1 u m r => ?_⟩
  unfold asS at e2
  split at e2
  · cases e2
    have r : Dp X.K (cut H1 O) u (.tuple xs) := r
    cases r with
    | tup a b => exact ⟨_, rfl, .inr ⟨⟨_, same_seqT (cut_all H1 O) a⟩, h3 H1 _ m (src_t a b).c⟩⟩
  · cases e2
    have r : Dp X.K (cut H1 O) u (.list xs) := r
    cases r with
    | lst a b => exact ⟨_, rfl, .inl ⟨⟨_, (cut_all H1 O).seq a⟩, h3 H1 _ m (src_l a b).c⟩⟩
  · cases e2
    obtain ⟨p, ho, rfl, q1, vs, rfl, q2⟩ := r
    refine ⟨_, rfl, .inl ⟨⟨_, .inl (.inl q1)⟩, h3 H1 _ m fun H' O' m2 nw _ i => ?_⟩⟩
    have x2 : Ext H1 H' O O' := ⟨fun b o _ e => m2 b o e, nw⟩
    have h' : SqL X.K H' p vs := .inl (.inl (m2 p _ q1))
    have r' := dpa_mono x2.cut q2
    refine ⟨fun hi => ?_, fun hi => ⟨vs, h', by rw [dpa_len q2]; exact hi⟩⟩
    have hi' : i < vs.length := by rw [dpa_len q2]; exact hi
    refine ⟨⟨vs, vs[i], h', by simp [hi']⟩, fun y H'' q => ?_⟩
    obtain ⟨e, q⟩ := q
    subst e
    obtain ⟨d, e3, e4⟩ := dpa_getV r' (q vs h')
    exact ⟨Same.refl _, d, e3, e4⟩
  · cases e2
/-! ### [f for t in xs if p] -/
def wipeE (env : En) : List Nat → En
  | [] => env
  | v :: vs => (wipeE env vs).set v none
theorem wipeE_len (env : En) : ∀ vs : List Nat, (wipeE env vs).length = env.length
  | [] => rfl
  | v :: vs => by unfold wipeE; rw [List.length_set, wipeE_len env vs]
theorem wipe_out2 {σ : L2.St} {i : Nat} : ∀ {vs : List Nat}, i ∉ vs → (wipe σ vs)[i]? = σ[i]?
  | [], _ => rfl
  | v :: vs, h => by
    simp only [List.mem_cons, not_or] at h
    unfold wipe
    rw [List.getElem?_set_ne (fun e => h.1 e.symm)]
    exact wipe_out2 h.2
theorem wipeE_out {env : En} {i : Nat} : ∀ {vs : List Nat}, i ∉ vs → (wipeE env vs)[i]? = env[i]?
  | [], _ => rfl
  | v :: vs, h => by
    simp only [List.mem_cons, not_or] at h
    unfold wipeE
    rw [List.getElem?_set_ne (fun e => h.1 e.symm)]
    exact wipeE_out h.2
theorem wipeE_in {env : En} {i : Nat} {w : W} : ∀ {vs : List Nat}, (wipeE env vs)[i]? = some (some w) → i ∉ vs
  | [], _ => by simp
  | v :: vs, h => by
    unfold wipeE at h
    by_cases e : v = i
    · subst e
      by_cases hv : v < (wipeE env vs).length
      · rw [List.getElem?_set_self hv] at h; cases h
      · rw [List.getElem?_eq_none (by simpa using hv)] at h; cases h
    · rw [List.getElem?_set_ne e] at h
      simp only [List.mem_cons, not_or]
      exact ⟨fun z => e z.symm, wipeE_in h⟩
theorem wipe_rep (vs : List Nat) (h : EnvRep K H O env σ) : EnvRep K H O (wipeE env vs) (wipe σ vs) := by
  have g : ∀ {i : Nat} {w : W}, (wipeE env vs)[i]? = some (some w) → env[i]? = some (some w) ∧ (wipe σ vs)[i]? = σ[i]? := fun {i w} e => by
    have n := wipeE_in e
    exact ⟨by rw [wipeE_out n] at e; exact e, wipe_out2 n⟩
  refine ⟨h.has, by rw [wipeE_len, wipe_length, h.len], fun i w e => ?_, fun i j b c p e1 e2 e3 e4 => ?_⟩
  · obtain ⟨a, q⟩ := g e
    obtain ⟨u, e1, e2⟩ := h.slot i w a
    exact ⟨u, by rw [q]; exact e1, e2⟩
  · obtain ⟨a1, q1⟩ := g e1
    obtain ⟨a2, q2⟩ := g e2
    rw [q1] at e3
    rw [q2] at e4
    exact h.apart i j b c p a1 a2 e3 e4
theorem wipe_put {is vs : List Nat} {σ σ2 : L2.St} (hs : ∀ i ∈ is, i ∈ vs) (p : Put is env env' (wipe σ vs) σ2) : wipe σ2 vs = wipe σ vs := by
  refine List.ext_getElem? fun i => ?_
  by_cases hi : i ∈ vs
  · have z : ∀ (τ : L2.St), τ.length = σ.length → (wipe τ vs)[i]? = if i < σ.length then some none else none := fun τ hl => by
      have w1 : ∀ (ws : List Nat), i ∈ ws → (wipe τ ws)[i]? = if i < σ.length then some none else none := fun ws => by
        induction ws with
        | nil => intro q; cases q
        | cons v ws ih =>
          intro q
          unfold wipe
          by_cases e : v = i
          · subst e
            by_cases hv : v < σ.length
            · rw [List.getElem?_set_self (by rw [wipe_length, hl]; exact hv), if_pos hv]
            · rw [List.getElem?_eq_none (by rw [List.length_set, wipe_length, hl]; omega), if_neg hv]
          · rw [List.getElem?_set_ne e]
            exact ih ((List.mem_cons.mp q).resolve_left fun z => e z.symm)
      exact w1 vs hi
    rw [z σ2 (by rw [p.len, wipe_length]), z σ rfl]
  · rw [wipe_out2 hi, p.out i fun q => hi (hs i q)]
def lcL (t : D → En → Option En) (p : En → Option Bool) (f : En → Option W) : List D → En → Option (List D)
  | [], _ => some []
  | x :: xs, env => (t x env).bind fun e1 => (p e1).bind fun c => if c then (f e1).bind fun w => (dat w).bind fun d => (lcL t p f xs env).map (d :: ·) else lcL t p f xs env
def xLc (vs : List Nat) (src : En → Option (List D)) (t : D → En → Option En) (p : En → Option Bool) (f : En → Option W) : En → Option W := fun env => (src env).bind fun xs =>
  if xs.length ≤ 16777216 then (lcL t p f xs (wipeE env vs)).map fun ds => .o (.lst ds) else none
theorem lcL_len {t : D → En → Option En} {p : En → Option Bool} {f : En → Option W} : ∀ {xs : List D} {env : En} {ds : List D}, lcL t p f xs env = some ds → ds.length ≤ xs.length
  | [], _, _, h => by cases h; exact Nat.le_refl _
  | x :: xs, env, ds, h => by
    unfold lcL at h
    obtain ⟨e1, _, h⟩ := Option.bind_eq_some_iff.mp h
    obtain ⟨c, _, h⟩ := Option.bind_eq_some_iff.mp h
    split at h
    · obtain ⟨w, _, h⟩ := Option.bind_eq_some_iff.mp h
      obtain ⟨d, _, h⟩ := Option.bind_eq_some_iff.mp h
      obtain ⟨r, h9, rfl⟩ := Option.map_eq_some_iff.mp h
      have := lcL_len h9
      simp only [List.length_cons]
      omega
    · have := lcL_len h
      simp only [List.length_cons]
      omega
def pY : En → Option Bool := fun _ => some true
end
section
variable {X : Cx} {f : En → Option W} {p : En → Option Bool}
structure PTsv (X : Cx) (ifs : List Expr) (p : En → Option Bool) : Prop where
  run : PTs X ifs (rT X.K p)
theorem pts_imp {ifs : List Expr} {t t' : TT} (h : PTs X ifs t) (i : ∀ σ H Q, t' σ H Q → t σ H Q) : PTs X ifs t' := ⟨fun pins s σ H Q I q => h.run pins s σ H Q I (i σ H Q q)⟩
theorem epts_nil : PTs X [] (rT X.K pY) := pts_imp pts_nil fun σ H Q ⟨O, env, b, h1, h2, h3⟩ => by
  cases h2
  exact h3 H (Same.refl _)
theorem epts_one {c : Expr} (h : PT X c (rT X.K p)) : PTs X [c] (rT X.K p) := pts_one h
theorem rd_lc {vs is : List Nat} {src : En → Option (List D)} {t : D → En → Option En} (hs : ∀ i ∈ is, i ∈ vs) {σ : L2.St} {H : Hp} {Q : VK} (q : rE X.K (xLc vs src t p f) σ H Q) :
    tLc (rIc X.K src) (rG X.K is t) (rT X.K p) (rE X.K f) vs σ H Q := by
  obtain ⟨O, env, w, h1, h2, h3⟩ := q
  unfold xLc at h2
  obtain ⟨xs, e1, e2⟩ := Option.bind_eq_some_iff.mp h2
  split at e2
  · rename_i hlen
    obtain ⟨ds, e3, rfl⟩ := Option.map_eq_some_iff.mp e2
    refine ⟨O, env, xs, h1, e1, fun H1 J m1 S D nD => ?_⟩
    have h1' := h1.mono m1
    have nDO : D ∉ O := h1'.has.not nD
    -- the turns: what stands but the new list is as it was
    refine ⟨fun i m H' => m = xs.length - i ∧ i ≤ xs.length ∧ Same H1 H' ∧ ∃ acc done rest, H' D = some (.lst acc) ∧ DpAll X.K (cut H' (D :: O)) acc done ∧ lcL t p f (xs.drop i) (wipeE env vs) = some rest ∧ done ++ rest = ds ∧ acc.length ≤ i, ⟨xs.length, by simp, Nat.zero_le _, same_upd nD, [], [], ds, upd_same, .nil, e3, rfl, Nat.le_refl _⟩, ?_⟩
    rintro i m H' ⟨rfl, hi, sm, acc, done, rest, a1, a2, a3, a4, a5⟩
    have nw : ∀ a ∈ D :: O, a ∈ O ∨ H1 a = none := fun a z => (List.mem_cons.mp z).elim (fun e => .inr (e ▸ nD)) .inl
    have hD : Has H' (D :: O) := fun a z => (List.mem_cons.mp z).elim (fun e => e ▸ ⟨_, a1⟩) fun z => (h1'.has.mono sm) a z
    obtain ⟨S1, S2⟩ := S H' (D :: O) sm nw hD i
    by_cases hlt : i < xs.length
    · right
      obtain ⟨S3, S4⟩ := S1 hlt
      refine ⟨S3, fun H2 => i + 1 ≤ xs.length ∧ Same H1 H2 ∧ ∃ acc done rest, H2 D = some (.lst acc) ∧ DpAll X.K (cut H2 (D :: O)) acc done ∧ lcL t p f (xs.drop (i + 1)) (wipeE env vs) = some rest ∧ done ++ rest = ds ∧ acc.length ≤ i + 1, fun H2 z => ⟨xs.length - (i + 1), by omega, rfl, z.1, z.2⟩, fun y H'' q => ?_⟩
      obtain ⟨m2, d, e4, r4⟩ := S4 y H'' q
      have e5 : xs.drop i = d :: xs.drop (i + 1) := by
        have hd : xs[i] = d := by
          have := List.getElem?_eq_getElem hlt
          rw [this] at e4
          exact Option.some.inj e4
        rw [← hd]
        exact List.drop_eq_getElem_cons hlt
      rw [e5] at a3
      unfold lcL at a3
      obtain ⟨g1, b1, b2⟩ := Option.bind_eq_some_iff.mp a3
      obtain ⟨c0, b3, b4⟩ := Option.bind_eq_some_iff.mp b2
      have a1' : H'' D = some (.lst acc) := m2 _ _ a1
      have er : EnvRep X.K H'' (D :: O) (wipeE env vs) (wipe σ vs) := wipe_rep vs (h1'.more (sm.trans m2) nDO nD ⟨_, a1'⟩)
      refine ⟨D :: O, wipeE env vs, d, g1, er, r4, b1, fun s2 z2 p2 => ⟨wipe_put hs p2, ?_⟩⟩
      have a2' := dpa_mono (cut_same m2 (D :: O)) a2
      refine ⟨D :: O, g1, c0, z2, b3, fun H3 m3 => ?_⟩
      cases c0 with
      | false =>
        exact ⟨hlt, (sm.trans m2).trans m3, acc, done, rest, m3 _ _ a1', dpa_mono (cut_same m3 (D :: O)) a2', b4, a4, by omega⟩
      | true =>
        obtain ⟨w, b5, b6⟩ := Option.bind_eq_some_iff.mp b4
        obtain ⟨dw, b7, b8⟩ := Option.bind_eq_some_iff.mp b6
        obtain ⟨rest', b9, rfl⟩ := Option.map_eq_some_iff.mp b8
        refine ⟨D :: O, g1, w, z2.mono m3, b5, fun H4 y4 m4 r5 => ?_⟩
        have a1'' : H4 D = some (.lst acc) := m4 _ _ (m3 _ _ a1')
        have m24 : Same H'' H4 := m3.trans m4
        have r6 := res_dat r5 b7
        have cu : Same (cut H4 (D :: O)) (cut (upd H4 D (.lst (acc ++ [y4]))) (D :: O)) := fun b o z => by
          obtain ⟨n1, n2⟩ := cut_of z
          exact cut_mk n1 (by rw [upd_ne (fun e => n1 (by simp [e]))]; exact n2)
        refine ⟨acc, a1'', by rw [sizeLine_val]; omega, hlt, fun b o z => ?_, acc ++ [y4], done ++ [dw], rest', upd_same, ?_, b9, by rw [List.append_assoc]; exact a4, by rw [List.length_append, List.length_singleton]; omega⟩
        · have hb : b ≠ D := fun e => by rw [e, nD] at z; cases z
          rw [upd_ne hb]
          exact m24 _ _ (m2 _ _ (sm _ _ z))
        · exact dpa_append (dpa_mono cu (dpa_mono (cut_same m24 (D :: O)) a2')) (.cons (dp_mono cu r6) .nil)
    · left
      have e : i = xs.length := by omega
      refine ⟨S2 (by omega), ?_⟩
      rw [e, List.drop_length] at a3
      cases a3
      rw [List.append_nil] at a4
      subst a4
      exact h3 H' _ (m1.trans sm) ⟨D, _, rfl, nDO, m1.free nD, a1, acc, rfl, a2⟩
  · cases e2
theorem ev_lc {elt tg iter : Expr} {ifs : List Expr} {scope : Scope} {own : List (Str × Nat)} {pos : Pos} {is : List Nat} {src : En → Option (List D)} {t : D → En → Option En} (hc : X.calm = true) (hN : X.N.Nodup) (hi : PI X tg iter (rIc X.K src)) (ok : BlkOk X.N X.env.scope scope own) (hs : ∀ i ∈ is, i ∈ own.map (·.2))
    (hg : ∀ (s : Shared) (H : Hp) (C : Addr) (cl : List (Str × Addr)) (fp : List Addr), PG (X.blk s H scope (compEnvC scope cl C X.env) fp) tg (rG X.K is t)) (ht : ∀ (s : Shared) (H : Hp) (C : Addr) (cl : List (Str × Addr)) (fp : List Addr), PTs (X.blk s H scope (compEnvC scope cl C X.env) fp) ifs (rT X.K p))
    (he : ∀ (s : Shared) (H : Hp) (C : Addr) (cl : List (Str × Addr)) (fp : List Addr), PE (X.blk s H scope (compEnvC scope cl C X.env) fp) elt (rE X.K f)) (hf : ∀ x, foldedSetIterable iter X.env x = pure x := by intro _; rfl) :
    PE X (.ListComp elt [⟨tg, iter, ifs, 0⟩] scope pos) (rE X.K (xLc (own.map (·.2)) src t p f)) :=
  pe_imp (pe_lc hc hN hi ok hg ht he hf) fun _ _ _ q => rd_lc hs q
/-- name = [..] on one line, the name a local -/
theorem es_setLc {i : Nat} {y : Str} {py : Pos} {elt tg iter : Expr} {ifs : List Expr} {scope : Scope} {own : List (Str × Nat)} {pos spos : Pos} {is : List Nat} {src : En → Option (List D)} {t : D → En → Option En} (hc : X.calm = true) (hN : X.N.Nodup) (hy : X.N[i]? = some y) (hyl : X.env.scope.names.lookup y = some .local)
    (hsw : swapsWith (.ListComp elt [⟨tg, iter, ifs, 0⟩] scope pos) (some (.Name y py)) spos.line X.env = pure true) (hi : PI X tg iter (rIc X.K src)) (ok : BlkOk X.N X.env.scope scope own) (hs : ∀ i ∈ is, i ∈ own.map (·.2))
    (hg : ∀ (s : Shared) (H : Hp) (C : Addr) (cl : List (Str × Addr)) (fp : List Addr), PG (X.blk s H scope (compEnvC scope cl C X.env) fp) tg (rG X.K is t)) (ht : ∀ (s : Shared) (H : Hp) (C : Addr) (cl : List (Str × Addr)) (fp : List Addr), PTs (X.blk s H scope (compEnvC scope cl C X.env) fp) ifs (rT X.K p))
    (he : ∀ (s : Shared) (H : Hp) (C : Addr) (cl : List (Str × Addr)) (fp : List Addr), PE (X.blk s H scope (compEnvC scope cl C X.env) fp) elt (rE X.K f)) (hf : ∀ x, foldedSetIterable iter X.env x = pure x := by intro _; rfl) :
    PS X (.Assign [.Name y py] (.ListComp elt [⟨tg, iter, ifs, 0⟩] scope pos) spos) (rS X.K (sSet i (xLc (own.map (·.2)) src t p f))) :=
  ps_imp (ps_setLc (i := i) hc hN hy hyl hsw hi ok hg ht he hf) fun D σ H ⟨Ex, O, env, fl, env', h1, h2, h3⟩ => by
    unfold sSet at h2
    obtain ⟨w, e1, e2⟩ := Option.map_eq_some_iff.mp h2
    cases e2
    refine rd_lc hs ⟨Ex ++ O, env, w, h1.er, e1, fun H' u m r => ?_⟩
    obtain ⟨O', x1, r1⟩ := h1.put (i := i) m r
    exact h3 H' O' _ x1 r1
end

/-! ### defs and their calls -/
/-- what a def of n parameters promises: φ of its arguments -/
def spF (K : PySem.W.Frag) (n : Nat) (φ : List D → Option W) : Sp := fun vs H Q _ => vs.length = n ∧ ∃ O ds w, Has H O ∧ DpAll K (cut H O) vs ds ∧ φ ds = some w ∧ ∀ H' u, Same H H' → Res K H H' O w u → Q u H'
section
variable {X : Cx} {e : Expr} {es : List Expr} {fs : En → Option (List D)} {k : Nat} {f : Addr} {fd : FuncData} {ps : List Str} {φ : List D → Option W} {x : Str} {p pos : Pos}
def xCall (n : Nat) (φ : List D → Option W) (fs : En → Option (List D)) : En → Option W := fun env => (fs env).bind fun ds => if ds.length = n then φ ds else none
theorem ev_call (F : FnOk X.prog X.w X.K X.mg X.base CX0 k f fd ps (spF X.K ps.length φ)) (hr : Room k X.A) (hg : Gl X x) (hm : X.mg x = some (.ref f)) (hk : PySem.W.keepIn X.K (.ref f) = true) (hb : Binds X.K fd ps [])
    (ha : PA X (e :: es) (rAD X.K fs)) (hdb : (x == ("__debug__" : Str)) = false := by decide) (he : starEach (e :: es) X.env = (false, eval e X.env) :: starEach es X.env := by rfl) (hpl : (backTo pos (starEach es X.env)).any (·.1) = false := by rfl) :
    PE X (.Call (.Name x p) (e :: es) [] pos) (rE X.K (xCall ps.length φ fs)) :=
  pe_imp (pe_call F hr hg hm hk hb .nil pass0 ha hdb he hpl) fun σ H Q ⟨O, env, w, h1, h2, h3⟩ => by
    unfold xCall at h2
    obtain ⟨ds, e1, e2⟩ := Option.bind_eq_some_iff.mp h2
    split at e2
    · rename_i hl
      refine ⟨O, env, ds, h1, e1, fun H1 vs m r => ?_⟩
      show spF X.K ps.length φ (vs ++ []) H1 Q E0
      rw [List.append_nil]
      exact ⟨by rw [dpa_len r]; exact hl, O, ds, w, h1.has.mono m, r, e2, fun H2 u m2 r2 => h3 H2 u (m.trans m2) (r2.back m)⟩
    · cases e2
theorem ev_call0 (F : FnOk X.prog X.w X.K X.mg X.base CX0 k f fd [] (spF X.K 0 φ)) (hr : Room k X.A) (hg : Gl X x) (hm : X.mg x = some (.ref f)) (hk : PySem.W.keepIn X.K (.ref f) = true) (hb : Binds X.K fd [] [])
    (hdb : (x == ("__debug__" : Str)) = false := by decide) : PE X (.Call (.Name x p) [] [] pos) (rE X.K (xCall 0 φ aN)) :=
  pe_imp (pe_call0 F hr hg hm hk hb .nil pass0 hdb) fun σ H Q ⟨O, env, w, h1, h2, h3⟩ => by
    unfold xCall aN at h2
    have h2 : φ [] = some w := h2
    exact ⟨rfl, O, [], w, h1.has, .nil, h2, fun H2 u m2 r2 => h3 H2 u m2 r2⟩
/-- a body's run -/
def runF (n : Nat) (B : SF) : List D → Option W := fun ds => match B (ds.map (fun d => some (.d d)) ++ List.replicate (n - ds.length) none) with
  | some (.nx, _) => some (.d .none)
  | some (.rt w, _) => some w
  | _ => none
theorem start_rep {K : PySem.W.Frag} {H : Hp} {O : List Addr} {n : Nat} {vs : List V} {ds : List D} (hO : Has H O) (h : DpAll K (cut H O) vs ds) : EnvRep K H O (ds.map (fun d => some (.d d)) ++ List.replicate (n - ds.length) none) (vs.map some ++ List.replicate (n - vs.length) none) := by
  have l := dpa_len h
  have g : ∀ {i : Nat} {w : W}, (ds.map (fun d => some (W.d d)) ++ List.replicate (n - ds.length) none)[i]? = some (some w) → ∃ d, ds[i]? = some d ∧ w = .d d := fun {i w} e => by
    by_cases hi : i < ds.length
    · rw [List.getElem?_append_left (by simpa using hi), List.getElem?_map] at e
      cases q : ds[i]? with
      | none => rw [q] at e; cases e
      | some d => rw [q] at e; cases e; exact ⟨d, rfl, rfl⟩
    · rw [List.getElem?_append_right (by simpa using hi), List.getElem?_replicate] at e
      split at e <;> cases e
  refine ⟨hO, by simp [l], fun i w e => ?_, fun i j b c p e1 => ?_⟩
  · obtain ⟨d, e1, rfl⟩ := g e
    obtain ⟨v, e2, e3⟩ := dpa_get h e1
    have hi : i < vs.length := (List.getElem?_eq_some_iff.mp e2).1
    exact ⟨v, by rw [List.getElem?_append_left (by simpa using hi), List.getElem?_map, e2]; rfl, e3⟩
  · obtain ⟨d, _, q⟩ := g e1
    cases q
theorem rS_start {K : PySem.W.Frag} {H : Hp} {Q : VK} {N : List Str} {n : Nat} {B : SF} {vs : List V} {E : XK} (q : spF K n (runF N.length B) vs H Q E) : rS K B { nx := fun _ H' => Q .non H', rt := Q } (start N vs) H := by
  obtain ⟨_, O, ds, w, hO, h, e, h3⟩ := q
  unfold runF at e
  have l := dpa_len h
  have er := start_rep (n := N.length) hO h
  have sr : SRep K H O [] (ds.map (fun d => some (.d d)) ++ List.replicate (N.length - ds.length) none) (start N vs) := by
    refine ⟨by rw [List.append_nil]; exact er, fun i b p e1 e2 => ?_, fun a z => nomatch z⟩
    obtain ⟨u, q1, q2⟩ := er.slot i _ e1
    obtain ⟨pp, ho, _, _, _, q3⟩ := q2
    exfalso
    by_cases hi : i < ds.length
    · rw [List.getElem?_append_left (by simpa using hi), List.getElem?_map] at e1
      cases q : ds[i]? with
      | none => rw [q] at e1; cases e1
      | some d => rw [q] at e1; cases e1
    · rw [List.getElem?_append_right (by simpa using hi), List.getElem?_replicate] at e1
      split at e1 <;> cases e1
  split at e
  · rename_i env' e1
    cases e
    exact ⟨O, [], _, _, _, sr, e1, fun H' O' σ' x r => h3 H' .non (fun b o q => x.keep b o (by simp) q) Dp.non⟩
  · rename_i w' env' e1
    cases e
    refine ⟨O, [], _, _, _, sr, e1, fun H' u k r => h3 H' u (fun b o q => k b o (by simp) q) ?_⟩
    cases w with
    | d y => exact r
    | o b =>
      obtain ⟨p, ho, e2, n1, n2, e3, r2⟩ := r
      exact ⟨p, ho, e2, n1, n2.resolve_left (by simp), e3, r2⟩
  · cases e
end
section
variable {P : Program} {w : World} {K : PySem.W.Frag} {mg : Str → Option Value} {base : Heap}
theorem fn_ok {x qual : Str} {st : Stmt} {f : Addr} {fd : FuncData} {N ps : List Str} {k : Nat} {B : SF} (F : Fun K x qual st f fd) (S : FnScope N ps (defScope st))
    (hb : ∀ (cdv : Value) (A : Around) (outer : List Env) (s : Shared) (H : Hp) (E : XK), Room k (A.deeper (PyProof.Rows.envOfC qual (defScope st) s.heap.objs.size f cdv)) →
      PSs (cxOf CX0 P w K mg base N qual (defScope st) f cdv A outer s H E).nox (defBody st) (rS K B)) : FnOk P w K mg base CX0 (k + 1) f fd ps (spF K ps.length (runF N.length B)) := by
  refine F.ok S (fun vs H Q E h => h.1) fun cdv A outer s H vs Q E hr h => ⟨_, hb cdv A outer s H E hr, rS_start h⟩
end
end EV

set_option Elab.async false
set_option linter.all false
set_option maxRecDepth 100000
set_option maxHeartbeats 1000000
/-! what changes a list of one's own -/
namespace EV
open PySem L2
section
variable {K : PySem.W.Frag} {H H' : Hp} {Ex O : List Addr} {env : En} {σ : L2.St} {i : Nat} {b b' : Ob} {p : Addr} {ho ho' : HO}
/-- the thing that slot i owns is changed -/
theorem SRep.mut (h : SRep K H Ex O env σ) (e : env[i]? = some (some (.o b))) (es : σ[i]? = some (some (.ref p))) (r : ObRep K (cut H (Ex ++ O)) b' ho') :
    Ext H (upd H p ho') O O ∧ SRep K (upd H p ho') Ex O (env.set i (some (.o b'))) σ := by
  have pO : p ∈ O := h.own i b p e es
  have hi : i < env.length := (List.getElem?_eq_some_iff.mp e).1
  have c : Same (cut H (Ex ++ O)) (cut (upd H p ho') (Ex ++ O)) := fun a o z => by
    obtain ⟨n, z⟩ := cut_of z
    have hne : a ≠ p := fun q => n (by rw [q]; exact List.mem_append_right _ pO)
    exact cut_mk n (by rw [upd_ne hne]; exact z)
  have up : upd H p ho' p = some ho' := upd_same
  have nj : ∀ {j : Nat} {w : W}, i ≠ j → (env.set i (some (.o b')))[j]? = some (some w) → env[j]? = some (some w) := fun {j w} hj z => by rwa [List.getElem?_set_ne hj] at z
  have at_i : ∀ {j : Nat} {c : Ob}, (env.set i (some (.o b')))[j]? = some (some (W.o c)) → ∃ c', env[j]? = some (some (W.o c')) := fun {j c} z => by
    by_cases hj : i = j
    · subst hj; exact ⟨b, e⟩
    · exact ⟨c, nj hj z⟩
  have kp : ∀ (a : Addr) (o : HO), a ∉ O → H a = some o → upd H p ho' a = some o := fun a o n z => by
    have hne : a ≠ p := fun q => n (by rw [q]; exact pO)
    rw [upd_ne hne]; exact z
  refine ⟨⟨kp, fun a z => .inl z⟩, ⟨⟨fun a z => ?_, by simp [h.er.len], fun j w z => ?_, fun j l c1 c2 q e1 e2 e3 e4 => ?_⟩, fun j c1 q e1 e2 => ?_, h.dis⟩⟩
  · by_cases ha : a = p
    · subst ha; exact ⟨_, up⟩
    · rw [upd_ne ha]; exact h.er.has a z
  · by_cases hj : i = j
    · subst hj
      rw [List.getElem?_set_self hi] at z
      cases z
      exact ⟨.ref p, es, p, ho', rfl, List.mem_append_right _ pO, up, ob_mono c r⟩
    · have z := nj hj z
      obtain ⟨u, q1, q2⟩ := h.er.slot j w z
      refine ⟨u, q1, ?_⟩
      cases w with
      | d x => exact dp_mono c q2
      | o b1 =>
        obtain ⟨q, hq, rfl, e2, e3, e4⟩ := q2
        have hqp : q ≠ p := fun ee => by
          subst ee
          exact hj (h.er.apart i j b b1 q e z es q1)
        exact ⟨q, hq, rfl, e2, by rw [upd_ne hqp]; exact e3, ob_mono c e4⟩
  · obtain ⟨d1, f1⟩ := at_i e1
    obtain ⟨d2, f2⟩ := at_i e2
    exact h.er.apart j l d1 d2 q f1 f2 e3 e4
  · obtain ⟨d1, f1⟩ := at_i e1
    exact h.own j d1 q f1 e2
end
section
variable {X : Cx} {e a b c : Expr} {f g h : En → Option W} {pos apos cpos xpos : Pos} {i : Nat} {x : Str}
def lstAt (i : Nat) (env : En) : Option (List D) := match env[i]? with
  | some (some (.o (.lst xs))) => some xs
  | _ => none
theorem lstAt_some {env : En} {xs : List D} (h : lstAt i env = some xs) : env[i]? = some (some (.o (.lst xs))) := by
  unfold lstAt at h
  split at h
  · cases h; assumption
  · cases h
def putL (i : Nat) (xs : List D) (env : En) : En := env.set i (some (.o (.lst xs)))
/-! ### xs.append(e) -/
def sApp (i : Nat) (f : En → Option W) : SF := fun env => (f env).bind fun w => (dat w).bind fun d => (lstAt i env).bind fun xs => if xs.length < 16777216 then some (.nx, putL i (xs ++ [d]) env) else none
theorem es_append (hv : PE X (.Name x xpos) (tVar i)) (he : PE X e (rE X.K f)) (hs : swapsWith (.Call (.Attribute (.Name x xpos) "append" apos) [e] [] cpos) none pos.line X.env = pure false := by rfl)
    (hbase : attributeBase (.Name x xpos) "append" X.env (eval (.Name x xpos) X.env) = eval (.Name x xpos) X.env := by rfl)
    (hfew : ((backTo cpos (starEach [e] X.env)).all (fun x => !x.1) && (backToKw cpos (keywordEach [] X.env)).all (fun x => x.1.isSome)
      && decide ([e].length + ([] : List Keyword).length + (if ([] : List Keyword).isEmpty then 0 else 1) < 30)) = true := by rfl)
    (hline : (apos.endLine == cpos.line) = true := by rfl) (hst : starEach [e] X.env = (false, eval e X.env) :: starEach [] X.env := by rfl) (hplain : (backTo cpos (starEach [] X.env)).any (·.1) = false := by rfl) :
    PS X (.Expr (.Call (.Attribute (.Name x xpos) "append" apos) [e] [] cpos) pos) (rS X.K (sApp i f)) :=
  ps_imp (ps_expr (pe_bm PySem.F.plainAttrs_list PySem.F.slot_list_append PySem.F.type_list_append mt_append hv (pa_cons he pa_nil hst) hbase hfew hline hst hplain) hs) fun D σ H ⟨Ex, O, env, fl, env', h1, h2, h3⟩ => by
    unfold sApp at h2
    obtain ⟨w, e1, e2⟩ := Option.bind_eq_some_iff.mp h2
    obtain ⟨d, e3, e4⟩ := Option.bind_eq_some_iff.mp e2
    obtain ⟨xs, e5, e6⟩ := Option.bind_eq_some_iff.mp e4
    split at e6
    · rename_i hlen
      cases e6
      have e7 := lstAt_some e5
      obtain ⟨u, f1, p, ho, rfl, f2, f3, vs, rfl, f4⟩ := h1.er.slot i _ e7
      refine ⟨_, f1, .inl ⟨rfl, _, SqL.of f3⟩, Ex ++ O, env, w, h1.er, e1, fun H1 y m r => ?_⟩
      refine ⟨p, vs, y, rfl, rfl, m _ _ f3, by rw [sizeLine_val, dpa_len f4]; exact hlen, ?_⟩
      have r2 := res_dat r e3
      have f4' := dpa_mono (cut_same m (Ex ++ O)) f4
      obtain ⟨q1, q2⟩ := (h1.same m).mut (b' := .lst (xs ++ [d])) (ho' := .lst (vs ++ [y])) e7 f1 ⟨_, rfl, dpa_append f4' (.cons r2 .nil)⟩
      exact h3 _ _ _ ((Ext.of_same m O).trans q1) q2
    · cases e6
/-! ### xs.extend(e), e a list that is one's own -/
def wOL : W → Option (List D)
  | .o (.lst xs) => some xs
  | _ => none
def sExt (i : Nat) (f : En → Option W) : SF := fun env => (f env).bind fun w => (wOL w).bind fun ds => (lstAt i env).bind fun xs => if xs.length + ds.length ≤ 16777216 then some (.nx, putL i (xs ++ ds) env) else none
theorem wOL_some {w : W} {xs : List D} (h : wOL w = some xs) : w = .o (.lst xs) := by
  unfold wOL at h
  split at h
  · cases h; rfl
  · cases h
theorem es_extend (hv : PE X (.Name x xpos) (tVar i)) (he : PE X e (rB X.K f)) (hs : swapsWith (.Call (.Attribute (.Name x xpos) "extend" apos) [e] [] cpos) none pos.line X.env = pure false := by rfl)
    (hbase : attributeBase (.Name x xpos) "extend" X.env (eval (.Name x xpos) X.env) = eval (.Name x xpos) X.env := by rfl)
    (hfew : ((backTo cpos (starEach [e] X.env)).all (fun x => !x.1) && (backToKw cpos (keywordEach [] X.env)).all (fun x => x.1.isSome)
      && decide ([e].length + ([] : List Keyword).length + (if ([] : List Keyword).isEmpty then 0 else 1) < 30)) = true := by rfl)
    (hline : (apos.endLine == cpos.line) = true := by rfl) (hst : starEach [e] X.env = (false, eval e X.env) :: starEach [] X.env := by rfl) (hplain : (backTo cpos (starEach [] X.env)).any (·.1) = false := by rfl) :
    PS X (.Expr (.Call (.Attribute (.Name x xpos) "extend" apos) [e] [] cpos) pos) (rS X.K (sExt i f)) :=
  ps_imp (ps_expr (pe_bm PySem.F.plainAttrs_list PySem.F.slot_list_extend PySem.F.type_list_extend mt_extend hv (pa_cons he pa_nil hst) hbase hfew hline hst hplain) hs) fun D σ H ⟨Ex, O, env, fl, env', h1, h2, h3⟩ => by
    unfold sExt at h2
    obtain ⟨w, e1, e2⟩ := Option.bind_eq_some_iff.mp h2
    obtain ⟨ds, e3, e4⟩ := Option.bind_eq_some_iff.mp e2
    obtain ⟨xs, e5, e6⟩ := Option.bind_eq_some_iff.mp e4
    split at e6
    · rename_i hlen
      cases e6
      have e7 := lstAt_some e5
      cases wOL_some e3
      obtain ⟨u, f1, p, ho, rfl, f2, f3, vs, rfl, f4⟩ := h1.er.slot i _ e7
      refine ⟨_, f1, .inl ⟨rfl, _, SqL.of f3⟩, Ex ++ O, env, _, h1.er, e1, fun H1 y m r => ?_⟩
      obtain ⟨q, hq, rfl, g1, zs, rfl, g2⟩ := r
      refine ⟨p, q, vs, zs, rfl, rfl, m _ _ f3, g1, by rw [sizeLine_val, dpa_len f4, dpa_len g2]; exact hlen, ?_⟩
      have f4' := dpa_mono (cut_same m (Ex ++ O)) f4
      obtain ⟨q1, q2⟩ := (h1.same m).mut (b' := .lst (xs ++ ds)) (ho' := .lst (vs ++ zs)) e7 f1 ⟨_, rfl, dpa_append f4' g2⟩
      exact h3 _ _ _ ((Ext.of_same m O).trans q1) q2
    · cases e6
/-! ### xs[g] = f -/
def sStore (i : Nat) (f g : En → Option W) : SF := fun env => (f env).bind fun w => (dat w).bind fun d => (g env).bind fun v => (wI v).bind fun k => (lstAt i env).bind fun xs => (ixN xs.length k).map fun j => (.nx, putL i (xs.set j d) env)
theorem es_store {ix : Expr} {tpos : Pos} (hv : PE X (.Name x xpos) (tVar i)) (he : PE X e (rE X.K f)) (hi : PE X ix (rB X.K g)) (ha : ∀ v, assign (.Subscript (.Name x xpos) ix tpos) X.env v = (do
      let ov ← holding [v] (eval (.Name x xpos) X.env)
      let iv ← holding [v, ov] (eval ix X.env)
      standAt tpos
      holding [v, ov, iv] (setItem ov iv v)
      release [v, ov, iv] []) := by intro _; rfl) (hs : swapsWithSole [.Subscript (.Name x xpos) ix tpos] e pos.line X.env = pure false := by rfl) (hw : swappedStores [.Subscript (.Name x xpos) ix tpos] e X.env = pure none := by rfl)
    (h1 : (assignEach [.Subscript (.Name x xpos) ix tpos] X.env).map (·.2) = [assign (.Subscript (.Name x xpos) ix tpos) X.env] := by rfl) :
    PS X (.Assign [.Subscript (.Name x xpos) ix tpos] e pos) (rS X.K (sStore i f g)) :=
  ps_imp (ps_asg he (pg_sub hv hi set_list ha) hs hw h1) fun D σ H ⟨Ex, O, env, fl, env', h1, h2, h3⟩ => by
    unfold sStore at h2
    obtain ⟨w, e1, e2⟩ := Option.bind_eq_some_iff.mp h2
    obtain ⟨d, e3, e4⟩ := Option.bind_eq_some_iff.mp e2
    obtain ⟨v, e5, e6⟩ := Option.bind_eq_some_iff.mp e4
    obtain ⟨k, e7, e8⟩ := Option.bind_eq_some_iff.mp e6
    obtain ⟨xs, e9, e10⟩ := Option.bind_eq_some_iff.mp e8
    obtain ⟨j, e11, e12⟩ := Option.map_eq_some_iff.mp e10
    cases e12
    cases wI_some e7
    have e13 := lstAt_some e9
    obtain ⟨u, f1, p, ho, rfl, f2, f3, vs, rfl, f4⟩ := h1.er.slot i _ e13
    refine ⟨Ex ++ O, env, w, h1.er, e1, fun H1 y m r => ⟨_, f1, Ex ++ O, env, _, h1.er.mono m, e5, fun H2 y2 m2 r2 => ?_⟩⟩
    cases bres_int r2
    have mm := m.trans m2
    refine ⟨p, vs, k, j, rfl, rfl, mm _ _ f3, by rw [dpa_len f4]; exact e11, ?_⟩
    have r3 := dp_mono (cut_same m2 (Ex ++ O)) (res_dat r e3)
    have f4' := dpa_mono (cut_same mm (Ex ++ O)) f4
    obtain ⟨q1, q2⟩ := (h1.same mm).mut (b' := .lst (xs.set j d)) (ho' := .lst (vs.set j y)) e13 f1 ⟨_, rfl, dpa_set r3 j f4'⟩
    exact h3 _ _ _ ((Ext.of_same mm O).trans q1) q2
/-! ### x op= e -/
def sAug (i : Nat) (comb : W → W → Option W) (f : En → Option W) : SF := fun env => (xRd i env).bind fun x => (f env).bind fun y => (comb x y).map fun w => (.nx, env.set i (some w))
theorem es_aug {op : Operator} {r : R2} {comb : W → W → Option W} (ho : OpR X (inplaceOp op) r) (h2 : Op2 X.K comb r) (hN : X.N.Nodup) (hi : X.N[i]? = some x) (hx : Loc X.env.scope x) (he : PE X e (rB X.K f)) (hf : X.fn x = true ∨ X.env.scope.names.lookup x = some .local := by first | exact .inl rfl | exact .inr rfl | assumption) :
    PS X (.AugAssign (.Name x xpos) op e pos) (rS X.K (sAug i comb f)) :=
  ps_imp (ps_aug hN hi hx he (ti := r) ho hf) fun D σ H ⟨Ex, O, env, fl, env', h1, hh, h3⟩ => by
    unfold sAug xRd at hh
    obtain ⟨wx, e1, e2⟩ := Option.bind_eq_some_iff.mp hh
    obtain ⟨wy, e3, e4⟩ := Option.bind_eq_some_iff.mp e2
    obtain ⟨w, e5, e6⟩ := Option.map_eq_some_iff.mp e4
    cases e6
    have e7 : env[i]? = some (some wx) := Option.join_eq_some_iff.mp e1
    obtain ⟨u, f1, f2⟩ := h1.er.slot i wx e7
    refine ⟨u, f1, Ex ++ O, env, wy, h1.er, e3, fun H1 y m r1 => ?_⟩
    refine h2 H1 (Ex ++ O) u y wx wy w _ (h1.er.has.mono m) (f2.b.mono m) r1 e5 fun H2 z m2 r2 => ?_
    obtain ⟨O', x1, q1⟩ := (h1.same m).put (i := i) m2 r2
    exact h3 H2 O' _ ((Ext.of_same m O).trans x1) q1
theorem es_augAdd (hN : X.N.Nodup) (hi : X.N[i]? = some x) (hx : Loc X.env.scope x) (he : PE X e (rB X.K f)) (hf : X.fn x = true ∨ X.env.scope.names.lookup x = some .local := by first | exact .inl rfl | exact .inr rfl | assumption) :
    PS X (.AugAssign (.Name x xpos) .Add e pos) (rS X.K (sAug i (wInt fun i j => i + j) f)) := es_aug iop_add op2_int hN hi hx he hf
theorem es_augSub (hN : X.N.Nodup) (hi : X.N[i]? = some x) (hx : Loc X.env.scope x) (he : PE X e (rB X.K f)) (hf : X.fn x = true ∨ X.env.scope.names.lookup x = some .local := by first | exact .inl rfl | exact .inr rfl | assumption) :
    PS X (.AugAssign (.Name x xpos) .Sub e pos) (rS X.K (sAug i (wInt fun i j => i - j) f)) := es_aug iop_sub op2_int hN hi hx he hf
theorem es_augMul (hN : X.N.Nodup) (hi : X.N[i]? = some x) (hx : Loc X.env.scope x) (he : PE X e (rB X.K f)) (hf : X.fn x = true ∨ X.env.scope.names.lookup x = some .local := by first | exact .inl rfl | exact .inr rfl | assumption) :
    PS X (.AugAssign (.Name x xpos) .Mult e pos) (rS X.K (sAug i (wIntC mulOk fun i j => i * j) f)) := es_aug iop_mulA (op2_intC fun _ _ h => mulOk_ok h) hN hi hx he hf
/-! ### x = xs.pop() -/
def sPop (i : Nat) (j : Nat) : SF := fun env => (lstAt i env).bind fun xs => (xs[xs.length - 1]?).map fun d => (.nx, (putL i xs.dropLast env).set j (some (.d d)))
end
end EV

set_option Elab.async false
set_option linter.all false
set_option maxRecDepth 100000
set_option maxHeartbeats 1000000
/-! the built-ins by their names, isinstance, the law's end -/
namespace EV
open PySem L2
section
variable {X : Cx} {e a b c : Expr} {f g h : En → Option W} {pos p : Pos}
theorem dbg {x : Str} (h : (x == ("__debug__" : Str)) = false) : (x == ("__debug__" : Str)) = false := h
theorem ev_len (hg : Gl X "len") (hm : X.mg "len" = none) (ha : PE X e (rB X.K f)) (he : starEach [e] X.env = (false, eval e X.env) :: starEach [] X.env := by rfl) (hpl : (backTo pos (starEach [] X.env)).any (·.1) = false := by rfl) : PE X (.Call (.Name "len" p) [e] [] pos) (rE X.K (x1 wLen f)) :=
  ev_c1 call_len c1_len bb_len (by decide) (by decide) hg hm ha he hpl
theorem ev_abs (hg : Gl X "abs") (hm : X.mg "abs" = none) (ha : PE X e (rB X.K f)) (he : starEach [e] X.env = (false, eval e X.env) :: starEach [] X.env := by rfl) (hpl : (backTo pos (starEach [] X.env)).any (·.1) = false := by rfl) : PE X (.Call (.Name "abs" p) [e] [] pos) (rE X.K (x1 wAbs f)) :=
  ev_c1 call_abs c1_abs bb_abs (by decide) (by decide) hg hm ha he hpl
theorem ev_sum (hc : X.calm = true) (hg : Gl X "sum") (hm : X.mg "sum" = none) (ha : PE X e (rB X.K f)) (he : starEach [e] X.env = (false, eval e X.env) :: starEach [] X.env := by rfl) (hpl : (backTo pos (starEach [] X.env)).any (·.1) = false := by rfl) : PE X (.Call (.Name "sum" p) [e] [] pos) (rE X.K (x1 wSum f)) :=
  ev_c1 (callR_or (cr_sum hc) (cr_sumT hc)) c1_sum bb_sum (by decide) (by decide) hg hm ha he hpl
theorem ev_any (hc : X.calm = true) (hg : Gl X "any") (hm : X.mg "any" = none) (ha : PE X e (rB X.K f)) (he : starEach [e] X.env = (false, eval e X.env) :: starEach [] X.env := by rfl) (hpl : (backTo pos (starEach [] X.env)).any (·.1) = false := by rfl) : PE X (.Call (.Name "any" p) [e] [] pos) (rE X.K (x1 wAny f)) :=
  ev_c1 (cr_any hc) c1_any bb_any (by decide) (by decide) hg hm ha he hpl
theorem ev_all (hc : X.calm = true) (hg : Gl X "all") (hm : X.mg "all" = none) (ha : PE X e (rB X.K f)) (he : starEach [e] X.env = (false, eval e X.env) :: starEach [] X.env := by rfl) (hpl : (backTo pos (starEach [] X.env)).any (·.1) = false := by rfl) : PE X (.Call (.Name "all" p) [e] [] pos) (rE X.K (x1 wAll f)) :=
  ev_c1 (cr_all hc) c1_all bb_all (by decide) (by decide) hg hm ha he hpl
theorem ev_toI (hg : Gl X "int") (hm : X.mg "int" = none) (ha : PE X e (rB X.K f)) (he : starEach [e] X.env = (false, eval e X.env) :: starEach [] X.env := by rfl) (hpl : (backTo pos (starEach [] X.env)).any (·.1) = false := by rfl) : PE X (.Call (.Name "int" p) [e] [] pos) (rE X.K (x1 wToI f)) :=
  ev_t1 call_int1 c1_int bb_int (by decide) (by decide) hg hm ha he hpl
theorem ev_toB (hg : Gl X "bool") (hm : X.mg "bool" = none) (ha : PE X e (rB X.K f)) (he : starEach [e] X.env = (false, eval e X.env) :: starEach [] X.env := by rfl) (hpl : (backTo pos (starEach [] X.env)).any (·.1) = false := by rfl) : PE X (.Call (.Name "bool" p) [e] [] pos) (rE X.K (x1 wToB f)) :=
  ev_t1 call_bool1 c1_bool bb_bool (by decide) (by decide) hg hm ha he hpl
theorem ev_toL (hg : Gl X "list") (hm : X.mg "list" = none) (ha : PE X e (rB X.K f)) (he : starEach [e] X.env = (false, eval e X.env) :: starEach [] X.env := by rfl) (hpl : (backTo pos (starEach [] X.env)).any (·.1) = false := by rfl) : PE X (.Call (.Name "list" p) [e] [] pos) (rE X.K (x1 wToL f)) :=
  ev_t1 call_list_of c1_list bb_list (by decide) (by decide) hg hm ha he hpl
theorem ev_toT (hg : Gl X "tuple") (hm : X.mg "tuple" = none) (ha : PE X e (rB X.K f)) (he : starEach [e] X.env = (false, eval e X.env) :: starEach [] X.env := by rfl) (hpl : (backTo pos (starEach [] X.env)).any (·.1) = false := by rfl) : PE X (.Call (.Name "tuple" p) [e] [] pos) (rE X.K (x1 wToT f)) :=
  ev_t1 call_tuple_of c1_tuple bb_tuple (by decide) (by decide) hg hm ha he hpl
theorem ev_max2 (hc : X.calm = true) (hg : Gl X "max") (hm : X.mg "max" = none) (ha : PE X a (rB X.K f)) (hb : PE X b (rB X.K g))
    (he : starEach [a, b] X.env = (false, eval a X.env) :: starEach [b] X.env := by rfl) (he2 : starEach [b] X.env = (false, eval b X.env) :: starEach [] X.env := by rfl) (hpl : (backTo pos (starEach [b] X.env)).any (·.1) = false := by rfl) : PE X (.Call (.Name "max" p) [a, b] [] pos) (rE X.K (x2 wMax2 f g)) :=
  ev_c2 (call_max2 hc) c2_max bb_max (by decide) (by decide) hg hm ha hb he he2 hpl
theorem ev_min2 (hc : X.calm = true) (hg : Gl X "min") (hm : X.mg "min" = none) (ha : PE X a (rB X.K f)) (hb : PE X b (rB X.K g))
    (he : starEach [a, b] X.env = (false, eval a X.env) :: starEach [b] X.env := by rfl) (he2 : starEach [b] X.env = (false, eval b X.env) :: starEach [] X.env := by rfl) (hpl : (backTo pos (starEach [b] X.env)).any (·.1) = false := by rfl) : PE X (.Call (.Name "min" p) [a, b] [] pos) (rE X.K (x2 wMin2 f g)) :=
  ev_c2 (call_min2 hc) c2_min bb_min (by decide) (by decide) hg hm ha hb he he2 hpl
/-! ### isinstance(x, T) -/
def tyD : D → Option String
  | .none => some "NoneType"
  | .bool _ => some "bool"
  | .int _ => some "int"
  | .str _ => some "str"
  | .list _ => some "list"
  | .tuple _ => some "tuple"
  | .dict _ => none
def tyW : W → Option String
  | .d x => tyD x
  | .o (.lst _) => some "list"
  | _ => none
theorem seqT_ty {K : PySem.W.Frag} {H : Hp} {a : Addr} {xs : List V} (h : SqT K H a xs) : TyX K H (.ref a) (.type "tuple") := by
  rcases h with (h | ⟨o, h⟩) | ⟨o, its, n, h, hc, _⟩
  · exact .base (.tup h)
  · exact .fTuple h
  · exact .kTuple h hc
theorem seqL_ty {K : PySem.W.Frag} {H : Hp} {a : Addr} {xs : List V} (h : SqL K H a xs) : TyX K H (.ref a) (.type "list") := by
  rcases h with (h | ⟨o, h⟩) | ⟨o, its, n, h, hc, _⟩
  · exact .base (.lst h)
  · exact .base (.frz h)
  · exact .kList h hc
theorem tyW_ok {K : PySem.W.Frag} {H : Hp} {O : List Addr} {w : W} {u : V} {t : String} (h : BRes K H O w u) (e : tyW w = some t) : TyX K H u (.type t) := by
  cases w with
  | d x =>
    have h : Dp K (cut H O) u x := h
    have e : tyD x = some t := e
    cases h with
    | non => cases e; exact .base .non
    | bl b => cases e; exact .base (.bl b)
    | int i => cases e; exact .base (.int i)
    | str y => cases e; exact .base (.str y)
    | lst a b => cases e; exact seqL_ty ((cut_all H O).seq a)
    | tup a b => cases e; exact seqT_ty (same_seqT (cut_all H O) a)
  | o bb =>
    obtain ⟨p, ho, rfl, h1, h2⟩ := h
    cases bb with
    | lst xs =>
      obtain ⟨vs, rfl, h2⟩ := h2
      cases e
      exact .base (.lst h1)
    | dct _ => cases e
    | set _ => cases e
/-- a built-in type's name, one of these -/
inductive IsT : String → Prop
  | int : IsT "int"
  | bool : IsT "bool"
  | str : IsT "str"
  | list : IsT "list"
  | tuple : IsT "tuple"
def wIsi (T : String) (w : W) : Option W := (tyW w).bind fun t => (kitB t T).map fun b => .d (.bool b)
theorem bb_ty {T : String} (h : IsT T) : bootBuiltins (Str.ofString T) = some (.type T) := by
  cases h <;> decide +kernel
theorem ev_isi {T : String} {p2 : Pos} (hT : IsT T) (hg : Gl X "isinstance") (hm : X.mg "isinstance" = none) (hg2 : Gl X (Str.ofString T)) (hm2 : X.mg (Str.ofString T) = none) (ha : PE X a (rB X.K f))
    (he : starEach [a, .Name (Str.ofString T) p2] X.env = (false, eval a X.env) :: starEach [.Name (Str.ofString T) p2] X.env := by rfl) (he2 : starEach [.Name (Str.ofString T) p2] X.env = (false, eval (.Name (Str.ofString T) p2) X.env) :: starEach [] X.env := by rfl) (hpl : (backTo pos (starEach [.Name (Str.ofString T) p2] X.env)).any (·.1) = false := by rfl) :
    PE X (.Call (.Name "isinstance" p) [a, .Name (Str.ofString T) p2] [] pos) (rE X.K (x1 (wIsi T) f)) :=
  pe_imp (pe_callB call_isi hg hm bb_isinstance (pa_cons ha (pa_cons (pe_bltn (v := .ty T) hg2 hm2 (bb_ty hT) rfl (by cases hT <;> decide) (by cases hT <;> decide)) pa_nil he2) he) (by decide) (by decide) he hpl) fun σ H Q ⟨O, env, w, h1, h2, h3⟩ => by
    unfold x1 wIsi at h2
    obtain ⟨x, e1, e2⟩ := Option.bind_eq_some_iff.mp h2
    obtain ⟨t, e3, e4⟩ := Option.bind_eq_some_iff.mp e2
    obtain ⟨b, e5, rfl⟩ := Option.map_eq_some_iff.mp e4
    refine ⟨O, env, x, h1, e1, fun H1 u m r => ?_⟩
    exact ⟨u, _, _, _, b, rfl, .ty T, tyW_ok r e3, kit_ty e5, h3 H1 _ m (Dp.bl b)⟩
theorem es_doc {x j pos pos'} : PS X (.Expr (.Constant (.str x) j pos) pos') (rS X.K sPass) := ps_imp ps_doc fun D σ H ⟨Ex, O, env, fl, env', h1, h2, h3⟩ => by
  cases h2
  exact h3 H O σ (Ext.of_same (Same.refl _) O) h1
end
/-! ### the law -/
theorem dpa_ns {K : PySem.W.Frag} {H : Hp} : ∀ ns : List Int, DpAll K H (ns.map V.int) (ns.map PyData.int)
  | [] => .nil
  | n :: ns => .cons (.int n) (dpa_ns ns)
theorem law_sp {K : PySem.W.Frag} {φ : List D → Option W} {n : Nat} (hφ : ∀ ns : List Int, ns.length ≤ n → φ [.list (ns.map .int)] = some (.d (.bool true))) (H : Hp) (a : Addr) (ns : List Int) (hl : ns.length ≤ n) (hS : SqL K H a (ns.map V.int)) (E : XK) :
    spF K 1 φ [.ref a] H (fun v _ => v = .bl true) E := by
  refine ⟨rfl, [], [.list (ns.map .int)], _, fun a z => (nomatch z), .cons (.lst ?_ (dpa_ns ns)) .nil, hφ ns hl, fun H' u m r => ?_⟩
  · have : cut H [] = H := by funext b; simp [cut]
    rw [this]; exact hS
  · have r : Dp K (cut H' []) u (.bool true) := r
    cases r; rfl
end EV

set_option Elab.async false
set_option linter.all false
set_option maxRecDepth 100000
set_option maxHeartbeats 1000000
/-! more that is walked; short words; defs by name -/
namespace EV
open PySem L2 RZ RT
/-! ### enumerate of a tuple -/
section
open AutoSeq1 (wpAny_loadPart')
theorem meets_enumT (l : Addr) (items : Array Value) (n : Nat) (dct : Option Addr) (sl : Array (Option Value)) :
    Meets (Builtin.«enumerate.__new__» ⟨[.type "enumerate", .ref l], []⟩) (fun _ R s => s.heap.get? l = some { cls := .type "tuple", dict := dct, data := .seq items n, slots := sl } ∧
      R (.ok (.ret (.ref (s.heap.push { cls := .type "tuple_iterator", data := .fields #[.ref l, .int 0 0] }).objs.size)))
        { s with heap := (s.heap.push { cls := .type "tuple_iterator", data := .fields #[.ref l, .int 0 0] }).push { cls := .type "enumerate", data := .fields #[.none, .bool false, .ref s.heap.objs.size, rawInt 0, .none, .none] } }) :=
  .of_wp fun prog w A R s h => by
    obtain ⟨hp, g, d, tk, os⟩ := s; obtain ⟨hl, h⟩ := h
    have hsub := sub_enumerate
    have hL : Heap.IsTuple (Shared.heap ⟨hp, g, d, tk, os⟩) l items := ⟨_, hl, rfl, n, rfl⟩
    wp_walk using wpAny_loadPart' hl
    refine wpAny_stack_any fun st => wpAny_pure ?_
    split
    · rename_i c _ _ _ _ _
      cases (c == Value.type "enumerate")
      · wp_walk using wpAny_loadPart' hl, wpAny_pyIter_tuple hL
        exact ⟨_, rfl, h⟩
      · wp_walk using wpAny_loadPart' hl, wpAny_pyIter_tuple hL
        exact ⟨_, rfl, h⟩
    · wp_walk using wpAny_loadPart' hl, wpAny_pyIter_tuple hL
      exact ⟨_, rfl, h⟩
variable {prog : Program} {w : World} {A : Around} {E : Value → Shared → Prop} {s : Shared}
theorem call_enumT {l : Addr} {items : Array Value} {Q : Value → Shared → Prop} (hL : s.heap.IsTuple l items)
    (h : ∀ h', IsEnum h' (s.heap.objs.size + 1) s.heap.objs.size 0 .none → h'.IsTupleIter s.heap.objs.size l 0 → h'.objs.size = s.heap.objs.size + 2 →
      (∀ b o, s.heap.get? b = some o → h'.get? b = some o) → Q (.ref (s.heap.objs.size + 1)) { s with heap := h' }) :
    wpAny (model prog w) A (call (.type "enumerate") [.ref l]) Q E s := by
  obtain ⟨⟨c, dct, dt, sl⟩, hl, hc, n, hd⟩ := hL
  replace hc : c = .type "tuple" := hc
  replace hd : dt = .seq items n := hd
  subst hc hd
  refine callType_new F.called_enumerate (by decide) (F.typeCall_enumerate_1 _) (F.newCall_enumerate_1 _) (fun obj => F.args_object_init_2 obj _) F.entry_enumerate_new
    (meets_enumT l items n dct sl) ⟨hl, ?_⟩
  have hz : (s.heap.push { cls := .type "tuple_iterator", data := .fields #[.ref l, .int 0 0] }).objs.size = s.heap.objs.size + 1 := Heap.size_push ..
  show _ ∧ _
  rw [hz]
  have he : IsEnum ((s.heap.push { cls := .type "tuple_iterator", data := .fields #[.ref l, .int 0 0] }).push
      { cls := .type "enumerate", data := .fields #[.none, .bool false, .ref s.heap.objs.size, rawInt 0, .none, .none] }) (s.heap.objs.size + 1) s.heap.objs.size 0 .none := by
    have := Heap.get?_push_size (s.heap.push { cls := .type "tuple_iterator", data := .fields #[.ref l, .int 0 0] })
      (o := { cls := .type "enumerate", data := .fields #[.none, .bool false, .ref s.heap.objs.size, rawInt 0, .none, .none] }) rfl
    rw [hz] at this; exact this
  refine ⟨⟨_, he, rfl⟩, h _ he ⟨_, Heap.get?_push_of_some _ (Heap.get?_push_size _ rfl), rfl, rfl⟩ (by rw [Heap.size_push, hz]) fun b o x => Heap.get?_push_of_some _ (Heap.get?_push_of_some _ x)⟩
end
def IteT (K : PySem.W.Frag) (a : Addr) : It :=
  ⟨fun i H => ∃ (xs : List V) (x : V), SqT K H a xs ∧ xs[i]? = some x, fun i H v H' => ∃ T x, v = .ref T ∧ H T = none ∧ H' = upd H T (.tup [.int (i : Nat), x]) ∧ ∀ xs, SqT K H a xs → xs[i]? = some x, fun i H => ∃ xs : List V, SqT K H a xs ∧ xs.length ≤ i⟩
theorem turn_enumT {P : Program} {w : World} {K : PySem.W.Frag} {elts : List Expr} {kk : Nat} {tpos : Pos} (a e it : Addr) :
    Turn P w K (.Tuple elts kk tpos) (IteT K a) [e, it] e (fun i h => (∃ old, IsEnum h e it ((i : Nat) : Int) old) ∧ h.IsTupleIter it a i ∧ e ≠ it ∧ a ≠ it ∧ a ≠ e) where
  mem := by simp
  obj := fun i h st b hb => by
    obtain ⟨⟨old, he⟩, ⟨o, ho, hc, hd⟩, _⟩ := st
    have e' : b = e ∨ b = it := by simpa using hb
    rcases e' with z | z
    · rw [z]; exact ⟨_, he, fun v q => nomatch q⟩
    · rw [z]; exact ⟨o, ho, fun v q => by rw [hd] at q; cases q⟩
  keep := fun i h h' st k => let ⟨⟨old, he⟩, hi, hne⟩ := st; ⟨⟨old, k e (by simp) _ he⟩, hi.at fun o q => k it (by simp) o q, hne⟩
  item := by
    intro X hP hw hK hc i pins s σ H E I hf st hg
    subst hP hw hK
    obtain ⟨⟨old, he⟩, hit, hne, nai, nae⟩ := st
    obtain ⟨xs, x, hq, hx⟩ := hg
    obtain ⟨its, rv, p, hz⟩ := I.tuple hq
    obtain ⟨u, hu, ru⟩ := rv.get hx
    have hel : e < s.heap.objs.size := Heap.lt_size he
    have hil : it < s.heap.objs.size := by obtain ⟨_, q, _⟩ := hit; exact Heap.lt_size q
    have hil2 : i < its.toArray.size := by
      have := (List.getElem?_eq_some_iff.mp hu).1
      simpa using this
    refine wpAny_pyNext_enum_itemD (Draws.tuple (A := X.A.in1) (I.ok.hd hc) it a nai its.toArray) he ⟨hit, p⟩ hil2 hne (by simp [hne, nae.symm]) fun u2 h' tk hP2 ho hst hT hsz hk => ?_
    have hu2 : u2 = u := by
      have q1 : its[i]? = some u2 := by simpa using hP2
      rw [hu] at q1
      exact (Option.some.inj q1).symm
    subst hu2
    refine ⟨_, rfl, wpAny_letOwnedTupleGo_enum (s := { s with heap := h', toks := tk + 1 }) ho fun h'' he' sb => ?_⟩
    have hT2 : h''.get? s.heap.objs.size = some { cls := .type "tuple", data := .seq #[.int i tk, u2] } := (sb.2 _ (Nat.ne_of_gt hel)).trans hT
    have new : ObjOk X.prog X.w (upd H s.heap.objs.size (.tup [.int (i : Nat), x])) h'' s.heap.objs.size (.tup [.int (i : Nat), x]) :=
      ⟨by show 2 ≤ sizeLine; decide, [.int i tk, u2], .cons ⟨_, rfl⟩ (.cons ru .nil), ⟨_, hT2, rfl, _, rfl⟩⟩
    have I1 : Inv X pins σ (upd H s.heap.objs.size (.tup [.int (i : Nat), x])) { s with heap := h'', toks := tk + 1 } :=
      I.turnedNew (ch := [e, it]) (fun b ob hb q => (sb.2 b (fun z => hb (by simp [z]))).trans (hk b ob (fun z => hb (by simp [z])) (fun z => hb (by simp [z])) q)) hf (Nat.le_refl _) new
    refine ⟨.ref s.heap.objs.size, _, I1, rfl, ⟨_, x, rfl, I.hok.fresh (Nat.le_refl _), rfl, fun ys hy => by rw [I.tuple_inj hy hq]; exact hx⟩, ⟨⟨u2, ?_⟩, hst.1.at fun o q => (sb.2 it (Ne.symm hne)).trans q, hne, nai, nae⟩, fun b hb => ?_⟩
    · have e1 : ((i + 1 : Nat) : Int) = (i : Int) + 1 := by omega
      rw [e1]; exact he'
    · have hb' : b < s.heap.objs.size := by
        have e' : b = e ∨ b = it := by simpa using hb
        rcases e' with z | z
        · rw [z]; exact hel
        · rw [z]; exact hil
      rw [upd_ne (Nat.ne_of_lt hb')]
      exact (hf b hb).1
  done := by
    intro X hP hw hK hc i pins s σ H E I hf st hg
    subst hP hw hK
    obtain ⟨⟨old, he⟩, hit, hne, nai, nae⟩ := st
    obtain ⟨xs, hq, hx⟩ := hg
    obtain ⟨its, rv, p, hz⟩ := I.tuple hq
    obtain ⟨f0, f1, f2, f3, f4, f5⟩ := hf it (by simp)
    have hl := rv.length
    have hT : s.TypeIs (.ref e) "enumerate" := ⟨_, he, rfl⟩
    unfold pyNext
    refine wpAny_bind (wpAny_attempt (wpAny_callSpecial?_slot (name := Str.ofString "__next__") hT F.slot_enumerate_next
      (wpAny_call_entry F.slot_enumerate_next hT F.entry_enumerate_next ?_ (F.args_enumerate_next_1 _))))
    show wpAny _ _ (field (.ref e) 2 >>= _) _ _ _
    refine wpAny_bind (wpAny_field he rfl (x := .ref it) rfl ?_)
    refine wpAny_bind (wpAny_nextOf_tuple_end (I.ok.hd hc) hit p (by simp; omega) fun h' x he' hx' => ?_)
    obtain ⟨o, ho, hcc⟩ := hx'
    refine wpAny_bind (wpAny_isInstance (T := "StopIteration") (b := true) ⟨o, ho, hcc⟩ isSubtype_stop ?_)
    exact wpAny_pure ⟨rfl, I.turned (t' := s.toks) (fun b o hb q => he' b o hb q) f0 f1 f3 f4 f5⟩
  self := fun A i s Q E st h => let ⟨⟨_, he⟩, _⟩ := st; wpAny_pyIter_enum he h
section
variable {X : Cx} {e e2 a b c : Expr} {f g h : En → Option W} {p pos tpos : Pos} {elts : List Expr} {kk : Nat}
def iEnA (K : PySem.W.Frag) (ta : TA) : TI := fun σ H R => ta σ H fun vs H1 => ∃ a xs, vs = [.ref a] ∧ ((SqL K H1 a xs ∧ R (Ite K a) H1) ∨ (SqT K H1 a xs ∧ R (IteT K a) H1))
theorem pi_enumA {ta : TA} (hg : Gl X "enumerate") (hm : X.mg "enumerate" = none) (ha : PA X [e] ta) (hs : starEach [e] X.env = [(false, eval e X.env)] := by rfl) :
    PI X (.Tuple elts kk tpos) (.Call (.Name "enumerate" p) [e] [] pos) (iEnA X.K ta) := by
  refine ⟨fun pins s σ H R I h => ?_⟩
  refine PyProof.Rows.Call_ (ld_blt I hg hm (by decide +kernel : bootBuiltins "enumerate" = some (.type "enumerate")) (PyProof.Rows.callWith_type1 (thn (ha.run pos pins s σ H _ I h) fun us s1 ⟨vs, H1, I1, r1, q1⟩ => ?_) hs rfl))
  obtain ⟨a, xs, ex, q⟩ := q1
  subst ex
  cases r1 with
  | cons r rr =>
    cases rr
    cases r
    have fr : ∀ b, b ∈ [s1.heap.objs.size + 1, s1.heap.objs.size] → FpOk X pins H1 b := fun b hb => by
      have e' : b = s1.heap.objs.size + 1 ∨ b = s1.heap.objs.size := by simpa using hb
      have hle : s1.heap.objs.size ≤ b := by
        rcases e' with z | z
        · rw [z]; exact Nat.le_add_right _ _
        · rw [z]; exact Nat.le_refl _
      exact I1.fpOk hle (I1.hok.fresh hle)
    rcases q with ⟨hq, q⟩ | ⟨hq, q⟩
    · obtain ⟨its, rv, p', hz⟩ := I1.list hq
      refine call_enumerate_list p'.isList fun h' he hit hsz hk => wpAny_pyIter_enum he ?_
      have I2 : Inv X pins σ H1 { s1 with heap := h' } := I1.kept (t' := s1.toks) hk
      exact ⟨s1.heap.objs.size + 1, [s1.heap.objs.size + 1, s1.heap.objs.size], _, _, H1, rfl, I2, turn_enum a (s1.heap.objs.size + 1) s1.heap.objs.size, ⟨⟨.none, he⟩, hit, Nat.succ_ne_self _⟩, fr, q⟩
    · obtain ⟨its, rv, p', hz⟩ := I1.tuple hq
      have ha : a < s1.heap.objs.size := p'.lt
      refine call_enumT p' fun h' he hit hsz hk => wpAny_pyIter_enum he ?_
      have I2 : Inv X pins σ H1 { s1 with heap := h' } := I1.kept (t' := s1.toks) hk
      exact ⟨s1.heap.objs.size + 1, [s1.heap.objs.size + 1, s1.heap.objs.size], _, _, H1, rfl, I2, turn_enumT a (s1.heap.objs.size + 1) s1.heap.objs.size, ⟨⟨.none, he⟩, hit, Nat.succ_ne_self _, Nat.ne_of_lt ha, Nat.ne_of_lt (Nat.lt_succ_of_lt ha)⟩, fr, q⟩
def enD (xs : List D) : List D := xs.zipIdx.map fun q => .tuple [.int (q.2 : Nat), q.1]
theorem enD_len (xs : List D) : (enD xs).length = xs.length := by simp [enD]
theorem enD_get (xs : List D) (i : Nat) (d : D) (h : xs[i]? = some d) : (enD xs)[i]? = some (.tuple [.int (i : Nat), d]) := by
  simp [enD, List.getElem?_map, List.getElem?_zipIdx, h]
theorem src_new {K : PySem.W.Frag} {H' : Hp} {O' : List Addr} {T : Addr} {vs : List V} {ds : List D} (n : H' T = none) (nO : T ∉ O') (r : DpAll K (cut H' O') vs ds) : Same H' (upd H' T (.tup vs)) ∧ Dp K (cut (upd H' T (.tup vs)) O') (.ref T) (.tuple ds) :=
  ⟨same_upd n, .tup (.inl (.inl (cut_mk nO upd_same))) (dpa_mono (cut_same (same_upd n) O') r)⟩
/-- a source whose turns may make tuples: what is owned stands -/
theorem src_e {K : PySem.W.Frag} {H : Hp} {O : List Addr} {a : Addr} {vs : List V} {xs : List D} (h : SqL K (cut H O) a vs) (r : DpAll K (cut H O) vs xs) : Src K H O (enD xs) (Ite K a) := fun H' O' x hO i => by
  have h' : SqL K H' a vs := (cut_all H' O').seq (x.cut.seq h)
  have r' := dpa_mono x.cut r
  rw [enD_len]
  refine ⟨fun hi => ?_, fun hi => ⟨vs, h', by rw [dpa_len r]; exact hi⟩⟩
  have hi' : i < vs.length := by rw [dpa_len r]; exact hi
  refine ⟨⟨vs, vs[i], h', by simp [hi']⟩, fun y H'' q => ?_⟩
  obtain ⟨T, z, rfl, n, rfl, q⟩ := q
  obtain ⟨d, e1, e2⟩ := dpa_getV r' (q vs h')
  obtain ⟨m1, m2⟩ := src_new n (hO.not n) (.cons (.int (i : Nat)) (.cons e2 .nil))
  exact ⟨m1, _, enD_get xs i d e1, m2⟩
theorem src_eT {K : PySem.W.Frag} {H : Hp} {O : List Addr} {a : Addr} {vs : List V} {xs : List D} (h : SqT K (cut H O) a vs) (r : DpAll K (cut H O) vs xs) : Src K H O (enD xs) (IteT K a) := fun H' O' x hO i => by
  have h' : SqT K H' a vs := same_seqT (cut_all H' O') (same_seqT x.cut h)
  have r' := dpa_mono x.cut r
  rw [enD_len]
  refine ⟨fun hi => ?_, fun hi => ⟨vs, h', by rw [dpa_len r]; exact hi⟩⟩
  have hi' : i < vs.length := by rw [dpa_len r]; exact hi
  refine ⟨⟨vs, vs[i], h', by simp [hi']⟩, fun y H'' q => ?_⟩
  obtain ⟨T, z, rfl, n, rfl, q⟩ := q
  obtain ⟨d, e1, e2⟩ := dpa_getV r' (q vs h')
  obtain ⟨m1, m2⟩ := src_new n (hO.not n) (.cons (.int (i : Nat)) (.cons e2 .nil))
  exact ⟨m1, _, enD_get xs i d e1, m2⟩
def iEn (f : En → Option W) : En → Option (List D) := fun env => (f env).bind fun w => ((dat w).bind seqD).map enD
theorem ei_enum (hg : Gl X "enumerate") (hm : X.mg "enumerate" = none) (ha : PE X e (rE X.K f)) (hs : starEach [e] X.env = [(false, eval e X.env)] := by rfl) :
    PI X (.Tuple elts kk tpos) (.Call (.Name "enumerate" p) [e] [] pos) (rI X.K (iEn f)) := pi_imp (pi_enumA hg hm (pa_cons ha pa_nil hs) hs) fun σ H R ⟨O, env, xs, h1, h2, h3⟩ => by
  unfold iEn at h2
  obtain ⟨w, e1, e2⟩ := Option.bind_eq_some_iff.mp h2
  obtain ⟨ys, e3, rfl⟩ := Option.map_eq_some_iff.mp e2
  obtain ⟨d, e4, e5⟩ := Option.bind_eq_some_iff.mp e3
  refine ⟨O, env, w, h1, e1, fun H1 u m r => ?_⟩
  have r := res_dat r e4
  unfold seqD at e5
  split at e5
  · cases e5
    cases r with
    | lst a b => exact ⟨_, _, rfl, .inl ⟨(cut_all H1 O).seq a, h3 H1 _ m (src_e a b)⟩⟩
  · cases e5
    cases r with
    | tup a b => exact ⟨_, _, rfl, .inr ⟨same_seqT (cut_all H1 O) a, h3 H1 _ m (src_eT a b)⟩⟩
  · cases e5
/-! ### zip of two -/
def zpD : List D → List D → List D
  | x :: xs, y :: ys => .tuple [x, y] :: zpD xs ys
  | _, _ => []
theorem zpD_len : ∀ xs ys : List D, (zpD xs ys).length = min xs.length ys.length
  | [], _ => by simp [zpD]
  | _ :: _, [] => by simp [zpD]
  | x :: xs, y :: ys => by simp [zpD, zpD_len xs ys]
theorem zpD_get : ∀ (xs ys : List D) (i : Nat) (x y : D), xs[i]? = some x → ys[i]? = some y → (zpD xs ys)[i]? = some (.tuple [x, y])
  | [], _, _, _, _, h, _ => by simp at h
  | _ :: _, [], _, _, _, _, h => by simp at h
  | a :: xs, b :: ys, 0, x, y, h, h2 => by simp at h h2; simp [zpD, h, h2]
  | a :: xs, b :: ys, i + 1, x, y, h, h2 => by
    simp only [zpD, List.getElem?_cons_succ]
    exact zpD_get xs ys i x y (by simpa using h) (by simpa using h2)
theorem src_z {K : PySem.W.Frag} {H : Hp} {O : List Addr} {a b : Addr} {vs ws : List V} {xs ys : List D} (h : SqL K (cut H O) a vs) (r : DpAll K (cut H O) vs xs) (h2 : SqL K (cut H O) b ws) (r2 : DpAll K (cut H O) ws ys) : Src K H O (zpD xs ys) (Itz K a b) := fun H' O' x hO i => by
  have h' : SqL K H' a vs := (cut_all H' O').seq (x.cut.seq h)
  have r' := dpa_mono x.cut r
  have h2' : SqL K H' b ws := (cut_all H' O').seq (x.cut.seq h2)
  have r2' := dpa_mono x.cut r2
  rw [zpD_len]
  have l1 := dpa_len r
  have l2 := dpa_len r2
  refine ⟨fun hi => ?_, fun hi => ⟨vs, ws, h', h2', by omega⟩⟩
  have hi1 : i < vs.length := by omega
  have hi2 : i < ws.length := by omega
  refine ⟨⟨vs, ws, vs[i], ws[i], h', h2', by simp [hi1], by simp [hi2]⟩, fun y H'' q => ?_⟩
  obtain ⟨T, z1, z2, rfl, n, rfl, q1, q2⟩ := q
  obtain ⟨d, e1, e2⟩ := dpa_getV r' (q1 vs h')
  obtain ⟨d2, e3, e4⟩ := dpa_getV r2' (q2 ws h2')
  obtain ⟨m1, m2⟩ := src_new n (hO.not n) (.cons e2 (.cons e4 .nil))
  exact ⟨m1, _, zpD_get xs ys i d d2 e1 e3, m2⟩
theorem src_zT {K : PySem.W.Frag} {H : Hp} {O : List Addr} {a b : Addr} {vs ws : List V} {xs ys : List D} (h : SqT K (cut H O) a vs) (r : DpAll K (cut H O) vs xs) (h2 : SqT K (cut H O) b ws) (r2 : DpAll K (cut H O) ws ys) : Src K H O (zpD xs ys) (ItzT K a b) := fun H' O' x hO i => by
  have h' : SqT K H' a vs := same_seqT (cut_all H' O') (same_seqT x.cut h)
  have r' := dpa_mono x.cut r
  have h2' : SqT K H' b ws := same_seqT (cut_all H' O') (same_seqT x.cut h2)
  have r2' := dpa_mono x.cut r2
  rw [zpD_len]
  have l1 := dpa_len r
  have l2 := dpa_len r2
  refine ⟨fun hi => ?_, fun hi => ⟨vs, ws, h', h2', by omega⟩⟩
  have hi1 : i < vs.length := by omega
  have hi2 : i < ws.length := by omega
  refine ⟨⟨vs, ws, vs[i], ws[i], h', h2', by simp [hi1], by simp [hi2]⟩, fun y H'' q => ?_⟩
  obtain ⟨T, z1, z2, rfl, n, rfl, q1, q2⟩ := q
  obtain ⟨d, e1, e2⟩ := dpa_getV r' (q1 vs h')
  obtain ⟨d2, e3, e4⟩ := dpa_getV r2' (q2 ws h2')
  obtain ⟨m1, m2⟩ := src_new n (hO.not n) (.cons e2 (.cons e4 .nil))
  exact ⟨m1, _, zpD_get xs ys i d d2 e1 e3, m2⟩
/-- of two lists, of two tuples -/
def zpW : D → D → Option (List D)
  | .list xs, .list ys => some (zpD xs ys)
  | .tuple xs, .tuple ys => some (zpD xs ys)
  | _, _ => none
@[simp] theorem zpW_l (xs ys : List D) : zpW (.list xs) (.list ys) = some (zpD xs ys) := rfl
@[simp] theorem zpW_t (xs ys : List D) : zpW (.tuple xs) (.tuple ys) = some (zpD xs ys) := rfl
def iZp (f g : En → Option W) : En → Option (List D) := fun env => (f env).bind fun v => (g env).bind fun w => (dat v).bind fun x => (dat w).bind fun y => zpW x y
theorem ei_zip (hg : Gl X "zip") (hm : X.mg "zip" = none) (ha : PE X e (rE X.K f)) (hb : PE X e2 (rE X.K g)) (hs : starEach [e, e2] X.env = (false, eval e X.env) :: starEach [e2] X.env := by rfl) (hs2 : starEach [e2] X.env = (false, eval e2 X.env) :: starEach [] X.env := by rfl) (hpl : (backTo pos (starEach [e2] X.env)).any (·.1) = false := by rfl) :
    PI X (.Tuple elts kk tpos) (.Call (.Name "zip" p) [e, e2] [] pos) (rI X.K (iZp f g)) := pi_imp (pi_zipA hg hm (pa_cons ha (pa_cons hb pa_nil hs2) hs) hs hpl) fun σ H R ⟨O, env, xs, h1, h2, h3⟩ => by
  unfold iZp at h2
  obtain ⟨v, e1, e2⟩ := Option.bind_eq_some_iff.mp h2
  obtain ⟨w, e3, e4⟩ := Option.bind_eq_some_iff.mp e2
  obtain ⟨x, e5, e6⟩ := Option.bind_eq_some_iff.mp e4
  obtain ⟨y, e7, e8⟩ := Option.bind_eq_some_iff.mp e6
  refine ⟨O, env, v, h1, e1, fun H1 u m r => ?_⟩
  have r1 := res_dat r e5
  refine ⟨O, env, w, h1.mono m, e3, fun H2 u2 m2 r2 => ?_⟩
  have r2 := res_dat r2 e7
  have r1 := dp_mono (cut_same m2 O) r1
  unfold zpW at e8
  split at e8
  · cases e8
    cases r1 with
    | lst a b => cases r2 with
      | lst a2 b2 => exact ⟨_, _, _, _, rfl, .inl ⟨(cut_all H2 O).seq a, (cut_all H2 O).seq a2, h3 H2 _ (m.trans m2) (src_z a b a2 b2)⟩⟩
  · cases e8
    cases r1 with
    | tup a b => cases r2 with
      | tup a2 b2 => exact ⟨_, _, _, _, rfl, .inr ⟨same_seqT (cut_all H2 O) a, same_seqT (cut_all H2 O) a2, h3 H2 _ (m.trans m2) (src_zT a b a2 b2)⟩⟩
  · cases e8
/-! ### reversed -/
theorem src_v {K : PySem.W.Frag} {H : Hp} {O : List Addr} {a : Addr} {vs : List V} {xs : List D} (h : SqL K (cut H O) a vs) (r : DpAll K (cut H O) vs xs) : Src K H O xs.reverse (Itv K a vs.length) := fun H' O' x hO i => by
  have h' : SqL K H' a vs := (cut_all H' O').seq (x.cut.seq h)
  have r' := dpa_mono x.cut r
  have l1 := dpa_len r
  rw [List.length_reverse]
  refine ⟨fun hi => ?_, fun hi => by show vs.length ≤ i; omega⟩
  have hi' : vs.length - 1 - i < vs.length := by omega
  refine ⟨⟨by omega, vs, vs[vs.length - 1 - i], h', by simp [hi']⟩, fun y H'' q => ?_⟩
  obtain ⟨e, q⟩ := q
  subst e
  obtain ⟨d, e1, e2⟩ := dpa_getV r' (q vs h')
  refine ⟨Same.refl _, d, ?_, e2⟩
  rw [List.getElem?_reverse hi, ← e1, l1]
theorem src_vT {K : PySem.W.Frag} {H : Hp} {O : List Addr} {a : Addr} {vs : List V} {xs : List D} (h : SqT K (cut H O) a vs) (r : DpAll K (cut H O) vs xs) : Src K H O xs.reverse (ItvT K a vs.length) := fun H' O' x hO i => by
  have h' : SqT K H' a vs := same_seqT (cut_all H' O') (same_seqT x.cut h)
  have r' := dpa_mono x.cut r
  have l1 := dpa_len r
  rw [List.length_reverse]
  refine ⟨fun hi => ?_, fun hi => by show vs.length ≤ i; omega⟩
  have hi' : vs.length - 1 - i < vs.length := by omega
  refine ⟨⟨by omega, vs, vs[vs.length - 1 - i], h', by simp [hi']⟩, fun y H'' q => ?_⟩
  obtain ⟨e, q⟩ := q
  subst e
  obtain ⟨d, e1, e2⟩ := dpa_getV r' (q vs h')
  refine ⟨Same.refl _, d, ?_, e2⟩
  rw [List.getElem?_reverse hi, ← e1, l1]
def iRv (f : En → Option W) : En → Option (List D) := fun env => (f env).bind fun w => ((dat w).bind seqD).map List.reverse
theorem ei_rev {tg : Expr} (hg : Gl X "reversed") (hm : X.mg "reversed" = none) (ha : PE X e (rE X.K f)) (hs : starEach [e] X.env = (false, eval e X.env) :: starEach [] X.env := by rfl) : PI X tg (.Call (.Name "reversed" p) [e] [] pos) (rI X.K (iRv f)) :=
  pi_imp (pi_revA hg hm ha hs) fun σ H R ⟨O, env, xs, h1, h2, h3⟩ => by
    unfold iRv at h2
    obtain ⟨w, e1, e2⟩ := Option.bind_eq_some_iff.mp h2
    obtain ⟨ys, e3, rfl⟩ := Option.map_eq_some_iff.mp e2
    obtain ⟨d, e4, e5⟩ := Option.bind_eq_some_iff.mp e3
    refine ⟨O, env, w, h1, e1, fun H1 u m r => ?_⟩
    have r := res_dat r e4
    unfold seqD at e5
    split at e5
    · cases e5
      cases r with
      | lst a b => exact ⟨_, _, rfl, .inl ⟨(cut_all H1 O).seq a, h3 H1 _ m (src_v a b)⟩⟩
    · cases e5
      cases r with
      | tup a b => exact ⟨_, _, rfl, .inr ⟨same_seqT (cut_all H1 O) a, h3 H1 _ m (src_vT a b)⟩⟩
    · cases e5
/-! ### range with a step -/
def intsC (lo c : Int) (n : Nat) : List D := (List.range n).map fun i => .int (lo + (i : Nat) * c)
theorem intsC_len (lo c : Int) (n : Nat) : (intsC lo c n).length = n := by simp [intsC]
theorem src_rc {K : PySem.W.Frag} {H : Hp} {O : List Addr} (lo c : Int) (n : Nat) : Src K H O (intsC lo c n) (Itc lo c n) := fun H' O' x _ i => by
  rw [intsC_len]
  refine ⟨fun hi => ⟨hi, fun y H'' q => ?_⟩, fun hi => hi⟩
  obtain ⟨rfl, rfl⟩ := q
  exact ⟨Same.refl _, .int (lo + i * c), by simp [intsC, hi], Dp.int _⟩
def rgOk (i j c : Int) : Bool := (decide (c ≠ 0) && decide (c.natAbs < 1073741824) && Builtin.Range.small i j c) && decide (0 ≤ Builtin.Range.rangeSize i j c)
def iR3 (f g h : En → Option W) : En → Option (List D) := fun env => (f env).bind fun u => (g env).bind fun v => (h env).bind fun w => (wI u).bind fun i => (wI v).bind fun j => (wI w).bind fun c => if rgOk i j c then some (intsC i c (Builtin.Range.rangeSize i j c).toNat) else none
theorem ei_range3 {tg : Expr} (hg : Gl X "range") (hm : X.mg "range" = none) (ha : PE X a (rB X.K f)) (hb : PE X b (rB X.K g)) (hcc : PE X c (rB X.K h))
    (hs : starEach [a, b, c] X.env = (false, eval a X.env) :: starEach [b, c] X.env := by rfl) (hs2 : starEach [b, c] X.env = (false, eval b X.env) :: starEach [c] X.env := by rfl) (hs3 : starEach [c] X.env = (false, eval c X.env) :: starEach [] X.env := by rfl)
    (hpl : (backTo pos (starEach [b, c] X.env)).any (·.1) = false := by rfl) :
    PI X tg (.Call (.Name "range" p) [a, b, c] [] pos) (rI X.K (iR3 f g h)) :=
  pi_imp (pi_range3 hg hm (pa_cons ha (pa_cons hb (pa_cons hcc pa_nil hs3) hs2) hs) hs hpl) fun σ H R ⟨O, env, xs, h1, h2, h3⟩ => by
    unfold iR3 at h2
    obtain ⟨u, e1, e2⟩ := Option.bind_eq_some_iff.mp h2
    obtain ⟨v, e3, e4⟩ := Option.bind_eq_some_iff.mp e2
    obtain ⟨w, e5, e6⟩ := Option.bind_eq_some_iff.mp e4
    obtain ⟨i, e7, e8⟩ := Option.bind_eq_some_iff.mp e6
    obtain ⟨j, e9, e10⟩ := Option.bind_eq_some_iff.mp e8
    obtain ⟨k, e11, e12⟩ := Option.bind_eq_some_iff.mp e10
    cases wI_some e7
    cases wI_some e9
    cases wI_some e11
    split at e12
    · cases e12
      rename_i hj
      unfold rgOk at hj
      simp only [Bool.and_eq_true, decide_eq_true_eq] at hj
      refine ⟨O, env, _, h1, e1, fun H1 u m r => ⟨O, env, _, h1.mono m, e3, fun H2 u2 m2 r2 => ⟨O, env, _, h1.mono (m.trans m2), e5, fun H3 u3 m3 r3 => ?_⟩⟩⟩
      exact ⟨i, j, k, _, by rw [bres_int r, bres_int r2, bres_int r3], ⟨hj.1.1.1, hj.1.1.2, hj.1.2, by omega⟩, h3 H3 _ ((m.trans m2).trans m3) (src_rc i k _)⟩
    · cases e12
end
/-! ### short words -/
abbrev xAdd (f g : En → Option W) := x2 wAdd f g
abbrev xSub (f g : En → Option W) := x2 (wInt fun i j => i - j) f g
abbrev xMul (f g : En → Option W) := x2 wMul f g
abbrev xFd (f g : En → Option W) := x2 (wIntC fdOk Int.fdiv) f g
abbrev xMod (f g : En → Option W) := x2 (wIntC (fun _ j => decide (j ≠ 0)) Int.fmod) f g
abbrev xPow (f g : En → Option W) := x2 (wIntC powOk fun i j => i ^ j.toNat) f g
abbrev xShl (f g : En → Option W) := x2 (wIntC powOk fun i j => i * 2 ^ j.toNat) f g
abbrev xShr (f g : En → Option W) := x2 (wIntC (fun _ j => decide (0 ≤ j)) fun i j => i / 2 ^ j.toNat) f g
abbrev xAnd (f g : En → Option W) := x2 (wInt Builtin.bitAnd) f g
abbrev xOr (f g : En → Option W) := x2 (wInt Builtin.bitOr) f g
abbrev xXor (f g : En → Option W) := x2 (wInt Builtin.bitXor) f g
abbrev tLt (f g : En → Option W) := t2 cLt f g
abbrev tLe (f g : En → Option W) := t2 (cInt fun i j => decide (i ≤ j)) f g
abbrev tGt (f g : En → Option W) := t2 (cInt fun i j => decide (j < i)) f g
abbrev tGe (f g : En → Option W) := t2 (cInt fun i j => decide (j ≤ i)) f g
abbrev tEq (f g : En → Option W) := t2 cEq f g
abbrev tNe (f g : En → Option W) := t2 cNe f g
abbrev tIs (f g : En → Option W) := t2 cIs f g
abbrev tIsNot (f g : En → Option W) := t2 cIsNot f g
abbrev tIn (f g : En → Option W) := t2 cIn f g
abbrev tNotIn (f g : En → Option W) := t2 cNotIn f g
abbrev wAddA := wInt fun i j => i + j
abbrev wSubA := wInt fun i j => i - j
abbrev wMulA := wIntC mulOk fun i j => i * j
abbrev wFdA := wIntC fdOk Int.fdiv
abbrev wModA := wIntC (fun _ j => decide (j ≠ 0)) Int.fmod
abbrev wXorA := wInt Builtin.bitXor
abbrev wOrA := wInt Builtin.bitOr
/-! ### a, b = x, y where a name is captured: by way of the pair -/
section
variable {X : Cx} {a b : Expr} {f g : En → Option W} {pos : Pos}
theorem sPar_frz {i j : Nat} : True := trivial
end
/-! ### defs by name -/
/-- a def of the text, bound to its name -/
def Fn0 (K : PySem.W.Frag) (mg : Str → Option Value) (x : Str) (st : Stmt) (ps : List Str) : Prop := ∃ f fd, Fun K x x st f fd ∧ mg x = some (.ref f) ∧ Binds K fd ps []
/-- .. that does φ -/
def Def (P : Program) (w : World) (K : PySem.W.Frag) (mg : Str → Option Value) (base : Heap) (k : Nat) (x : Str) (ps : List Str) (φ : List D → Option W) : Prop :=
  ∃ f fd, FnOk P w K mg base CX0 k f fd ps (spF K ps.length φ) ∧ mg x = some (.ref f) ∧ PySem.W.keepIn K (.ref f) = true ∧ Binds K fd ps []
section
variable {P : Program} {w : World} {K : PySem.W.Frag} {mg : Str → Option Value} {base : Heap}
theorem def_ok {x : Str} {st : Stmt} {N ps : List Str} {k : Nat} {B : SF} (F : Fn0 K mg x st ps) (S : FnScope N ps (defScope st))
    (hb : ∀ (f : Addr) (_ : mg x = some (.ref f)) (cdv : Value) (A : Around) (outer : List Env) (s : Shared) (H : Hp) (E : XK), Room k (A.deeper (PyProof.Rows.envOfC x (defScope st) s.heap.objs.size f cdv)) →
      PSs (cxOf CX0 P w K mg base N x (defScope st) f cdv A outer s H E).nox (defBody st) (rS K B)) : Def P w K mg base (k + 1) x ps (runF N.length B) := by
  obtain ⟨f, fd, F, hm, hb0⟩ := F
  exact ⟨f, fd, fn_ok F S (hb f hm), hm, F.kp, hb0⟩
theorem def_none {x : Str} {st : Stmt} {ps : List Str} {k : Nat} (F : Fn0 K mg x st ps) : Def P w K mg base k x ps (fun _ => none) := by
  obtain ⟨f, fd, F, hm, hb0⟩ := F
  refine ⟨f, fd, ⟨fun vs H Q E h => h.1, fun A outer s H args us vs Q E hr e0 hb r h => ?_⟩, hm, F.kp, hb0⟩
  obtain ⟨_, _, _, _, _, _, q, _⟩ := h
  cases q
end
section
variable {X : Cx} {e : Expr} {es : List Expr} {fs : En → Option (List D)} {k : Nat} {ps : List Str} {φ : List D → Option W} {x : Str} {p pos : Pos}
theorem ev_callD {n : Nat} (F : Def X.prog X.w X.K X.mg X.base k x ps φ) (hr : Room k X.A) (hg : Gl X x)
    (ha : PA X (e :: es) (rAD X.K fs)) (hn : ps.length = n := by rfl) (hdb : (x == ("__debug__" : Str)) = false := by decide) (he : starEach (e :: es) X.env = (false, eval e X.env) :: starEach es X.env := by rfl) (hpl : (backTo pos (starEach es X.env)).any (·.1) = false := by rfl) :
    PE X (.Call (.Name x p) (e :: es) [] pos) (rE X.K (xCall n φ fs)) := by
  obtain ⟨f, fd, F, hm, hk, hb⟩ := F
  subst hn
  exact ev_call F hr hg hm hk hb ha hdb he hpl
theorem ev_callD0 (F : Def X.prog X.w X.K X.mg X.base k x [] φ) (hr : Room k X.A) (hg : Gl X x) (hdb : (x == ("__debug__" : Str)) = false := by decide) : PE X (.Call (.Name x p) [] [] pos) (rE X.K (xCall 0 φ aN)) := by
  obtain ⟨f, fd, F, hm, hk, hb⟩ := F
  exact ev_call0 F hr hg hm hk hb hdb
end
end EV

set_option Elab.async false
set_option linter.all false
set_option maxRecDepth 100000
set_option maxHeartbeats 1000000
/-! the combinators' equations, for simp -/
namespace EV
open PySem L2
section
variable {f g h : En → Option W} {fs : En → Option (List D)} {env e1 : En} {F G : SF} {p q : En → Option Bool}
@[simp] theorem q_C (x : D) : xC x env = some (.d x) := rfl
@[simp] theorem q_x1 (c : W → Option W) : x1 c f env = (f env).bind c := rfl
@[simp] theorem q_x2 (c : W → W → Option W) : x2 c f g env = (f env).bind fun x => (g env).bind fun y => c x y := rfl
@[simp] theorem q_B : xB p env = (p env).map bw := rfl
@[simp] theorem q_bw (c : Bool) : bw c = .d (.bool c) := rfl
@[simp] theorem q_t2 (c : W → W → Option Bool) : t2 c f g env = (f env).bind fun x => (g env).bind fun y => c x y := rfl
@[simp] theorem q_tV : tV f env = (f env).bind tru := rfl
@[simp] theorem q_tN : tN p env = (p env).map (!·) := rfl
@[simp] theorem q_tA : tA p q env = (p env).bind fun c => if c then q env else some false := rfl
@[simp] theorem q_tO : tO p q env = (p env).bind fun c => if c then some true else q env := rfl
@[simp] theorem q_xIf : xIf p f g env = (p env).bind fun c => if c then f env else g env := rfl
@[simp] theorem q_xA : xA f g env = (f env).bind fun x => (tru x).bind fun c => if c then g env else match x with | .d d => some (.d d) | _ => none := rfl
@[simp] theorem q_xO : xO f g env = (f env).bind fun x => (tru x).bind fun c => if c then (match x with | .d d => some (.d d) | _ => none) else g env := rfl
@[simp] theorem q_aN : aN env = some [] := rfl
@[simp] theorem q_aC : aC f fs env = (f env).bind fun w => (dat w).bind fun d => (fs env).map (d :: ·) := rfl
@[simp] theorem q_tup : xTup fs env = (fs env).bind fun ds => if ds.length ≤ 16777216 then some (.d (.tuple ds)) else none := rfl
@[simp] theorem q_lst : xLst fs env = (fs env).bind fun ds => if ds.length ≤ 16777216 then some (.o (.lst ds)) else none := rfl
@[simp] theorem q_call (n : Nat) (φ : List D → Option W) : xCall n φ fs env = (fs env).bind fun ds => if ds.length = n then φ ds else none := rfl
@[simp] theorem q_rd (i : Nat) : xRd i env = (env[i]?).join := rfl
/-- an escaping read of data -/
@[simp] theorem q_var (i : Nat) : xVar i env = (env[i]?).join.bind fun w => match w with | .d x => some (.d x) | _ => none := by
  unfold xVar
  cases env[i]? with
  | none => rfl
  | some o => cases o with
    | none => rfl
    | some w => cases w <;> rfl
@[simp] theorem q_pY : pY env = some true := rfl
@[simp] theorem q_pN : pN env = some none := rfl
@[simp] theorem q_pS : pS f env = (f env).bind fun w => (wI w).map some := rfl
@[simp] theorem q_sl (l h : En → Option (Option Int)) : xSl f l h env = (f env).bind fun w => (l env).bind fun lo => (h env).bind fun hi => wSl w lo hi := rfl
@[simp] theorem q_wI (i : Int) : wI (.d (.int i)) = some i := rfl
@[simp] theorem q_iS : iS f env = (f env).bind fun w => (dat w).bind seqD := rfl
@[simp] theorem q_iB : iB f env = (f env).bind asS := rfl
theorem rgB_nat {n : Nat} (h : n < 4000000000000000000) : rgB (n : Int) = true := rgB_of (by omega)
@[simp] theorem q_iR1 : iR1 f env = (f env).bind fun w => (wI w).bind fun j => if rgB j then some (intsD 0 j.toNat) else none := rfl
@[simp] theorem q_iR2 : iR2 f g env = (f env).bind fun v => (g env).bind fun w => (wI v).bind fun i => (wI w).bind fun j => if rgB i && rgB j then some (intsD i (j - i).toNat) else none := rfl
@[simp] theorem q_iEn : iEn f env = (f env).bind fun w => ((dat w).bind seqD).map enD := rfl
@[simp] theorem q_iZp : iZp f g env = (f env).bind fun v => (g env).bind fun w => (dat v).bind fun x => (dat w).bind fun y => zpW x y := rfl
@[simp] theorem q_iRv : iRv f env = (f env).bind fun w => ((dat w).bind seqD).map List.reverse := rfl
/-! values -/
@[simp] theorem v_add (i j : Int) : wAdd (.d (.int i)) (.d (.int j)) = some (.d (.int (i + j))) := rfl
@[simp] theorem v_addT (xs ys : List D) : wAdd (.d (.tuple xs)) (.d (.tuple ys)) = if xs.length + ys.length ≤ 16777216 then some (.d (.tuple (xs ++ ys))) else none := rfl
@[simp] theorem v_addoo (xs ys : List D) : wAdd (.o (.lst xs)) (.o (.lst ys)) = if xs.length + ys.length ≤ 16777216 then some (.o (.lst (xs ++ ys))) else none := rfl
@[simp] theorem v_adddo (xs ys : List D) : wAdd (.d (.list xs)) (.o (.lst ys)) = if xs.length + ys.length ≤ 16777216 then some (.o (.lst (xs ++ ys))) else none := rfl
@[simp] theorem v_addod (xs ys : List D) : wAdd (.o (.lst xs)) (.d (.list ys)) = if xs.length + ys.length ≤ 16777216 then some (.o (.lst (xs ++ ys))) else none := rfl
@[simp] theorem v_adddd (xs ys : List D) : wAdd (.d (.list xs)) (.d (.list ys)) = if xs.length + ys.length ≤ 16777216 then some (.o (.lst (xs ++ ys))) else none := rfl
@[simp] theorem v_int (F : Int → Int → Int) (i j : Int) : wInt F (.d (.int i)) (.d (.int j)) = some (.d (.int (F i j))) := rfl
@[simp] theorem v_intC (C : Int → Int → Bool) (F : Int → Int → Int) (i j : Int) : wIntC C F (.d (.int i)) (.d (.int j)) = if C i j then some (.d (.int (F i j))) else none := rfl
@[simp] theorem v_mul (i j : Int) : wMul (.d (.int i)) (.d (.int j)) = if mulOk i j then some (.d (.int (i * j))) else none := rfl
@[simp] theorem v_mulL (xs : List D) (k : Int) : wMul (.o (.lst xs)) (.d (.int k)) = if k < 16777216 ∧ -16777216 ≤ k ∧ xs.length * k.toNat ≤ 16777216 then some (.o (.lst (List.replicate k.toNat xs).flatten)) else none := by
  have p24 : (2 : Int) ^ 24 = 16777216 := by decide +kernel
  unfold wMul
  simp only [p24]
@[simp] theorem v_neg (i : Int) : wNeg (.d (.int i)) = some (.d (.int (-i))) := rfl
@[simp] theorem v_inv (i : Int) : wInv (.d (.int i)) = some (.d (.int (Builtin.bitNot i))) := rfl
@[simp] theorem v_abs (i : Int) : wAbs (.d (.int i)) = some (.d (.int i.natAbs)) := rfl
@[simp] theorem v_toI (i : Int) : wToI (.d (.int i)) = some (.d (.int i)) := rfl
@[simp] theorem v_toIb (b : Bool) : wToI (.d (.bool b)) = some (.d (.int (if b then 1 else 0))) := rfl
@[simp] theorem v_toLt (xs : List D) : wToL (.d (.tuple xs)) = some (.o (.lst xs)) := rfl
@[simp] theorem v_toLd (xs : List D) : wToL (.d (.list xs)) = some (.o (.lst xs)) := rfl
@[simp] theorem v_toLo (xs : List D) : wToL (.o (.lst xs)) = some (.o (.lst xs)) := rfl
@[simp] theorem v_toTt (xs : List D) : wToT (.d (.tuple xs)) = some (.d (.tuple xs)) := rfl
@[simp] theorem v_toTd (xs : List D) : wToT (.d (.list xs)) = some (.d (.tuple xs)) := rfl
@[simp] theorem v_toTo (xs : List D) : wToT (.o (.lst xs)) = some (.d (.tuple xs)) := rfl
@[simp] theorem v_lenT (xs : List D) : wLen (.d (.tuple xs)) = some (.d (.int xs.length)) := rfl
@[simp] theorem v_lenL (xs : List D) : wLen (.d (.list xs)) = some (.d (.int xs.length)) := rfl
@[simp] theorem v_lenO (xs : List D) : wLen (.o (.lst xs)) = some (.d (.int xs.length)) := rfl
@[simp] theorem v_ixT (xs : List D) (i : Int) : wIx (.d (.tuple xs)) (.d (.int i)) = (atI xs i).map .d := rfl
@[simp] theorem v_ixL (xs : List D) (i : Int) : wIx (.d (.list xs)) (.d (.int i)) = (atI xs i).map .d := rfl
@[simp] theorem v_ixO (xs : List D) (i : Int) : wIx (.o (.lst xs)) (.d (.int i)) = (atI xs i).map .d := rfl
@[simp] theorem v_slT (xs : List D) (l h : Option Int) : wSl (.d (.tuple xs)) l h = some (.d (.tuple (cutD xs l h))) := rfl
@[simp] theorem v_slL (xs : List D) (l h : Option Int) : wSl (.d (.list xs)) l h = some (.o (.lst (cutD xs l h))) := rfl
@[simp] theorem v_slO (xs : List D) (l h : Option Int) : wSl (.o (.lst xs)) l h = some (.o (.lst (cutD xs l h))) := rfl
@[simp] theorem v_max2 (i j : Int) : wMax2 (.d (.int i)) (.d (.int j)) = some (.d (.int (max i j))) := rfl
@[simp] theorem v_min2 (i j : Int) : wMin2 (.d (.int i)) (.d (.int j)) = some (.d (.int (min i j))) := rfl
@[simp] theorem v_cInt (F : Int → Int → Bool) (i j : Int) : cInt F (.d (.int i)) (.d (.int j)) = some (F i j) := rfl
@[simp] theorem v_cLt (i j : Int) : cLt (.d (.int i)) (.d (.int j)) = some (decide (i < j)) := rfl
@[simp] theorem v_cEq (i j : Int) : cEq (.d (.int i)) (.d (.int j)) = some (i == j) := rfl
@[simp] theorem v_cNe (i j : Int) : cNe (.d (.int i)) (.d (.int j)) = some (!(i == j)) := rfl
@[simp] theorem v_cEqB (i j : Bool) : cEq (.d (.bool i)) (.d (.bool j)) = some (i == j) := rfl
@[simp] theorem v_cNeB (i j : Bool) : cNe (.d (.bool i)) (.d (.bool j)) = some (!(i == j)) := rfl
@[simp] theorem v_cIsN (x : W) : cIs x (.d .none) = some (isN x) := rfl
@[simp] theorem v_cIsNotN (x : W) : cIsNot x (.d .none) = some (!isN x) := rfl
@[simp] theorem v_isN_int (i : Int) : isN (.d (.int i)) = false := rfl
@[simp] theorem v_isN_bool (i : Bool) : isN (.d (.bool i)) = false := rfl
@[simp] theorem v_isN_tuple (i : List D) : isN (.d (.tuple i)) = false := rfl
@[simp] theorem v_isN_list (i : List D) : isN (.d (.list i)) = false := rfl
@[simp] theorem v_isN_o (i : Ob) : isN (.o i) = false := rfl
@[simp] theorem v_isN_none : isN (.d .none) = true := rfl
@[simp] theorem v_tru_int (i : Int) : tru (.d (.int i)) = some (i != 0) := rfl
@[simp] theorem v_tru_bool (i : Bool) : tru (.d (.bool i)) = some i := rfl
@[simp] theorem v_tru_none : tru (.d .none) = some false := rfl
@[simp] theorem v_tru_tuple (xs : List D) : tru (.d (.tuple xs)) = some (!xs.isEmpty) := rfl
@[simp] theorem v_tru_list (xs : List D) : tru (.d (.list xs)) = some (!xs.isEmpty) := rfl
@[simp] theorem v_tru_o (xs : List D) : tru (.o (.lst xs)) = some (!xs.isEmpty) := rfl
/-! statements -/
@[simp] theorem s_nil : sNil env = some (.nx, env) := rfl
@[simp] theorem s_pass : sPass env = some (.nx, env) := rfl
@[simp] theorem s_brk : sBrk env = some (.bk, env) := rfl
@[simp] theorem s_cnt : sCnt env = some (.ct, env) := rfl
@[simp] theorem s_seq : sSeq F G env = (F env).bind fun r => match r with | (.nx, e1) => G e1 | r => some r := rfl
@[simp] theorem s_set (i : Nat) : sSet i f env = (f env).map fun w => (.nx, env.set i (some w)) := rfl
@[simp] theorem s_par (i j : Nat) : sPar i j f g env = (f env).bind fun v => (g env).map fun w => (.nx, (env.set i (some v)).set j (some w)) := rfl
@[simp] theorem s_asg (t : D → En → Option En) : sAsg f t env = (f env).bind fun w => (dat w).bind fun d => (t d env).map fun e1 => (.nx, e1) := rfl
@[simp] theorem s_gN (i : Nat) (d : D) : gN i d env = some (env.set i (some (.d d))) := rfl
@[simp] theorem s_gT (n : Nat) (ts : List D → En → Option En) (ds : List D) : gT n ts (.tuple ds) env = if ds.length = n then ts ds env else none := rfl
@[simp] theorem s_gsN : gsN [] env = some env := rfl
@[simp] theorem s_gsC (t : D → En → Option En) (ts : List D → En → Option En) (d : D) (r : List D) : gsC t ts (d :: r) env = (t d env).bind fun e1 => ts r e1 := rfl
@[simp] theorem s_ret : sRet f env = (f env).map fun w => (.rt w, env) := rfl
@[simp] theorem s_if : sIf p F G env = (p env).bind fun c => if c then F env else G env := rfl
@[simp] theorem s_kill (is : List Nat) : sKill is F env = (F env).map fun r => (r.1, killAt is r.2) := rfl
@[simp] theorem s_killN : killAt [] env = env := rfl
@[simp] theorem s_killC (i : Nat) (is : List Nat) : killAt (i :: is) env = killAt is (env.set i none) := rfl
@[simp] theorem s_frz (i : Nat) : sFrz i F env = F (frzAt i env) := rfl
@[simp] theorem s_app (i : Nat) : sApp i f env = (f env).bind fun w => (dat w).bind fun d => (lstAt i env).bind fun xs => if xs.length < 16777216 then some (.nx, putL i (xs ++ [d]) env) else none := rfl
@[simp] theorem s_ext (i : Nat) : sExt i f env = (f env).bind fun w => (wOL w).bind fun ds => (lstAt i env).bind fun xs => if xs.length + ds.length ≤ 16777216 then some (.nx, putL i (xs ++ ds) env) else none := rfl
@[simp] theorem s_wOL (xs : List D) : wOL (.o (.lst xs)) = some xs := rfl
@[simp] theorem s_store (i : Nat) : sStore i f g env = (f env).bind fun w => (dat w).bind fun d => (g env).bind fun v => (wI v).bind fun k => (lstAt i env).bind fun xs => (ixN xs.length k).map fun j => (.nx, putL i (xs.set j d) env) := rfl
@[simp] theorem s_aug (i : Nat) (c : W → W → Option W) : sAug i c f env = (xRd i env).bind fun x => (f env).bind fun y => (c x y).map fun w => (.nx, env.set i (some w)) := rfl
@[simp] theorem s_expr : sExpr f env = (f env).map fun _ => (.nx, env) := rfl
@[simp] theorem s_putL (i : Nat) (xs : List D) : putL i xs env = env.set i (some (.o (.lst xs))) := rfl
@[simp] theorem s_frzAt (i : Nat) : frzAt i env = match env[i]? with | some (some (.o (.lst xs))) => env.set i (some (.d (.list xs))) | _ => env := rfl
@[simp] theorem s_lstAt (i : Nat) : lstAt i env = match env[i]? with | some (some (.o (.lst xs))) => some xs | _ => none := rfl
@[simp] theorem s_for (src : En → Option (List D)) (t : D → En → Option En) : sFor src t F env = (src env).bind fun xs => forL t F xs env := rfl
@[simp] theorem s_run (n : Nat) (ds : List D) : runF n F ds = match F (ds.map (fun d => some (.d d)) ++ List.replicate (n - ds.length) none) with | some (.nx, _) => some (.d .none) | some (.rt w, _) => some w | _ => none := rfl
@[simp] theorem s_lc (vs : List Nat) (src : En → Option (List D)) (t : D → En → Option En) : xLc vs src t p f env = (src env).bind fun xs => if xs.length ≤ 16777216 then (lcL t p f xs (wipeE env vs)).map fun ds => .o (.lst ds) else none := rfl
@[simp] theorem s_wipeN : wipeE env [] = env := rfl
@[simp] theorem s_wipeC (v : Nat) (vs : List Nat) : wipeE env (v :: vs) = (wipeE env vs).set v none := rfl
end
/-! guards -/
@[simp] theorem intsD_length (lo : Int) (n : Nat) : (intsD lo n).length = n := intsD_len lo n
theorem mulOk_l {i j : Int} (h : i.natAbs < 2 ^ 64) : mulOk i j = true := by unfold mulOk; simp [h]
theorem mulOk_r {i j : Int} (h : j.natAbs < 2 ^ 64) : mulOk i j = true := by unfold mulOk; simp [h]
theorem log2_lt {n k : Nat} (h : n < 2 ^ k) (h0 : 0 < k) : n.log2 < k := PySem.Flt.log2_lt_of h0 h
theorem mulOk_w {i j : Int} {a b : Nat} (ha : i.natAbs < 2 ^ a) (hb : j.natAbs < 2 ^ b) (h0 : 0 < a) (h1 : 0 < b) (h : a + b ≤ 1000000) : mulOk i j = true := by
  have x := log2_lt ha h0
  have y := log2_lt hb h1
  unfold mulOk
  simp only [Bool.or_eq_true, decide_eq_true_eq]
  left; omega
theorem fdOk_pos {i j : Int} (h : 0 < j) (hb : j.natAbs < 2 ^ 9000) : fdOk i j = true := by
  have x := log2_lt hb (by omega)
  unfold fdOk
  simp [h, x]
theorem atI_nat {xs : List D} {i : Int} {k : Nat} (h0 : i = (k : Nat)) : atI xs i = xs[k]? := by
  subst h0
  unfold atI ixN
  by_cases hk : k < xs.length
  · simp [hk]
  · simp [hk, List.getElem?_eq_none (Nat.le_of_not_lt hk)]
@[simp] theorem atI_lit (xs : List D) (k : Nat) : atI xs (no_index (@OfNat.ofNat Int k instOfNat)) = xs[k]? := atI_nat rfl
@[simp] theorem atI_cast (xs : List D) (k : Nat) : atI xs (k : Int) = xs[k]? := atI_nat rfl
theorem atI_neg1 (xs : List D) (x : D) : atI (xs ++ [x]) (-1) = some x := by
  unfold atI ixN
  have : -((xs ++ [x]).length : Int) ≤ -1 := by simp; omega
  rw [if_neg (by omega), if_pos this]
  have e : (-1 + ((xs ++ [x]).length : Int)).toNat = xs.length := by simp; omega
  show (xs ++ [x])[(-1 + ((xs ++ [x]).length : Int)).toNat]? = some x
  rw [e]
  simp
/-! loops -/
def turn (t : D → En → Option En) (F : SF) (x : D) (env : En) : Option (Fl × En) := (t x env).bind F
theorem forL_cons (t : D → En → Option En) (F : SF) (x : D) (xs : List D) (env : En) : forL t F (x :: xs) env = (turn t F x env).bind fun r => match r with
    | (.nx, e2) => forL t F xs e2 | (.ct, e2) => forL t F xs e2 | (.bk, e2) => some (.nx, e2) | (.rt w, e2) => some (.rt w, e2) := by
  show ((t x env).bind fun e1 => (F e1).bind _) = ((t x env).bind F).bind _
  cases t x env <;> rfl
@[simp] theorem forL_nil (t : D → En → Option En) (F : SF) (env : En) : forL t F [] env = some (.nx, env) := rfl
/-- all turns go on: st i is what stands ahead of the i-th turn -/
theorem forL_all {t : D → En → Option En} {F : SF} : ∀ (xs : List D) (st : Nat → En), (∀ i x, xs[i]? = some x → turn t F x (st i) = some (.nx, st (i + 1))) → forL t F xs (st 0) = some (.nx, st xs.length)
  | [], _, _ => rfl
  | x :: xs, st, h => by
    rw [forL_cons, h 0 x rfl]
    show forL t F xs (st 1) = _
    have := forL_all xs (fun i => st (i + 1)) fun i y e => h (i + 1) y (by simpa using e)
    simpa using this
/-- the turns below k go on, the k-th returns -/
theorem forL_ret {t : D → En → Option En} {F : SF} {w : W} {e' : En} : ∀ (xs : List D) (st : Nat → En) (k : Nat) (y : D), xs[k]? = some y → (∀ i x, i < k → xs[i]? = some x → turn t F x (st i) = some (.nx, st (i + 1))) → turn t F y (st k) = some (.rt w, e') → forL t F xs (st 0) = some (.rt w, e')
  | [], _, k, y, hk, _, _ => by simp at hk
  | x :: xs, st, 0, y, hk, _, hr => by
    simp at hk
    subst hk
    rw [forL_cons, hr]; rfl
  | x :: xs, st, k + 1, y, hk, h, hr => by
    rw [forL_cons, h 0 x (by omega) rfl]
    show forL t F xs (st 1) = _
    exact forL_ret xs (fun i => st (i + 1)) k y (by simpa using hk) (fun i z hi e => h (i + 1) z (by omega) (by simpa using e)) hr
/-- a loop by what holds between the turns -/
theorem forL_inv {t : D → En → Option En} {F : SF} : ∀ (xs : List D) (P : Nat → En → Prop) (env : En), P 0 env → (∀ (i : Nat) (x : D) (env : En), xs[i]? = some x → P i env → ∃ env', turn t F x env = some (.nx, env') ∧ P (i + 1) env') → ∃ env', forL t F xs env = some (.nx, env') ∧ P xs.length env'
  | [], _, env, h0, _ => ⟨env, rfl, h0⟩
  | x :: xs, P, env, h0, h => by
    obtain ⟨e1, h1, h2⟩ := h 0 x env rfl h0
    obtain ⟨e2, h3, h4⟩ := forL_inv xs (fun i => P (i + 1)) e1 h2 fun i y e hy p => h (i + 1) y e (by simpa using hy) p
    refine ⟨e2, ?_, by simpa using h4⟩
    rw [forL_cons, h1]
    exact h3
theorem intsD_get {lo : Int} {n i : Nat} {x : D} (h : (intsD lo n)[i]? = some x) : i < n ∧ x = .int (lo + (i : Nat)) := by
  have hi : i < n := by
    have := (List.getElem?_eq_some_iff.mp h).1
    simpa using this
  simp [intsD, hi] at h
  exact ⟨hi, h.symm⟩
theorem forL_intsI {t : D → En → Option En} {F : SF} {lo : Int} {n : Nat} (P : Nat → En → Prop) (env : En) (h0 : P 0 env) (h : ∀ (i : Nat) (env : En), i < n → P i env → ∃ env', turn t F (.int (lo + (i : Nat))) env = some (.nx, env') ∧ P (i + 1) env') : ∃ env', forL t F (intsD lo n) env = some (.nx, env') ∧ P n env' := by
  have := forL_inv (intsD lo n) P env h0 fun i x e hx p => by
    obtain ⟨hi, rfl⟩ := intsD_get hx
    exact h i e hi p
  simpa using this
theorem forL_ints {t : D → En → Option En} {F : SF} {lo : Int} {n : Nat} (st : Nat → En) (h : ∀ i : Nat, i < n → turn t F (.int (lo + (i : Nat))) (st i) = some (.nx, st (i + 1))) : forL t F (intsD lo n) (st 0) = some (.nx, st n) := by
  have := forL_all (intsD lo n) st fun i x e => by
    obtain ⟨hi, rfl⟩ := intsD_get e
    exact h i hi
  simpa using this
/-- the comprehension: each item as told -/
theorem lcL_all {t : D → En → Option En} {f : En → Option W} {env : En} (φ : D → D) : ∀ (xs : List D), (∀ x ∈ xs, ((t x env).bind f).bind dat = some (φ x)) → lcL t pY f xs env = some (xs.map φ)
  | [], _ => rfl
  | x :: xs, h => by
    have h0 := h x (by simp)
    have h1 := lcL_all φ xs fun y hy => h y (by simp [hy])
    obtain ⟨w, e1, e2⟩ := Option.bind_eq_some_iff.mp h0
    obtain ⟨e, e3, e4⟩ := Option.bind_eq_some_iff.mp e1
    unfold lcL
    simp [e3, e4, e2, h1]
theorem lcL_filter {t : D → En → Option En} {p : En → Option Bool} {f : En → Option W} {env : En} (φ : D → D) (π : D → Bool) : ∀ (xs : List D), (∀ x ∈ xs, (t x env).bind p = some (π x) ∧ (π x = true → ((t x env).bind f).bind dat = some (φ x))) → lcL t p f xs env = some ((xs.filter π).map φ)
  | [], _ => rfl
  | x :: xs, h => by
    obtain ⟨h0, h00⟩ := h x (by simp)
    have h1 := lcL_filter φ π xs fun y hy => h y (by simp [hy])
    obtain ⟨e, e1, e2⟩ := Option.bind_eq_some_iff.mp h0
    unfold lcL
    cases hp : π x with
    | false =>
      rw [hp] at e2
      simp [e1, e2, h1, hp]
    | true =>
      rw [hp] at e2
      obtain ⟨w, e3, e4⟩ := Option.bind_eq_some_iff.mp (h00 hp)
      rw [e1] at e3
      simp at e3
      simp [e1, e2, e3, e4, h1, hp]
/-- while: the state falls -/
theorem whileL_by {S : Type} {p : En → Option Bool} {F : SF} (enc : S → En) (c : S → Bool) (f : S → S) (μ : S → Nat) (P : S → Prop)
    (hp : ∀ s, P s → p (enc s) = some (c s)) (hF : ∀ s, P s → c s = true → F (enc s) = some (.nx, enc (f s)) ∧ P (f s) ∧ μ (f s) < μ s) :
    ∀ (n : Nat) (s : S), P s → μ s < n → ∃ s', whileL p F n (enc s) = some (.nx, enc s') ∧ P s' ∧ c s' = false
  | 0, s, _, h => by omega
  | n + 1, s, hs, h => by
    unfold whileL
    rw [hp s hs]
    cases hc : c s with
    | false => exact ⟨s, by simp, hs, hc⟩
    | true =>
      obtain ⟨h1, h2, h3⟩ := hF s hs hc
      obtain ⟨s', q1, q2, q3⟩ := whileL_by enc c f μ P hp hF n (f s) h2 (by omega)
      exact ⟨s', by simp [h1, q1], q2, q3⟩
end EV

set_option Elab.async false
set_option linter.all false
set_option maxRecDepth 100000
set_option maxHeartbeats 1000000
set_option exponentiation.threshold 20000
/-! what all laws have in common: _law_mixed, _law_row, _law_is_int, _law_like, _law_common, _law_ratio -/
namespace EV
open PySem L2
def C_mixed : SF := sSeq (sSet 2 (xC (.int 0))) (sSeq (sIf (tGt (x1 wLen (xRd 0)) (xC (.int 0))) (sSet 2 (x2 wIx (xRd 0) (xMod (xRd 1) (x1 wLen (xRd 0))))) (sNil)) (sSeq (sSet 3 (xMod (x1 wToI (xAdd (xAdd (xMul (xRd 2) (xC (.int 48271))) (xMul (xRd 1) (xC (.int 69621)))) (xC (.int 8191)))) (xC (.int 2147483647)))) (sSeq (sSet 4 (xMod (x1 wToI (xAdd (xAdd (xMul (xRd 3) (xRd 3)) (xFd (xRd 3) (xC (.int 7)))) (xMul (xRd 1) (xC (.int 16807))))) (xC (.int 2147483629)))) (sSeq (sSet 5 (xMod (x1 wToI (xAdd (xAdd (xMul (xRd 4) (xRd 4)) (xFd (xRd 4) (xC (.int 11)))) (xC (.int 40692)))) (xC (.int 2147483563)))) (sRet (xMod (xFd (xRd 5) (xC (.int 5))) (xC (.int 1000003))))))))
def d_mixed : List D → Option W := runF 6 C_mixed
theorem fmod_bd (a : Int) {m : Int} (h : 0 < m) : 0 ≤ a.fmod m ∧ a.fmod m < m := ⟨Int.fmod_nonneg_of_pos a h, Int.fmod_lt_of_pos a h⟩
theorem fdOk_lit {i j : Int} (h : 0 < j) (hb : j < 2 ^ 64) : fdOk i j = true := fdOk_pos h (Nat.lt_of_lt_of_le (show j.natAbs < 2 ^ 64 by omega) (Nat.pow_le_pow_right (by omega) (by omega)))
theorem mixed_ok (ns : List Int) (k : Nat) (hk : k < 1000000) : ∃ v : Int, d_mixed [.list (ns.map .int), .int k] = some (.d (.int v)) ∧ 0 ≤ v ∧ v < 1000003 := by
  have hm1 : ∀ c : Int, mulOk c 48271 = true := fun c => mulOk_r (by decide)
  have hm2 : ∀ c : Int, mulOk c 69621 = true := fun c => mulOk_r (by decide)
  have hm3 : ∀ c : Int, mulOk c 16807 = true := fun c => mulOk_r (by decide)
  have hd1 : ∀ c : Int, fdOk c 7 = true := fun c => fdOk_lit (by decide) (by decide)
  have hd2 : ∀ c : Int, fdOk c 11 = true := fun c => fdOk_lit (by decide) (by decide)
  have hd3 : ∀ c : Int, fdOk c 5 = true := fun c => fdOk_lit (by decide) (by decide)
  have hs1 : ∀ c : Int, mulOk (c.fmod 2147483647) (c.fmod 2147483647) = true := fun c => mulOk_r (by have := fmod_bd c (m := 2147483647) (by decide); omega)
  have hs2 : ∀ c : Int, mulOk (c.fmod 2147483629) (c.fmod 2147483629) = true := fun c => mulOk_r (by have := fmod_bd c (m := 2147483629) (by decide); omega)
  unfold d_mixed C_mixed
  cases ns with
  | nil =>
    simp [hm1, hm2, hm3, hd1, hd2, hd3, hs1, hs2]
    exact fmod_bd _ (m := 1000003) (by decide)
  | cons n ns =>
    have hlen : ((k : Int).fmod ((ns.length : Int) + 1)) = ((k % (ns.length + 1) : Nat) : Int) := by
      rw [Int.fmod_eq_emod_of_nonneg _ (by omega)]
      rfl
    have hlt : k % (ns.length + 1) < ((n :: ns).map PyData.int).length := by
      simpa using Nat.mod_lt k (by omega)
    have hpos : (0 : Int) < (ns.length : Int) + 1 := by omega
    have hne : ¬ ((ns.length : Int) + 1 = 0) := by omega
    have hget : ∃ c : Int, ((n :: ns).map PyData.int)[k % (ns.length + 1)]? = some (.int c) := by
      rw [List.getElem?_map]
      have hlt2 : k % (ns.length + 1) < (n :: ns).length := by simpa using hlt
      exact ⟨_, by rw [List.getElem?_eq_getElem hlt2]; rfl⟩
    obtain ⟨c, hc⟩ := hget
    simp only [List.map_cons] at hc
    have hat : atI (PyData.int n :: ns.map PyData.int) ((k : Int).fmod ((ns.length : Int) + 1)) = some (.int c) := by rw [hlen, atI_cast]; exact hc
    simp [hpos, hne, hat, hm1, hm2, hm3, hd1, hd2, hd3, hs1, hs2]
    exact fmod_bd _ (m := 1000003) (by decide)
def C_row : SF := sSeq (sSet 2 (xC (.int 0))) (sSeq (sIf (tA (tGt (x1 wLen (xRd 0)) (xC (.int 0))) (tGe (x2 wIx (xRd 0) (xC (.int 0))) (xPow (xC (.int 10)) (xC (.int 18))))) (sSet 2 (x2 wIx (xRd 0) (xC (.int 0)))) (sNil)) (sSeq (sSet 3 (xLst (aN))) (sSeq (sKill [2, 4] (sFor (iR1 (xRd 1)) (gN 4) (sKill [4] (sIf (tGt (xRd 2) (xC (.int 0))) (sSeq (sApp 3 (xMod (x1 wToI (xRd 2)) (xC (.int 1000)))) (sSet 2 (xFd (xRd 2) (xC (.int 1000))))) (sApp 3 (xCall 2 d_mixed (aC (xVar 0) (aC (xVar 4) (aN))))))))) (sRet (xRd 3)))))
def d_row : List D → Option W := runF 5 C_row
theorem pow1018 : powOk 10 18 = true := by decide +kernel
theorem row_ok (ns : List Int) (many : Nat) (hm : many < 1000000) : ∃ vs : List Int, d_row [.list (ns.map .int), .int many] = some (.o (.lst (vs.map .int))) ∧ vs.length = many ∧ ∀ v ∈ vs, 0 ≤ v ∧ v < 1000003 := by
  unfold d_row C_row
  have hd : ∀ c : Int, fdOk c 1000 = true := fun c => fdOk_lit (by decide) (by decide)
  have loop := fun big : Int => forL_intsI (t := gN 4) (F := sKill [4] (sIf (tGt (xRd 2) (xC (.int 0))) (sSeq (sApp 3 (xMod (x1 wToI (xRd 2)) (xC (.int 1000)))) (sSet 2 (xFd (xRd 2) (xC (.int 1000))))) (sApp 3 (xCall 2 d_mixed (aC (xVar 0) (aC (xVar 4) (aN))))))) (lo := 0) (n := many)
    (fun i env => ∃ (b : Int) (vs : List Int), env = [some (.d (.list (ns.map .int))), some (.d (.int many)), some (.d (.int b)), some (.o (.lst (vs.map .int))), none] ∧ vs.length = i ∧ ∀ v ∈ vs, 0 ≤ v ∧ v < 1000003)
    [some (.d (.list (ns.map .int))), some (.d (.int many)), some (.d (.int big)), some (.o (.lst [])), none] ⟨big, [], rfl, rfl, by simp⟩ fun i env hi ⟨b, vs, e, hl, hv⟩ => by
      subst e
      have hlen : vs.length < 16777216 := by omega
      obtain ⟨v, h1, h2⟩ := mixed_ok ns i (by omega)
      by_cases hb : 0 < b
      · refine ⟨_, ?_, b.fdiv 1000, vs ++ [b.fmod 1000], rfl, by simp [hl], ?_⟩
        · simp [turn, hb, hlen, hd]
        · intro v hv2
          rcases List.mem_append.mp hv2 with q | q
          · exact hv v q
          · have e : v = b.fmod 1000 := by simpa using q
            have := fmod_bd b (m := 1000) (by decide)
            rw [e]; omega
      · refine ⟨_, ?_, b, vs ++ [v], rfl, by simp [hl], ?_⟩
        · simp [turn, hb, hlen, h1]
        · intro v' hv2
          rcases List.mem_append.mp hv2 with q | q
          · exact hv v' q
          · have e : v' = v := by simpa using q
            rw [e]; exact h2
  have hmany : rgB (many : Int) = true := rgB_nat (by omega)
  have hp := pow1018
  cases ns with
  | nil =>
    obtain ⟨e, h1, b, vs, rfl, h2, h3⟩ := loop 0
    exact ⟨vs, by simp at h1; simp [hmany, h1], h2, h3⟩
  | cons n ns =>
    have hpos : (0 : Int) < (ns.length : Int) + 1 := by omega
    by_cases hb : (10 : Int) ^ 18 ≤ n
    · obtain ⟨e, h1, b, vs, rfl, h2, h3⟩ := loop n
      exact ⟨vs, by simp at h1 hb; simp [hmany, hpos, hp, hb, h1], h2, h3⟩
    · obtain ⟨e, h1, b, vs, rfl, h2, h3⟩ := loop 0
      exact ⟨vs, by simp at h1 hb; simp [hmany, hpos, hp, Int.not_le.mpr hb, h1], h2, h3⟩
def C_is_int : SF := sRet (xA (x1 (wIsi "int") (xRd 0)) (xB (tN (tV (x1 (wIsi "bool") (xRd 0))))))
def d_is_int : List D → Option W := runF 1 C_is_int
def C_like (φ : List D → Option W) : SF := sSeq (sIf (tIs (xRd 1) (xC .none)) (sRet (xB (tIs (xRd 0) (xC .none)))) (sNil)) (sSeq (sIf (tV (x1 (wIsi "bool") (xRd 1))) (sRet (xA (x1 (wIsi "bool") (xRd 0)) (xB (tEq (xRd 0) (xRd 1))))) (sNil)) (sSeq (sIf (tV (x1 (wIsi "tuple") (xRd 1))) (sSeq (sIf (tO (tN (tV (x1 (wIsi "tuple") (xRd 0)))) (tNe (x1 wLen (xRd 0)) (x1 wLen (xRd 1)))) (sRet (xC (.bool false))) (sNil)) (sRet (x1 wAll (xLc [2] (iR1 (x1 wLen (xRd 1))) (gN 2) (pY) (xCall 2 φ (aC (x2 wIx (xRd 0) (xRd 2)) (aC (x2 wIx (xRd 1) (xRd 2)) (aN)))))))) (sNil)) (sSeq (sIf (tV (x1 (wIsi "str") (xRd 1))) (sRet (xA (x1 (wIsi "str") (xRd 0)) (xB (tEq (xRd 0) (xRd 1))))) (sNil)) (sRet (xA (xCall 1 d_is_int (aC (xVar 0) (aN))) (xB (tEq (xRd 0) (xRd 1))))))))
def dr_like : Nat → List D → Option W
  | 0 => fun _ => none
  | n + 1 => runF 3 (C_like (dr_like n))
def d_like : List D → Option W := dr_like 12
/-- data without lists, texts of a sane size, at most n deep -/
def flatD : Nat → D → Bool
  | 0, _ => false
  | n + 1, .tuple xs => decide (xs.length ≤ 16777216) && xs.all (flatD n)
  | _ + 1, .none => true
  | _ + 1, .bool _ => true
  | _ + 1, .int _ => true
  | _ + 1, _ => false
@[simp] theorem k_ii : kitB "int" "int" = some true := by decide +kernel
@[simp] theorem k_ib : kitB "int" "bool" = some false := by decide +kernel
@[simp] theorem k_it : kitB "int" "tuple" = some false := by decide +kernel
@[simp] theorem k_is : kitB "int" "str" = some false := by decide +kernel
@[simp] theorem k_il : kitB "int" "list" = some false := by decide +kernel
@[simp] theorem k_bi : kitB "bool" "int" = some true := by decide +kernel
@[simp] theorem k_bb : kitB "bool" "bool" = some true := by decide +kernel
@[simp] theorem k_bt : kitB "bool" "tuple" = some false := by decide +kernel
@[simp] theorem k_bs : kitB "bool" "str" = some false := by decide +kernel
@[simp] theorem k_ti : kitB "tuple" "int" = some false := by decide +kernel
@[simp] theorem k_tb : kitB "tuple" "bool" = some false := by decide +kernel
@[simp] theorem k_tt : kitB "tuple" "tuple" = some true := by decide +kernel
@[simp] theorem k_ts : kitB "tuple" "str" = some false := by decide +kernel
@[simp] theorem k_tl : kitB "tuple" "list" = some false := by decide +kernel
@[simp] theorem k_ni : kitB "NoneType" "int" = some false := by decide +kernel
@[simp] theorem k_nb : kitB "NoneType" "bool" = some false := by decide +kernel
@[simp] theorem k_nt : kitB "NoneType" "tuple" = some false := by decide +kernel
@[simp] theorem k_ns : kitB "NoneType" "str" = some false := by decide +kernel
@[simp] theorem k_ss : kitB "str" "str" = some true := by decide +kernel
@[simp] theorem k_sb : kitB "str" "bool" = some false := by decide +kernel
@[simp] theorem k_si : kitB "str" "int" = some false := by decide +kernel
@[simp] theorem k_st : kitB "str" "tuple" = some false := by decide +kernel
@[simp] theorem q_isi (T : String) (w : W) : wIsi T w = (tyW w).bind fun t => (kitB t T).map fun b => .d (.bool b) := rfl
@[simp] theorem q_tyi (i : Int) : tyW (.d (.int i)) = some "int" := rfl
@[simp] theorem q_tyb (i : Bool) : tyW (.d (.bool i)) = some "bool" := rfl
@[simp] theorem q_tyt (i : List D) : tyW (.d (.tuple i)) = some "tuple" := rfl
@[simp] theorem q_tyn : tyW (.d .none) = some "NoneType" := rfl
@[simp] theorem q_tys (x : Str) : tyW (.d (.str x)) = some "str" := rfl
theorem asBls_rep : ∀ n : Nat, asBls (List.replicate n (.bool true)) = some (List.replicate n true)
  | 0 => rfl
  | n + 1 => by simp [List.replicate_succ, asBls, asBls_rep n]
theorem is_int_ok (i : Int) : d_is_int [.int i] = some (.d (.bool true)) := by simp [d_is_int, C_is_int]
theorem like_ok (n : Nat) : ∀ (d : D), flatD n d = true → dr_like n [d, d] = some (.d (.bool true)) := by
  induction n with
  | zero => intro d h; simp [flatD] at h
  | succ n ih =>
    intro d h
    unfold dr_like C_like
    cases d with
    | none => simp
    | bool b => simp
    | int i => simp [is_int_ok]
    | str s => simp [flatD] at h
    | list xs => simp [flatD] at h
    | dict k => simp [flatD] at h
    | tuple xs =>
      simp only [flatD, Bool.and_eq_true, decide_eq_true_eq, List.all_eq_true] at h
      have hl : rgB (xs.length : Int) = true := rgB_nat (by omega)
      have key : lcL (gN 2) pY (xCall 2 (dr_like n) (aC (x2 wIx (xRd 0) (xRd 2)) (aC (x2 wIx (xRd 1) (xRd 2)) aN))) (intsD 0 xs.length) [some (.d (.tuple xs)), some (.d (.tuple xs)), none] = some ((intsD 0 xs.length).map fun _ => .bool true) := by
        refine lcL_all _ _ fun x hx => ?_
        obtain ⟨i, hi⟩ := List.getElem?_of_mem hx
        obtain ⟨h1, rfl⟩ := intsD_get hi
        have h2 : xs[i]? = some xs[i] := by simp [h1]
        have h3 := ih xs[i] (h.2 _ (List.getElem_mem h1))
        simp [h2, h3]
      have e : (intsD 0 xs.length).map (fun _ => PyData.bool true) = List.replicate xs.length (.bool true) := by
        rw [List.map_const', intsD_length]
      rw [e] at key
      simp [hl, h.1, key, wAll, asBls_rep]
end EV

set_option Elab.async false
set_option linter.all false
set_option maxRecDepth 100000
set_option maxHeartbeats 1000000
set_option exponentiation.threshold 2000000
/-! the greatest common divisor and the lowest terms -/
namespace EV
open PySem L2
theorem log2_dbl {x y : Nat} (h0 : 0 < x) (h : 2 * x ≤ y) : x.log2 < y.log2 := by
  have h1 : 2 ^ x.log2 ≤ x := Nat.log2_self_le (by omega)
  have h2 : 2 ^ (x.log2 + 1) ≤ y := by rw [Nat.pow_succ]; omega
  exact (Nat.le_log2 (by omega)).mpr h2
def gMu (s : Nat × Nat) : Nat := if s.2 = 0 then 0 else (if s.1 < s.2 then 1 else 0) + (s.1 * s.2).log2 + 1
theorem gMu_lt (a b : Nat) (hb : 0 < b) : gMu (b, a % b) < gMu (a, b) := by
  unfold gMu
  rw [if_neg (show ¬ (a, b).2 = 0 by show ¬ b = 0; omega)]
  by_cases hr : a % b = 0
  · rw [if_pos hr]; show 0 < (if a < b then 1 else 0) + (a * b).log2 + 1; omega
  · rw [if_neg hr]
    have hm : a % b < b := Nat.mod_lt _ hb
    show (if b < a % b then 1 else 0) + (b * (a % b)).log2 + 1 < (if a < b then 1 else 0) + (a * b).log2 + 1
    rw [if_neg (by omega)]
    by_cases hab : a < b
    · rw [if_pos hab, Nat.mod_eq_of_lt hab, Nat.mul_comm b a]; omega
    · rw [if_neg hab]
      have h1 : b + a % b ≤ a := by
        have := Nat.div_add_mod a b
        have h2 : 1 ≤ a / b := (Nat.one_le_div_iff hb).mpr (by omega)
        have h3 : b * 1 ≤ b * (a / b) := Nat.mul_le_mul_left b h2
        omega
      have h2 : 2 * (b * (a % b)) ≤ a * b := by
        have : 2 * (a % b) ≤ a := by omega
        calc 2 * (b * (a % b)) = (2 * (a % b)) * b := by rw [Nat.mul_comm b, Nat.mul_assoc]
          _ ≤ a * b := Nat.mul_le_mul_right b this
      have := log2_dbl (x := b * (a % b)) (Nat.mul_pos hb (by omega)) h2
      omega
def gEnc (s : Nat × Nat) : En := [some (.d (.int s.1)), some (.d (.int s.2))]
theorem gcd_loop {F : SF} (hF : ∀ a b : Nat, 0 < b → F (gEnc (a, b)) = some (.nx, gEnc (b, a % b))) (a b n : Nat) (hn : gMu (a, b) < n) : whileL (tGt (xRd 1) (xC (.int 0))) F n (gEnc (a, b)) = some (.nx, gEnc (Nat.gcd a b, 0)) := by
  obtain ⟨s, h1, h2, h3⟩ := whileL_by (p := tGt (xRd 1) (xC (.int 0))) (F := F) gEnc (fun s => decide (0 < s.2)) (fun s => (s.2, s.1 % s.2)) gMu (fun s => Nat.gcd s.1 s.2 = Nat.gcd a b)
    (fun s _ => by simp [gEnc]) (fun s h hc => by
      have hc : 0 < s.2 := by simpa using hc
      refine ⟨hF s.1 s.2 hc, ?_, gMu_lt s.1 s.2 hc⟩
      show Nat.gcd s.2 (s.1 % s.2) = _
      rw [← h, Nat.gcd_comm s.1, Nat.gcd_rec s.2 s.1, Nat.gcd_comm]) n (a, b) rfl hn
  rw [h1]
  have : s.2 = 0 := by simpa using h3
  obtain ⟨x, y⟩ := s
  have : y = 0 := this
  subst this
  have h2 : Nat.gcd x 0 = Nat.gcd a b := h2
  rw [Nat.gcd_zero_right] at h2
  rw [h2]
theorem fmod_nat (a b : Nat) : (a : Int).fmod b = ((a % b : Nat) : Int) := by
  rw [Int.fmod_eq_emod_of_nonneg _ (by omega)]
  rfl
def C_common : SF := sSeq (sPar 0 1 (x1 wAbs (xRd 0)) (x1 wAbs (xRd 1))) (sSeq (sKill [1] (whileL (tGt (xRd 1) (xC (.int 0))) (sPar 0 1 (xVar 1) (xMod (x1 wToI (xRd 0)) (xRd 1))) 1048576)) (sRet (xVar 0)))
def d_common : List D → Option W := runF 2 C_common
def C_commonB : SF := sSeq (sPar 0 1 (x1 wAbs (xRd 0)) (x1 wAbs (xRd 1))) (sSeq (sKill [1] (whileL (tGt (xRd 1) (xC (.int 0))) (sPar 0 1 (xVar 1) (xMod (xRd 0) (xRd 1))) 1048576)) (sRet (xVar 0)))
def d_commonB : List D → Option W := runF 2 C_commonB
def small (a : Int) : Prop := a.natAbs < 2 ^ 8000
theorem gMu_small {a b : Int} (ha : small a) (hb : small b) : gMu (a.natAbs, b.natAbs) < 1048576 := by
  unfold gMu
  show (if b.natAbs = 0 then 0 else (if a.natAbs < b.natAbs then 1 else 0) + (a.natAbs * b.natAbs).log2 + 1) < 1048576
  have h : a.natAbs * b.natAbs < 2 ^ 16000 := by
    have : 2 ^ 16000 = 2 ^ 8000 * 2 ^ 8000 := by rw [← Nat.pow_add]
    rw [this]
    exact Nat.mul_lt_mul'' ha hb
  have := log2_lt h (by omega)
  split
  · omega
  · split <;> omega
theorem common_ok {a b : Int} (ha : small a) (hb : small b) : d_common [.int a, .int b] = some (.d (.int (Int.gcd a b))) := by
  have h := gcd_loop (F := sPar 0 1 (xVar 1) (xMod (x1 wToI (xRd 0)) (xRd 1))) (fun x y hy => by
    simp [gEnc, fmod_nat, show ¬ y = 0 by omega]) a.natAbs b.natAbs 1048576 (gMu_small ha hb)
  simp only [gEnc] at h
  unfold d_common C_common
  simp [h, Int.gcd]
theorem commonB_ok {a b : Int} (ha : small a) (hb : small b) : d_commonB [.int a, .int b] = some (.d (.int (Int.gcd a b))) := by
  have h := gcd_loop (F := sPar 0 1 (xVar 1) (xMod (xRd 0) (xRd 1))) (fun x y hy => by
    simp [gEnc, fmod_nat, show ¬ y = 0 by omega]) a.natAbs b.natAbs 1048576 (gMu_small ha hb)
  simp only [gEnc] at h
  unfold d_commonB C_commonB
  simp [h, Int.gcd]
def C_ratio : SF := sSeq (sSet 2 (xCall 2 d_common (aC (xVar 0) (aC (xVar 1) (aN))))) (sSeq (sIf (tLt (xRd 1) (xC (.int 0))) (sSet 2 (x1 wNeg (xRd 2))) (sNil)) (sRet (xTup (aC (xFd (xRd 0) (xRd 2)) (aC (xFd (xRd 1) (xRd 2)) (aN))))))
def d_ratio : List D → Option W := runF 3 C_ratio
def rat (a b : Int) : D := .tuple [.int (a / (Int.gcd a b : Int)), .int (b / (Int.gcd a b : Int))]
theorem fdOk_gcd {a b : Int} (hb : small b) (h : 0 < b) (c : Int) : fdOk c (Int.gcd a b) = true := by
  have hp : 0 < Int.gcd a b := Int.gcd_pos_of_ne_zero_right a (by omega)
  refine fdOk_pos (by omega) ?_
  have h1 : Int.gcd a b ≤ b.natAbs := Nat.gcd_le_right _ (by omega)
  have h2 : b.natAbs < 2 ^ 8000 := hb
  have h3 : (2 : Nat) ^ 8000 ≤ 2 ^ 9000 := Nat.pow_le_pow_right (by omega) (by omega)
  show Int.gcd a b < 2 ^ 9000
  omega
theorem ratio_ok {a b : Int} (ha : small a) (hb : small b) (h : 0 < b) : d_ratio [.int a, .int b] = some (.d (rat a b)) := by
  unfold d_ratio C_ratio rat
  have hl : ¬ b < 0 := by omega
  simp [common_ok ha hb, hl, fdOk_gcd hb h, Int.fdiv_eq_ediv_of_nonneg]
theorem rat_cmp {a b c d : Int} (hb : 0 < b) : (a / (Int.gcd a b : Int)) * d ≤ c * (b / (Int.gcd a b : Int)) ↔ a * d ≤ c * b := by
  have hp : (0 : Int) < Int.gcd a b := by
    have := Int.gcd_pos_of_ne_zero_right a (b := b) (by omega)
    omega
  obtain ⟨x, hx⟩ := Int.gcd_dvd_left (a := a) (b := b)
  obtain ⟨y, hy⟩ := Int.gcd_dvd_right (a := a) (b := b)
  generalize hg : (Int.gcd a b : Int) = g at *
  subst hx hy
  rw [Int.mul_ediv_cancel_left _ (by omega), Int.mul_ediv_cancel_left _ (by omega)]
  rw [Int.mul_assoc, show c * (g * y) = g * (c * y) by rw [← Int.mul_assoc, Int.mul_comm c g, Int.mul_assoc]]
  exact ⟨fun h => Int.mul_le_mul_of_nonneg_left h (by omega), fun h => Int.le_of_mul_le_mul_left h hp⟩
theorem rat_zero {b : Int} (hb : 0 < b) : rat 0 b = .tuple [.int 0, .int 1] := by
  unfold rat
  rw [Int.gcd_zero_left]
  have : (b.natAbs : Int) = b := by omega
  rw [this, Int.ediv_self (by omega)]
  simp
theorem rat_one : rat 1 1 = .tuple [.int 1, .int 1] := by simp [rat]
@[simp] theorem flat_rat (a b : Int) : flatD 12 (rat a b) = true := by simp [rat, flatD]
end EV

set_option maxRecDepth 100000
namespace L
open PySem L2 EV
def topS (i : Nat) : Stmt := PySem.Challenge.pw_sealskept_k50_whole_audits.main.body.getD i (.Pass ⟨0, 0, 0, 0⟩)
structure Nb (mg : Str → Option Value) : Prop where
  b_abs : mg "abs" = none
  b_all : mg "all" = none
  b_bool : mg "bool" = none
  b_enumerate : mg "enumerate" = none
  b_int : mg "int" = none
  b_isinstance : mg "isinstance" = none
  b_len : mg "len" = none
  b_max : mg "max" = none
  b_min : mg "min" = none
  b_range : mg "range" = none
  b_str : mg "str" = none
  b_tuple : mg "tuple" = none
  b_zip : mg "zip" = none
abbrev s_l_mixed : Stmt := topS 10
abbrev N_l_mixed : List Str := ["script", "k", "cell", "first", "second", "third"]
theorem sc_l_mixed : FnScope N_l_mixed ["script", "k"] (defScope s_l_mixed) := ⟨rfl, rfl, rfl, by decide +kernel, rfl, by decide +kernel, by decide +kernel⟩
def B_l_mixed : SF := sSeq (sSet 2 (xC (.int 0))) (sSeq (sIf (tGt (x1 wLen (xRd 0)) (xC (.int 0))) (sSet 2 (x2 wIx (xRd 0) (xMod (xRd 1) (x1 wLen (xRd 0))))) (sNil)) (sSeq (sSet 3 (xMod (x1 wToI (xAdd (xAdd (xMul (xRd 2) (xC (.int 48271))) (xMul (xRd 1) (xC (.int 69621)))) (xC (.int 8191)))) (xC (.int 2147483647)))) (sSeq (sSet 4 (xMod (x1 wToI (xAdd (xAdd (xMul (xRd 3) (xRd 3)) (xFd (xRd 3) (xC (.int 7)))) (xMul (xRd 1) (xC (.int 16807))))) (xC (.int 2147483629)))) (sSeq (sSet 5 (xMod (x1 wToI (xAdd (xAdd (xMul (xRd 4) (xRd 4)) (xFd (xRd 4) (xC (.int 11)))) (xC (.int 40692)))) (xC (.int 2147483563)))) (sRet (xMod (xFd (xRd 5) (xC (.int 5))) (xC (.int 1000003))))))))
def m_l_mixed : List D → Option W := runF 6 B_l_mixed
abbrev s_l_row : Stmt := topS 11
abbrev N_l_row : List Str := ["script", "many", "big", "row", "k"]
theorem sc_l_row : FnScope N_l_row ["script", "many"] (defScope s_l_row) := ⟨rfl, rfl, rfl, by decide +kernel, rfl, by decide +kernel, by decide +kernel⟩
def B_l_row : SF := sSeq (sSet 2 (xC (.int 0))) (sSeq (sIf (tA (tGt (x1 wLen (xRd 0)) (xC (.int 0))) (tGe (x2 wIx (xRd 0) (xC (.int 0))) (xPow (xC (.int 10)) (xC (.int 18))))) (sSet 2 (x2 wIx (xRd 0) (xC (.int 0)))) (sNil)) (sSeq (sSet 3 (xLst (aN))) (sSeq (sKill [2, 4] (sFor (iR1 (xRd 1)) (gN 4) (sKill [4] (sIf (tGt (xRd 2) (xC (.int 0))) (sSeq (sApp 3 (xMod (x1 wToI (xRd 2)) (xC (.int 1000)))) (sSet 2 (xFd (xRd 2) (xC (.int 1000))))) (sApp 3 (xCall 2 m_l_mixed (aC (xVar 0) (aC (xVar 4) (aN))))))))) (sRet (xRd 3)))))
def m_l_row : List D → Option W := runF 5 B_l_row
abbrev s_l_common : Stmt := topS 14
abbrev N_l_common : List Str := ["first", "second"]
theorem sc_l_common : FnScope N_l_common ["first", "second"] (defScope s_l_common) := ⟨rfl, rfl, rfl, by decide +kernel, rfl, by decide +kernel, by decide +kernel⟩
def B_l_common : SF := sSeq (sPar 0 1 (x1 wAbs (xRd 0)) (x1 wAbs (xRd 1))) (sSeq (sKill [1] (whileL (tGt (xRd 1) (xC (.int 0))) (sPar 0 1 (xVar 1) (xMod (x1 wToI (xRd 0)) (xRd 1))) 1048576)) (sRet (xVar 0)))
def m_l_common : List D → Option W := runF 2 B_l_common
abbrev s_l_ratio : Stmt := topS 15
abbrev N_l_ratio : List Str := ["a", "b", "shared"]
theorem sc_l_ratio : FnScope N_l_ratio ["a", "b"] (defScope s_l_ratio) := ⟨rfl, rfl, rfl, by decide +kernel, rfl, by decide +kernel, by decide +kernel⟩
def B_l_ratio : SF := sSeq (sSet 2 (xCall 2 m_l_common (aC (xVar 0) (aC (xVar 1) (aN))))) (sSeq (sIf (tLt (xRd 1) (xC (.int 0))) (sSet 2 (x1 wNeg (xRd 2))) (sNil)) (sRet (xTup (aC (xFd (xRd 0) (xRd 2)) (aC (xFd (xRd 1) (xRd 2)) (aN))))))
def m_l_ratio : List D → Option W := runF 3 B_l_ratio
abbrev s_l_chance : Stmt := topS 16
abbrev N_l_chance : List Str := ["n", "truly", "draws", "top", "under", "k"]
theorem sc_l_chance : FnScope N_l_chance ["n", "truly", "draws"] (defScope s_l_chance) := ⟨rfl, rfl, rfl, by decide +kernel, rfl, by decide +kernel, by decide +kernel⟩
def B_l_chance : SF := sSeq (sAsg (xTup (aC (xC (.int 1)) (aC (xC (.int 1)) (aN)))) (gT 2 (gsC (gN 3) (gsC (gN 4) (gsN))))) (sSeq (sKill [5] (sFor (iR1 (xRd 2)) (gN 5) (sKill [5] (sPar 3 4 (xMul (xRd 3) (x2 wMax2 (xC (.int 0)) (xSub (xRd 1) (xRd 5)))) (xMul (xRd 4) (xSub (xRd 0) (xRd 5))))))) (sRet (xCall 2 m_l_ratio (aC (xVar 3) (aC (xVar 4) (aN))))))
def m_l_chance : List D → Option W := runF 6 B_l_chance
abbrev s_l_stop : Stmt := topS 17
abbrev N_l_stop : List Str := ["first", "second", "limit", "ballots", "draws", "chance"]
theorem sc_l_stop : FnScope N_l_stop ["first", "second", "limit"] (defScope s_l_stop) := ⟨rfl, rfl, rfl, by decide +kernel, rfl, by decide +kernel, by decide +kernel⟩
def B_l_stop : SF := sSeq (sSet 3 (xAdd (xRd 0) (xRd 1))) (sSeq (sKill [4, 5] (sFor (iR1 (xAdd (xRd 3) (xC (.int 1)))) (gN 4) (sKill [4, 5] (sFrz 3 (sSeq (sSet 5 (xCall 3 m_l_chance (aC (xVar 3) (aC (xFd (xRd 3) (xC (.int 2))) (aC (xVar 4) (aN)))))) (sIf (tLe (xMul (x2 wIx (xRd 5) (xC (.int 0))) (x2 wIx (xRd 2) (xC (.int 1)))) (xMul (x2 wIx (xRd 2) (xC (.int 0))) (x2 wIx (xRd 5) (xC (.int 1))))) (sRet (xVar 4)) (sNil))))))) (sRet (xC .none)))
def m_l_stop : List D → Option W := runF 6 B_l_stop
abbrev s_l_reached : Stmt := topS 18
abbrev N_l_reached : List Str := ["limit", "first", "second", "plans", "top", "under", "k"]
theorem sc_l_reached : FnScope N_l_reached ["limit", "first", "second", "plans"] (defScope s_l_reached) := ⟨rfl, rfl, rfl, by decide +kernel, rfl, by decide +kernel, by decide +kernel⟩
def B_l_reached : SF := sSeq (sAsg (xTup (aC (xC (.int 1)) (aC (xC (.int 1)) (aN)))) (gT 2 (gsC (gN 4) (gsC (gN 5) (gsN))))) (sSeq (sKill [4, 5, 6] (sFor (iR1 (x1 wLen (xRd 3))) (gN 6) (sKill [6] (sSeq (sPar 4 5 (xMul (xMul (xRd 4) (xC (.int 2))) (x2 wIx (xTup (aC (xVar 1) (aC (xVar 2) (aN)))) (x2 wIx (xRd 3) (xRd 6)))) (xMul (xRd 5) (xAdd (xRd 1) (xRd 2)))) (sIf (tGe (xMul (xRd 4) (x2 wIx (xRd 0) (xC (.int 0)))) (xMul (xRd 5) (x2 wIx (xRd 0) (xC (.int 1))))) (sRet (xAdd (xRd 6) (xC (.int 1)))) (sNil)))))) (sRet (xC .none)))
def m_l_reached : List D → Option W := runF 7 B_l_reached
abbrev s_l_missed : Stmt := topS 19
abbrev N_l_missed : List Str := ["limit", "first", "second", "n", "rows", "turn", "met", "one"]
theorem sc_l_missed : FnScope N_l_missed ["limit", "first", "second", "n"] (defScope s_l_missed) := ⟨rfl, rfl, rfl, by decide +kernel, rfl, by decide +kernel, by decide +kernel⟩
def B_l_missed : SF := sSeq (sSet 4 (xLst (aC (xTup (aN)) (aN)))) (sSeq (sKill [5] (sFor (iR1 (xRd 3)) (gN 5) (sKill [5] (sSet 4 (xAdd (xLc [7] (iB (xRd 4)) (gN 7) (pY) (xAdd (xRd 7) (xTup (aC (xC (.int 0)) (aN))))) (xLc [7] (iB (xRd 4)) (gN 7) (pY) (xAdd (xRd 7) (xTup (aC (xC (.int 1)) (aN)))))))))) (sSeq (sSet 6 (x1 wLen (xLc [7] (iB (xRd 4)) (gN 7) (tIsNot (xCall 4 m_l_reached (aC (xVar 0) (aC (xVar 1) (aC (xVar 2) (aC (xVar 7) (aN)))))) (xC .none)) (xVar 7)))) (sRet (xCall 2 m_l_ratio (aC (xVar 6) (aC (x1 wLen (xRd 4)) (aN)))))))
def m_l_missed : List D → Option W := runF 8 B_l_missed
abbrev s_l_is_int : Stmt := topS 12
abbrev N_l_is_int : List Str := ["value"]
theorem sc_l_is_int : FnScope N_l_is_int ["value"] (defScope s_l_is_int) := ⟨rfl, rfl, rfl, by decide +kernel, rfl, by decide +kernel, by decide +kernel⟩
def B_l_is_int : SF := sRet (xA (x1 (wIsi "int") (xRd 0)) (xB (tN (tV (x1 (wIsi "bool") (xRd 0))))))
def m_l_is_int : List D → Option W := runF 1 B_l_is_int
abbrev s_l_like : Stmt := topS 13
abbrev N_l_like : List Str := ["value", "due", "k"]
theorem sc_l_like : FnScope N_l_like ["value", "due"] (defScope s_l_like) := ⟨rfl, rfl, rfl, by decide +kernel, rfl, by decide +kernel, by decide +kernel⟩
def B_l_like (φ : List D → Option W) : SF := sSeq (sIf (tIs (xRd 1) (xC .none)) (sRet (xB (tIs (xRd 0) (xC .none)))) (sNil)) (sSeq (sIf (tV (x1 (wIsi "bool") (xRd 1))) (sRet (xA (x1 (wIsi "bool") (xRd 0)) (xB (tEq (xRd 0) (xRd 1))))) (sNil)) (sSeq (sIf (tV (x1 (wIsi "tuple") (xRd 1))) (sSeq (sIf (tO (tN (tV (x1 (wIsi "tuple") (xRd 0)))) (tNe (x1 wLen (xRd 0)) (x1 wLen (xRd 1)))) (sRet (xC (.bool false))) (sNil)) (sRet (x1 wAll (xLc [2] (iR1 (x1 wLen (xRd 1))) (gN 2) (pY) (xCall 2 φ (aC (x2 wIx (xRd 0) (xRd 2)) (aC (x2 wIx (xRd 1) (xRd 2)) (aN)))))))) (sNil)) (sSeq (sIf (tV (x1 (wIsi "str") (xRd 1))) (sRet (xA (x1 (wIsi "str") (xRd 0)) (xB (tEq (xRd 0) (xRd 1))))) (sNil)) (sRet (xA (xCall 1 m_l_is_int (aC (xVar 0) (aN))) (xB (tEq (xRd 0) (xRd 1))))))))
def mr_l_like : Nat → List D → Option W
  | 0 => fun _ => none
  | n + 1 => runF 3 (B_l_like (mr_l_like n))
def m_l_like : List D → Option W := mr_l_like 12
abbrev s_audit_stop : Stmt := topS 4
abbrev N_audit_stop : List Str := ["first", "second", "limit", "ballots", "truly", "above", "below", "draws"]
theorem sc_audit_stop : FnScope N_audit_stop ["first", "second", "limit"] (defScope s_audit_stop) := ⟨rfl, rfl, rfl, by decide +kernel, rfl, by decide +kernel, by decide +kernel⟩
def B_audit_stop : SF := sSeq (sSet 3 (xAdd (xRd 0) (xRd 1))) (sSeq (sSet 4 (xFd (xRd 3) (xC (.int 2)))) (sSeq (sSet 5 (xC (.int 1))) (sSeq (sSet 6 (xC (.int 1))) (sSeq (sSet 7 (xC (.int 0))) (sSeq (sKill [5, 6] (whileL (tGt (xMul (xRd 5) (x2 wIx (xRd 2) (xC (.int 1)))) (xMul (x2 wIx (xRd 2) (xC (.int 0))) (xRd 6))) (sSeq (sIf (tGe (xRd 7) (xRd 3)) (sRet (xC .none)) (sNil)) (sSeq (sSet 5 (xMul (xRd 5) (xSub (xRd 4) (xRd 7)))) (sSeq (sSet 6 (xMul (xRd 6) (xSub (xRd 3) (xRd 7)))) (sAug 7 wAddA (xC (.int 1)))))) 1048576)) (sRet (xVar 7)))))))
def m_audit_stop : List D → Option W := runF 8 B_audit_stop
abbrev s_divisor : Stmt := topS 1
abbrev N_divisor : List Str := ["first", "second"]
theorem sc_divisor : FnScope N_divisor ["first", "second"] (defScope s_divisor) := ⟨rfl, rfl, rfl, by decide +kernel, rfl, by decide +kernel, by decide +kernel⟩
def B_divisor : SF := sSeq (sPar 0 1 (x1 wAbs (xRd 0)) (x1 wAbs (xRd 1))) (sSeq (sKill [1] (whileL (tGt (xRd 1) (xC (.int 0))) (sPar 0 1 (xVar 1) (xMod (xRd 0) (xRd 1))) 1048576)) (sRet (xVar 0)))
def m_divisor : List D → Option W := runF 2 B_divisor
abbrev s_lowest : Stmt := topS 2
abbrev N_lowest : List Str := ["a", "b", "common"]
theorem sc_lowest : FnScope N_lowest ["a", "b"] (defScope s_lowest) := ⟨rfl, rfl, rfl, by decide +kernel, rfl, by decide +kernel, by decide +kernel⟩
def B_lowest : SF := sSeq (sSet 2 (xIf (tGt (xRd 1) (xC (.int 0))) (xCall 2 m_divisor (aC (xVar 0) (aC (xVar 1) (aN)))) (x1 wNeg (xCall 2 m_divisor (aC (xVar 0) (aC (xVar 1) (aN))))))) (sRet (xTup (aC (xFd (xRd 0) (xRd 2)) (aC (xFd (xRd 1) (xRd 2)) (aN)))))
def m_lowest : List D → Option W := runF 3 B_lowest
abbrev s_audit_chance : Stmt := topS 5
abbrev N_audit_chance : List Str := ["n", "truly", "draws", "above", "below", "drawn"]
theorem sc_audit_chance : FnScope N_audit_chance ["n", "truly", "draws"] (defScope s_audit_chance) := ⟨rfl, rfl, rfl, by decide +kernel, rfl, by decide +kernel, by decide +kernel⟩
def B_audit_chance : SF := sSeq (sIf (tGt (xRd 2) (xRd 1)) (sRet (xTup (aC (xC (.int 0)) (aC (xC (.int 1)) (aN))))) (sNil)) (sSeq (sSet 3 (xC (.int 1))) (sSeq (sSet 4 (xC (.int 1))) (sSeq (sKill [5] (sFor (iR1 (xRd 2)) (gN 5) (sKill [5] (sSeq (sSet 3 (xMul (xRd 3) (xSub (xRd 1) (xRd 5)))) (sSet 4 (xMul (xRd 4) (xSub (xRd 0) (xRd 5)))))))) (sRet (xCall 2 m_lowest (aC (xVar 3) (aC (xVar 4) (aN))))))))
def m_audit_chance : List D → Option W := runF 6 B_audit_chance
abbrev s_is_reached : Stmt := topS 6
abbrev N_is_reached : List Str := ["limit", "above", "below"]
theorem sc_is_reached : FnScope N_is_reached ["limit", "above", "below"] (defScope s_is_reached) := ⟨rfl, rfl, rfl, by decide +kernel, rfl, by decide +kernel, by decide +kernel⟩
def B_is_reached : SF := sRet (xB (tGe (xMul (xRd 1) (x2 wIx (xRd 0) (xC (.int 0)))) (xMul (xRd 2) (x2 wIx (xRd 0) (xC (.int 1))))))
def m_is_reached : List D → Option W := runF 3 B_is_reached
abbrev s_audit_miss : Stmt := topS 8
abbrev N_audit_miss : List Str := ["limit", "first", "second", "n", "ways", "above", "below", "found", "_", "place", "product", "one", "other"]
theorem sc_audit_miss : FnScope N_audit_miss ["limit", "first", "second", "n"] (defScope s_audit_miss) := ⟨rfl, rfl, rfl, by decide +kernel, rfl, by decide +kernel, by decide +kernel⟩
def B_audit_miss : SF := sSeq (sIf (tV (xCall 3 m_is_reached (aC (xVar 0) (aC (xC (.int 1)) (aC (xC (.int 1)) (aN)))))) (sRet (xTup (aC (xC (.int 1)) (aC (xC (.int 1)) (aN))))) (sNil)) (sSeq (sSet 4 (xLst (aC (xC (.int 1)) (aN)))) (sSeq (sSet 5 (xLst (aC (xC (.int 1)) (aN)))) (sSeq (sSet 6 (xC (.int 1))) (sSeq (sSet 7 (xC (.int 0))) (sSeq (sKill [4, 5, 6, 8, 9, 10] (sFor (iR1 (xRd 3)) (gN 8) (sKill [8, 9, 10] (sSeq (sSet 4 (xLc [11, 12] (iZp (xAdd (xRd 4) (xLst (aC (xC (.int 0)) (aN)))) (xAdd (xLst (aC (xC (.int 0)) (aN))) (xRd 4))) (gT 2 (gsC (gN 11) (gsC (gN 12) (gsN)))) (pY) (xAdd (xRd 11) (xRd 12)))) (sSeq (sSet 5 (xAdd (xLc [10] (iB (xRd 5)) (gN 10) (pY) (xMul (xMul (xRd 10) (xC (.int 2))) (xRd 1))) (xLst (aC (xMul (xMul (x2 wIx (xRd 5) (x1 wNeg (xC (.int 1)))) (xC (.int 2))) (xRd 2)) (aN))))) (sSeq (sSet 6 (xMul (xRd 6) (xAdd (xRd 1) (xRd 2)))) (sSeq (sSet 7 (xMul (xRd 7) (xC (.int 2)))) (sFrz 5 (sKill [9, 10] (sFor (iEn (xVar 5)) (gT 2 (gsC (gN 9) (gsC (gN 10) (gsN)))) (sKill [9, 10] (sIf (tV (xCall 3 m_is_reached (aC (xVar 0) (aC (xVar 10) (aC (xVar 6) (aN)))))) (sSeq (sAug 7 wAddA (x2 wIx (xRd 4) (xRd 9))) (sStore 4 (xC (.int 0)) (xRd 9))) (sNil))))))))))))) (sRet (xCall 2 m_lowest (aC (xVar 7) (aC (xShl (xC (.int 1)) (xRd 3)) (aN))))))))))
def m_audit_miss : List D → Option W := runF 13 B_audit_miss
abbrev s_audit_row : Stmt := topS 7
abbrev N_audit_row : List Str := ["limit", "first", "second", "row", "above", "below", "place", "plan"]
theorem sc_audit_row : FnScope N_audit_row ["limit", "first", "second", "row"] (defScope s_audit_row) := ⟨rfl, rfl, rfl, by decide +kernel, rfl, by decide +kernel, by decide +kernel⟩
def B_audit_row : SF := sSeq (sSet 4 (xC (.int 1))) (sSeq (sSet 5 (xC (.int 1))) (sSeq (sIf (tV (xCall 3 m_is_reached (aC (xVar 0) (aC (xVar 4) (aC (xVar 5) (aN)))))) (sRet (xC (.int 0))) (sNil)) (sSeq (sKill [4, 5, 6, 7] (sFor (iEn (xVar 3)) (gT 2 (gsC (gN 6) (gsC (gN 7) (gsN)))) (sKill [6, 7] (sSeq (sSet 4 (xMul (xMul (xRd 4) (xC (.int 2))) (xIf (tEq (xRd 7) (xC (.int 1))) (xVar 2) (xVar 1)))) (sSeq (sSet 5 (xMul (xRd 5) (xAdd (xRd 1) (xRd 2)))) (sIf (tV (xCall 3 m_is_reached (aC (xVar 0) (aC (xVar 4) (aC (xVar 5) (aN)))))) (sRet (xAdd (xRd 6) (xC (.int 1)))) (sNil))))))) (sRet (xC .none)))))
def m_audit_row : List D → Option W := runF 8 B_audit_row
abbrev s_law : Stmt := topS 20
abbrev N_law : List Str := ["script", "row", "first", "second", "kind", "under", "limit", "stop", "half", "draws", "chance", "n", "truly", "many", "part", "plans", "told", "size", "due", "miss", "k"]
theorem sc_law : FnScope N_law ["script"] (defScope s_law) := ⟨rfl, rfl, rfl, by decide +kernel, rfl, by decide +kernel, by decide +kernel⟩
def B_law : SF := sSeq (sSet 1 (xCall 2 m_l_row (aC (xVar 0) (aC (xC (.int 30)) (aN))))) (sSeq (sPar 2 3 (xAdd (xC (.int 1)) (xMod (x1 wToI (x2 wIx (xRd 1) (xC (.int 0)))) (xC (.int 60)))) (xMod (x1 wToI (x2 wIx (xRd 1) (xC (.int 1)))) (xC (.int 60)))) (sSeq (sSet 4 (xMod (x1 wToI (x2 wIx (xRd 1) (xC (.int 2)))) (xC (.int 6)))) (sSeq (sIf (tEq (xRd 4) (xC (.int 0))) (sSet 3 (xC (.int 0))) (sNil)) (sSeq (sIf (tEq (xRd 4) (xC (.int 1))) (sSet 3 (xVar 2)) (sNil)) (sSeq (sIf (tGt (xRd 4) (xC (.int 3))) (sSet 3 (xMod (x1 wToI (x2 wIx (xRd 1) (xC (.int 1)))) (xAdd (xRd 2) (xC (.int 1))))) (sNil)) (sSeq (sSet 5 (xAdd (xC (.int 2)) (xMod (x1 wToI (x2 wIx (xRd 1) (xC (.int 3)))) (xC (.int 40))))) (sSeq (sSet 6 (xCall 2 m_l_ratio (aC (xAdd (xC (.int 1)) (xMod (x1 wToI (x2 wIx (xRd 1) (xC (.int 4)))) (xC (.int 3)))) (aC (xAdd (xRd 5) (xC (.int 2))) (aN))))) (sSeq (sSet 7 (xCall 3 m_l_stop (aC (xVar 2) (aC (xVar 3) (aC (xVar 6) (aN)))))) (sSeq (sIf (tO (tN (tV (xCall 2 m_l_like (aC (xCall 3 m_audit_stop (aC (xVar 2) (aC (xVar 3) (aC (xVar 6) (aN))))) (aC (xVar 7) (aN)))))) (tIsNot (xCall 3 m_audit_stop (aC (xC (.int 0)) (aC (xC (.int 0)) (aC (xVar 6) (aN))))) (xC .none))) (sRet (xC (.bool false))) (sNil)) (sSeq (sSet 8 (xFd (xAdd (xRd 2) (xRd 3)) (xC (.int 2)))) (sSeq (sKill [9, 10] (sFor (iS (xTup (aC (xSub (xRd 7) (xC (.int 1))) (aC (xVar 7) (aN))))) (gN 9) (sKill [9, 10] (sIf (tGe (xRd 9) (xC (.int 0))) (sSeq (sSet 10 (xCall 3 m_audit_chance (aC (xAdd (xRd 2) (xRd 3)) (aC (xVar 8) (aC (xVar 9) (aN)))))) (sSeq (sIf (tN (tV (xCall 2 m_l_like (aC (xVar 10) (aC (xCall 3 m_l_chance (aC (xAdd (xRd 2) (xRd 3)) (aC (xVar 8) (aC (xVar 9) (aN))))) (aN)))))) (sRet (xC (.bool false))) (sNil)) (sIf (tNe (xB (tLe (xMul (x2 wIx (xRd 10) (xC (.int 0))) (x2 wIx (xRd 6) (xC (.int 1)))) (xMul (x2 wIx (xRd 6) (xC (.int 0))) (x2 wIx (xRd 10) (xC (.int 1)))))) (xB (tEq (xRd 9) (xRd 7)))) (sRet (xC (.bool false))) (sNil)))) (sNil))))) (sSeq (sSet 11 (xAdd (xC (.int 1)) (xMod (x1 wToI (x2 wIx (xRd 1) (xC (.int 5)))) (xC (.int 40))))) (sSeq (sPar 12 9 (xMod (x1 wToI (x2 wIx (xRd 1) (xC (.int 6)))) (xAdd (xRd 11) (xC (.int 1)))) (xMod (x1 wToI (x2 wIx (xRd 1) (xC (.int 7)))) (xAdd (xRd 11) (xC (.int 1))))) (sSeq (sKill [13] (sFor (iS (xTup (aC (xVar 9) (aC (xVar 12) (aC (x2 wMin2 (xRd 11) (xAdd (xRd 12) (xC (.int 1)))) (aN)))))) (gN 13) (sKill [13] (sIf (tN (tV (xCall 2 m_l_like (aC (xCall 3 m_audit_chance (aC (xVar 11) (aC (xVar 12) (aC (xVar 13) (aN))))) (aC (xCall 3 m_l_chance (aC (xVar 11) (aC (xVar 12) (aC (xVar 13) (aN))))) (aN)))))) (sRet (xC (.bool false))) (sNil))))) (sSeq (sSet 14 (xAdd (xC (.int 1)) (xMod (x1 wToI (x2 wIx (xRd 1) (xC (.int 8)))) (xC (.int 4))))) (sSeq (sSet 15 (x1 wToT (xLc [20] (iR1 (xMod (x1 wToI (x2 wIx (xRd 1) (xC (.int 21)))) (xC (.int 13)))) (gN 20) (pY) (x1 wToI (xB (tEq (xMod (x1 wToI (x2 wIx (xRd 1) (xAdd (xC (.int 9)) (xRd 20)))) (xAdd (xRd 14) (xC (.int 1)))) (xC (.int 0)))))))) (sSeq (sKill [16, 17, 18, 19] (sFor (iS (xTup (aC (xTup (aC (xVar 2) (aC (xVar 3) (aN)))) (aC (xTup (aC (xAdd (xRd 3) (xC (.int 1))) (aC (xVar 2) (aN)))) (aC (xTup (aC (xVar 14) (aC (xC (.int 1)) (aN)))) (aN)))))) (gN 16) (sKill [16, 17, 18, 19] (sSeq (sKill [17, 18] (sFor (iR1 (xAdd (x1 wLen (xRd 15)) (xC (.int 1)))) (gN 17) (sKill [17, 18] (sSeq (sSet 18 (xCall 4 m_l_reached (aC (xVar 6) (aC (x2 wIx (xRd 16) (xC (.int 0))) (aC (x2 wIx (xRd 16) (xC (.int 1))) (aC (xSl (xRd 15) (pN) (pS (xRd 17))) (aN))))))) (sIf (tN (tV (xCall 2 m_l_like (aC (xCall 4 m_audit_row (aC (xVar 6) (aC (x2 wIx (xRd 16) (xC (.int 0))) (aC (x2 wIx (xRd 16) (xC (.int 1))) (aC (xSl (xRd 15) (pN) (pS (xRd 17))) (aN)))))) (aC (xVar 18) (aN)))))) (sRet (xC (.bool false))) (sNil)))))) (sSeq (sPar 19 18 (xCall 4 m_audit_miss (aC (xVar 6) (aC (x2 wIx (xRd 16) (xC (.int 0))) (aC (x2 wIx (xRd 16) (xC (.int 1))) (aC (xMod (x1 wToI (x2 wIx (xRd 1) (xC (.int 22)))) (xC (.int 8))) (aN)))))) (xC .none)) (sSeq (sSet 18 (xCall 4 m_l_missed (aC (xVar 6) (aC (x2 wIx (xRd 16) (xC (.int 0))) (aC (x2 wIx (xRd 16) (xC (.int 1))) (aC (xMod (x1 wToI (x2 wIx (xRd 1) (xC (.int 22)))) (xC (.int 8))) (aN))))))) (sIf (tO (tN (tV (xCall 2 m_l_like (aC (xVar 19) (aC (xVar 18) (aN)))))) (tGt (xMul (x2 wIx (xRd 19) (xC (.int 0))) (x2 wIx (xRd 6) (xC (.int 1)))) (xMul (x2 wIx (xRd 6) (xC (.int 0))) (x2 wIx (xRd 19) (xC (.int 1)))))) (sRet (xC (.bool false))) (sNil)))))))) (sRet (xC (.bool true))))))))))))))))))))
def m_law : List D → Option W := runF 21 B_law
section
variable {P : Program} {w : World} {K : PySem.W.Frag} {mg : Str → Option Value} {base : Heap}
set_option maxHeartbeats 4000000
theorem ok_l_mixed (Z : Nb mg)  (F : Fn0 K mg "_law_mixed" s_l_mixed ["script", "k"]) : Def P w K mg base 1 "_law_mixed" ["script", "k"] m_l_mixed :=
  def_ok F sc_l_mixed fun f _ cdv A outer s H E hr => (es_cons (es_set (i := 2) sc_l_mixed.nd rfl (Or.inl rfl) (ev_int)) (es_cons (es_if (et_gt (be (ev_len (by rfl) Z.b_len (ev_rd (i := 0) rfl (Or.inl rfl)))) (be (ev_int))) (es_one (es_set (i := 2) sc_l_mixed.nd rfl (Or.inl rfl) (ev_ix (ev_rd (i := 0) rfl (Or.inl rfl)) (be (ev_mod (ev_rd (i := 1) rfl (Or.inl rfl)) (be (ev_len (by rfl) Z.b_len (ev_rd (i := 0) rfl (Or.inl rfl)))))) (fun _ _ => rfl)))) (es_nil)) (es_cons (es_set (i := 3) sc_l_mixed.nd rfl (Or.inl rfl) (ev_mod (be (ev_toI (by rfl) Z.b_int (be (ev_add (be (ev_add (be (ev_mul (ev_rd (i := 2) rfl (Or.inl rfl)) (be (ev_int)))) (be (ev_mul (ev_rd (i := 1) rfl (Or.inl rfl)) (be (ev_int)))))) (be (ev_int)))))) (be (ev_int)))) (es_cons (es_set (i := 4) sc_l_mixed.nd rfl (Or.inl rfl) (ev_mod (be (ev_toI (by rfl) Z.b_int (be (ev_add (be (ev_add (be (ev_mul (ev_rd (i := 3) rfl (Or.inl rfl)) (ev_rd (i := 3) rfl (Or.inl rfl)))) (be (ev_fdiv (ev_rd (i := 3) rfl (Or.inl rfl)) (be (ev_int)))))) (be (ev_mul (ev_rd (i := 1) rfl (Or.inl rfl)) (be (ev_int)))))))) (be (ev_int)))) (es_cons (es_set (i := 5) sc_l_mixed.nd rfl (Or.inl rfl) (ev_mod (be (ev_toI (by rfl) Z.b_int (be (ev_add (be (ev_add (be (ev_mul (ev_rd (i := 4) rfl (Or.inl rfl)) (ev_rd (i := 4) rfl (Or.inl rfl)))) (be (ev_fdiv (ev_rd (i := 4) rfl (Or.inl rfl)) (be (ev_int)))))) (be (ev_int)))))) (be (ev_int)))) (es_one (es_ret (ev_mod (be (ev_fdiv (ev_rd (i := 5) rfl (Or.inl rfl)) (be (ev_int)))) (be (ev_int))))))))))
theorem ok_l_row (Z : Nb mg) (D_l_mixed : Def P w K mg base 1 "_law_mixed" ["script", "k"] m_l_mixed) (F : Fn0 K mg "_law_row" s_l_row ["script", "many"]) : Def P w K mg base 2 "_law_row" ["script", "many"] m_l_row :=
  def_ok F sc_l_row fun f _ cdv A outer s H E hr => (es_cons (es_set (i := 2) sc_l_row.nd rfl (Or.inl rfl) (ev_int)) (es_cons (es_if (PW.pt (ew_and (et_gt (be (ev_len (by rfl) Z.b_len (ev_rd (i := 0) rfl (Or.inl rfl)))) (be (ev_int))) (ew_and1 (et_ge (be (ev_ix (ev_rd (i := 0) rfl (Or.inl rfl)) (be (ev_int)) (fun _ _ => rfl))) (be (ev_pow (be (ev_int)) (be (ev_int)))))))) (es_one (es_set (i := 2) sc_l_row.nd rfl (Or.inl rfl) (ev_ix (ev_rd (i := 0) rfl (Or.inl rfl)) (be (ev_int)) (fun _ _ => rfl)))) (es_nil)) (es_cons (es_set (i := 3) sc_l_row.nd rfl (Or.inl rfl) (ev_lst (ea_nil))) (es_cons (es_kill [2, 4] (es_for PassesOwn.never rfl (ei_range1 (by rfl) Z.b_range (ev_rd (i := 1) rfl (Or.inl rfl))) (eg_name (i := 4) sc_l_row.nd rfl (Or.inl rfl)) (ess_kill [4] (es_one (es_if (et_gt (ev_rd (i := 2) rfl (Or.inl rfl)) (be (ev_int))) (es_cons (es_append (i := 3) (pv 3) (ev_mod (be (ev_toI (by rfl) Z.b_int (ev_rd (i := 2) rfl (Or.inl rfl)))) (be (ev_int)))) (es_one (es_set (i := 2) sc_l_row.nd rfl (Or.inl rfl) (ev_fdiv (ev_rd (i := 2) rfl (Or.inl rfl)) (be (ev_int)))))) (es_one (es_append (i := 3) (pv 3) (ev_callD D_l_mixed (hr.mono (by decide)) (by rfl) (ea_cons (ev_var (i := 0) rfl (Or.inl rfl)) (ea_cons (ev_var (i := 4) rfl (Or.inl rfl)) (ea_nil))))))))))) (es_one (es_retRd (i := 3) (pv 3)))))))
theorem ok_l_common (Z : Nb mg)  (F : Fn0 K mg "_law_common" s_l_common ["first", "second"]) : Def P w K mg base 1 "_law_common" ["first", "second"] m_l_common :=
  def_ok F sc_l_common fun f _ cdv A outer s H E hr => (es_cons (es_par (i := 0) (j := 1) rfl sc_l_common.nd rfl rfl (by decide) rfl rfl (ev_abs (by rfl) Z.b_abs (ev_rd (i := 0) rfl (Or.inl rfl))) (ev_abs (by rfl) Z.b_abs (ev_rd (i := 1) rfl (Or.inl rfl))) (by rfl)) (es_cons (es_kill [1] (es_while 1048576 PassesOwn.never (et_gt (ev_rd (i := 1) rfl (Or.inl rfl)) (be (ev_int))) (es_one (es_par (i := 0) (j := 1) rfl sc_l_common.nd rfl rfl (by decide) rfl rfl (ev_var (i := 1) rfl (Or.inl rfl)) (ev_mod (be (ev_toI (by rfl) Z.b_int (ev_rd (i := 0) rfl (Or.inl rfl)))) (ev_rd (i := 1) rfl (Or.inl rfl))) (by rfl))))) (es_one (es_ret (ev_var (i := 0) rfl (Or.inl rfl))))))
theorem ok_l_ratio (Z : Nb mg) (D_l_common : Def P w K mg base 1 "_law_common" ["first", "second"] m_l_common) (F : Fn0 K mg "_law_ratio" s_l_ratio ["a", "b"]) : Def P w K mg base 2 "_law_ratio" ["a", "b"] m_l_ratio :=
  def_ok F sc_l_ratio fun f _ cdv A outer s H E hr => (es_cons (es_set (i := 2) sc_l_ratio.nd rfl (Or.inl rfl) (ev_callD D_l_common (hr.mono (by decide)) (by rfl) (ea_cons (ev_var (i := 0) rfl (Or.inl rfl)) (ea_cons (ev_var (i := 1) rfl (Or.inl rfl)) (ea_nil))))) (es_cons (es_if (et_lt hr (ev_rd (i := 1) rfl (Or.inl rfl)) (be (ev_int))) (es_one (es_set (i := 2) sc_l_ratio.nd rfl (Or.inl rfl) (ev_neg (ev_rd (i := 2) rfl (Or.inl rfl))))) (es_nil)) (es_one (es_ret (ev_tup (ea_cons (ev_fdiv (ev_rd (i := 0) rfl (Or.inl rfl)) (ev_rd (i := 2) rfl (Or.inl rfl))) (ea_cons (ev_fdiv (ev_rd (i := 1) rfl (Or.inl rfl)) (ev_rd (i := 2) rfl (Or.inl rfl))) (ea_nil))))))))
theorem ok_l_chance (Z : Nb mg) (D_l_ratio : Def P w K mg base 2 "_law_ratio" ["a", "b"] m_l_ratio) (F : Fn0 K mg "_law_chance" s_l_chance ["n", "truly", "draws"]) : Def P w K mg base 3 "_law_chance" ["n", "truly", "draws"] m_l_chance :=
  def_ok F sc_l_chance fun f _ cdv A outer s H E hr => (es_cons (es_asg (ev_tup (ea_cons (ev_int) (ea_cons (ev_int) (ea_nil)))) (eg_tup rfl (egs_cons (eg_name (i := 3) sc_l_chance.nd rfl (Or.inl rfl)) (egs_cons (eg_name (i := 4) sc_l_chance.nd rfl (Or.inl rfl)) (egs_nil))))) (es_cons (es_kill [5] (es_for PassesOwn.never rfl (ei_range1 (by rfl) Z.b_range (ev_rd (i := 2) rfl (Or.inl rfl))) (eg_name (i := 5) sc_l_chance.nd rfl (Or.inl rfl)) (ess_kill [5] (es_one (es_par (i := 3) (j := 4) rfl sc_l_chance.nd rfl rfl (by decide) rfl rfl (ev_mul (ev_rd (i := 3) rfl (Or.inl rfl)) (be (ev_max2 rfl (by rfl) Z.b_max (be (ev_int)) (be (ev_sub (ev_rd (i := 1) rfl (Or.inl rfl)) (ev_rd (i := 5) rfl (Or.inl rfl))))))) (ev_mul (ev_rd (i := 4) rfl (Or.inl rfl)) (be (ev_sub (ev_rd (i := 0) rfl (Or.inl rfl)) (ev_rd (i := 5) rfl (Or.inl rfl))))) (by rfl)))))) (es_one (es_ret (ev_callD D_l_ratio (hr.mono (by decide)) (by rfl) (ea_cons (ev_var (i := 3) rfl (Or.inl rfl)) (ea_cons (ev_var (i := 4) rfl (Or.inl rfl)) (ea_nil))))))))
theorem ok_l_stop (Z : Nb mg) (D_l_chance : Def P w K mg base 3 "_law_chance" ["n", "truly", "draws"] m_l_chance) (F : Fn0 K mg "_law_stop" s_l_stop ["first", "second", "limit"]) : Def P w K mg base 4 "_law_stop" ["first", "second", "limit"] m_l_stop :=
  def_ok F sc_l_stop fun f _ cdv A outer s H E hr => (es_cons (es_set (i := 3) sc_l_stop.nd rfl (Or.inl rfl) (ev_add (ev_rd (i := 0) rfl (Or.inl rfl)) (ev_rd (i := 1) rfl (Or.inl rfl)))) (es_cons (es_kill [4, 5] (es_for PassesOwn.never rfl (ei_range1 (by rfl) Z.b_range (be (ev_add (ev_rd (i := 3) rfl (Or.inl rfl)) (be (ev_int))))) (eg_name (i := 4) sc_l_stop.nd rfl (Or.inl rfl)) (ess_kill [4, 5] (ess_frz 3 (es_cons (es_set (i := 5) sc_l_stop.nd rfl (Or.inl rfl) (ev_callD D_l_chance (hr.mono (by decide)) (by rfl) (ea_cons (ev_var (i := 3) rfl (Or.inl rfl)) (ea_cons (ev_fdiv (ev_rd (i := 3) rfl (Or.inl rfl)) (be (ev_int))) (ea_cons (ev_var (i := 4) rfl (Or.inl rfl)) (ea_nil)))))) (es_one (es_if (et_le (be (ev_mul (be (ev_ix (ev_rd (i := 5) rfl (Or.inl rfl)) (be (ev_int)) (fun _ _ => rfl))) (be (ev_ix (ev_rd (i := 2) rfl (Or.inl rfl)) (be (ev_int)) (fun _ _ => rfl))))) (be (ev_mul (be (ev_ix (ev_rd (i := 2) rfl (Or.inl rfl)) (be (ev_int)) (fun _ _ => rfl))) (be (ev_ix (ev_rd (i := 5) rfl (Or.inl rfl)) (be (ev_int)) (fun _ _ => rfl)))))) (es_one (es_ret (ev_var (i := 4) rfl (Or.inl rfl)))) (es_nil)))))))) (es_one (es_ret (ev_non)))))
theorem ok_l_reached (Z : Nb mg)  (F : Fn0 K mg "_law_reached" s_l_reached ["limit", "first", "second", "plans"]) : Def P w K mg base 1 "_law_reached" ["limit", "first", "second", "plans"] m_l_reached :=
  def_ok F sc_l_reached fun f _ cdv A outer s H E hr => (es_cons (es_asg (ev_tup (ea_cons (ev_int) (ea_cons (ev_int) (ea_nil)))) (eg_tup rfl (egs_cons (eg_name (i := 4) sc_l_reached.nd rfl (Or.inl rfl)) (egs_cons (eg_name (i := 5) sc_l_reached.nd rfl (Or.inl rfl)) (egs_nil))))) (es_cons (es_kill [4, 5, 6] (es_for PassesOwn.never rfl (ei_range1 (by rfl) Z.b_range (be (ev_len (by rfl) Z.b_len (ev_rd (i := 3) rfl (Or.inl rfl))))) (eg_name (i := 6) sc_l_reached.nd rfl (Or.inl rfl)) (ess_kill [6] (es_cons (es_par (i := 4) (j := 5) rfl sc_l_reached.nd rfl rfl (by decide) rfl rfl (ev_mul (be (ev_mul (ev_rd (i := 4) rfl (Or.inl rfl)) (be (ev_int)))) (be (ev_ix (be (ev_tup (ea_cons (ev_var (i := 1) rfl (Or.inl rfl)) (ea_cons (ev_var (i := 2) rfl (Or.inl rfl)) (ea_nil))))) (be (ev_ix (ev_rd (i := 3) rfl (Or.inl rfl)) (ev_rd (i := 6) rfl (Or.inl rfl)) (fun _ _ => rfl))) (fun _ _ => rfl)))) (ev_mul (ev_rd (i := 5) rfl (Or.inl rfl)) (be (ev_add (ev_rd (i := 1) rfl (Or.inl rfl)) (ev_rd (i := 2) rfl (Or.inl rfl))))) (by rfl)) (es_one (es_if (et_ge (be (ev_mul (ev_rd (i := 4) rfl (Or.inl rfl)) (be (ev_ix (ev_rd (i := 0) rfl (Or.inl rfl)) (be (ev_int)) (fun _ _ => rfl))))) (be (ev_mul (ev_rd (i := 5) rfl (Or.inl rfl)) (be (ev_ix (ev_rd (i := 0) rfl (Or.inl rfl)) (be (ev_int)) (fun _ _ => rfl)))))) (es_one (es_ret (ev_add (ev_rd (i := 6) rfl (Or.inl rfl)) (be (ev_int))))) (es_nil))))))) (es_one (es_ret (ev_non)))))
theorem ok_l_missed (Z : Nb mg) (D_l_ratio : Def P w K mg base 2 "_law_ratio" ["a", "b"] m_l_ratio) (D_l_reached : Def P w K mg base 1 "_law_reached" ["limit", "first", "second", "plans"] m_l_reached) (F : Fn0 K mg "_law_missed" s_l_missed ["limit", "first", "second", "n"]) : Def P w K mg base 3 "_law_missed" ["limit", "first", "second", "n"] m_l_missed :=
  def_ok F sc_l_missed fun f _ cdv A outer s H E hr => (es_cons (es_set (i := 4) sc_l_missed.nd rfl (Or.inl rfl) (ev_lst (ea_cons (ev_tup (ea_nil)) (ea_nil)))) (es_cons (es_kill [5] (es_for PassesOwn.never rfl (ei_range1 (by rfl) Z.b_range (ev_rd (i := 3) rfl (Or.inl rfl))) (eg_name (i := 5) sc_l_missed.nd rfl (Or.inl rfl)) (ess_kill [5] (es_one (es_set (i := 4) sc_l_missed.nd rfl (Or.inl rfl) (ev_add (be (ev_lc (own := [("one", 7)]) rfl sc_l_missed.nd (eic_seq (ev_rd (i := 4) rfl (Or.inl rfl))) (blkOk_by (N := N_l_missed) (sc := defScope s_l_missed) (by decide +kernel)) (by decide) (fun _ _ _ _ _ => eg_name (i := 7) sc_l_missed.nd rfl (Or.inl rfl)) (fun _ _ _ _ _ => epts_nil) (fun _ _ _ _ _ => ev_add (ev_rd (i := 7) rfl (Or.inl rfl)) (be (ev_tup (ea_cons (ev_int) (ea_nil))))))) (be (ev_lc (own := [("one", 7)]) rfl sc_l_missed.nd (eic_seq (ev_rd (i := 4) rfl (Or.inl rfl))) (blkOk_by (N := N_l_missed) (sc := defScope s_l_missed) (by decide +kernel)) (by decide) (fun _ _ _ _ _ => eg_name (i := 7) sc_l_missed.nd rfl (Or.inl rfl)) (fun _ _ _ _ _ => epts_nil) (fun _ _ _ _ _ => ev_add (ev_rd (i := 7) rfl (Or.inl rfl)) (be (ev_tup (ea_cons (ev_int) (ea_nil))))))))))))) (es_cons (es_set (i := 6) sc_l_missed.nd rfl (Or.inl rfl) (ev_len (by rfl) Z.b_len (be (ev_lc (own := [("one", 7)]) rfl sc_l_missed.nd (eic_seq (ev_rd (i := 4) rfl (Or.inl rfl))) (blkOk_by (N := N_l_missed) (sc := defScope s_l_missed) (by decide +kernel)) (by decide) (fun _ _ _ _ _ => eg_name (i := 7) sc_l_missed.nd rfl (Or.inl rfl)) (fun _ _ _ _ _ => epts_one (et_isnot (be (ev_callD D_l_reached (hr.mono (by decide)) (by rfl) (ea_cons (ev_var (i := 0) rfl (Or.inr (Or.inl rfl))) (ea_cons (ev_var (i := 1) rfl (Or.inr (Or.inl rfl))) (ea_cons (ev_var (i := 2) rfl (Or.inr (Or.inl rfl))) (ea_cons (ev_var (i := 7) rfl (Or.inl rfl)) (ea_nil))))))) (be (ev_non)))) (fun _ _ _ _ _ => ev_var (i := 7) rfl (Or.inl rfl)))))) (es_one (es_ret (ev_callD D_l_ratio (hr.mono (by decide)) (by rfl) (ea_cons (ev_var (i := 6) rfl (Or.inl rfl)) (ea_cons (ev_len (by rfl) Z.b_len (ev_rd (i := 4) rfl (Or.inl rfl))) (ea_nil)))))))))
theorem ok_l_is_int (Z : Nb mg)  (F : Fn0 K mg "_law_is_int" s_l_is_int ["value"]) : Def P w K mg base 1 "_law_is_int" ["value"] m_l_is_int :=
  def_ok F sc_l_is_int fun f _ cdv A outer s H E hr => (es_one (es_ret (ev_andV (ev_isi (T := "int") .int (by rfl) Z.b_isinstance (by rfl) Z.b_int (ev_rd (i := 0) rfl (Or.inl rfl))) (ev_one (ev_notV (be (ev_isi (T := "bool") .bool (by rfl) Z.b_isinstance (by rfl) Z.b_bool (ev_rd (i := 0) rfl (Or.inl rfl)))))))))
theorem okr_l_like (Z : Nb mg) (D_l_is_int : Def P w K mg base 1 "_law_is_int" ["value"] m_l_is_int) (F : Fn0 K mg "_law_like" s_l_like ["value", "due"]) : ∀ n : Nat, Def P w K mg base (2 + n) "_law_like" ["value", "due"] (mr_l_like n)
  | 0 => def_none F
  | n + 1 => def_ok F sc_l_like fun f _ cdv A outer s H E hr => by
    have DR := okr_l_like Z D_l_is_int F n 
    exact (es_cons (es_if (et_is (ev_rd (i := 1) rfl (Or.inr (Or.inl rfl))) (be (ev_non))) (es_one (es_ret (ev_is (ev_rd (i := 0) rfl (Or.inr (Or.inl rfl))) (be (ev_non))))) (es_nil)) (es_cons (es_if (et_val (be (ev_isi (T := "bool") .bool (by rfl) Z.b_isinstance (by rfl) Z.b_bool (ev_rd (i := 1) rfl (Or.inr (Or.inl rfl))))) (fun _ => rfl)) (es_one (es_ret (ev_andV (ev_isi (T := "bool") .bool (by rfl) Z.b_isinstance (by rfl) Z.b_bool (ev_rd (i := 0) rfl (Or.inr (Or.inl rfl)))) (ev_one (ev_eq hr (ev_rd (i := 0) rfl (Or.inr (Or.inl rfl))) (ev_rd (i := 1) rfl (Or.inr (Or.inl rfl)))))))) (es_nil)) (es_cons (es_if (et_val (be (ev_isi (T := "tuple") .tuple (by rfl) Z.b_isinstance (by rfl) Z.b_tuple (ev_rd (i := 1) rfl (Or.inr (Or.inl rfl))))) (fun _ => rfl)) (es_cons (es_if (PW.pt (ew_or (et_not (et_val (be (ev_isi (T := "tuple") .tuple (by rfl) Z.b_isinstance (by rfl) Z.b_tuple (ev_rd (i := 0) rfl (Or.inr (Or.inl rfl))))) (fun _ => rfl))) (ew_or1 (et_ne hr (be (ev_len (by rfl) Z.b_len (ev_rd (i := 0) rfl (Or.inr (Or.inl rfl))))) (be (ev_len (by rfl) Z.b_len (ev_rd (i := 1) rfl (Or.inr (Or.inl rfl))))))))) (es_one (es_ret (ev_bl))) (es_nil)) (es_one (es_ret (ev_all rfl (by rfl) Z.b_all (be (ev_lc (own := [("k", 2)]) rfl sc_l_like.nd (eic (ei_range1 (by rfl) Z.b_range (be (ev_len (by rfl) Z.b_len (ev_rd (i := 1) rfl (Or.inr (Or.inl rfl))))))) (blkOk_by (N := N_l_like) (sc := defScope s_l_like) (by decide +kernel)) (by decide) (fun _ _ _ _ _ => eg_name (i := 2) sc_l_like.nd rfl (Or.inl rfl)) (fun _ _ _ _ _ => epts_nil) (fun _ _ _ _ _ => ev_callD DR (hr) (by rfl) (ea_cons (ev_ix (ev_rd (i := 0) rfl (Or.inr (Or.inl rfl))) (ev_rd (i := 2) rfl (Or.inl rfl)) (fun _ _ => rfl)) (ea_cons (ev_ix (ev_rd (i := 1) rfl (Or.inr (Or.inl rfl))) (ev_rd (i := 2) rfl (Or.inl rfl)) (fun _ _ => rfl)) (ea_nil)))))))))) (es_nil)) (es_cons (es_if (et_val (be (ev_isi (T := "str") .str (by rfl) Z.b_isinstance (by rfl) Z.b_str (ev_rd (i := 1) rfl (Or.inr (Or.inl rfl))))) (fun _ => rfl)) (es_one (es_ret (ev_andV (ev_isi (T := "str") .str (by rfl) Z.b_isinstance (by rfl) Z.b_str (ev_rd (i := 0) rfl (Or.inr (Or.inl rfl)))) (ev_one (ev_eq hr (ev_rd (i := 0) rfl (Or.inr (Or.inl rfl))) (ev_rd (i := 1) rfl (Or.inr (Or.inl rfl)))))))) (es_nil)) (es_one (es_ret (ev_andV (ev_callD D_l_is_int (hr.mono (by show 1 ≤ 2 + n; omega)) (by rfl) (ea_cons (ev_var (i := 0) rfl (Or.inr (Or.inl rfl))) (ea_nil))) (ev_one (ev_eq hr (ev_rd (i := 0) rfl (Or.inr (Or.inl rfl))) (ev_rd (i := 1) rfl (Or.inr (Or.inl rfl))))))))))))
theorem ok_l_like (Z : Nb mg) (D_l_is_int : Def P w K mg base 1 "_law_is_int" ["value"] m_l_is_int) (F : Fn0 K mg "_law_like" s_l_like ["value", "due"]) : Def P w K mg base 14 "_law_like" ["value", "due"] m_l_like := okr_l_like Z D_l_is_int F 12
theorem ok_audit_stop (Z : Nb mg)  (F : Fn0 K mg "audit_stop" s_audit_stop ["first", "second", "limit"]) : Def P w K mg base 1 "audit_stop" ["first", "second", "limit"] m_audit_stop :=
  def_ok F sc_audit_stop fun f _ cdv A outer s H E hr => (es_cons (es_set (i := 3) sc_audit_stop.nd rfl (Or.inl rfl) (ev_add (ev_rd (i := 0) rfl (Or.inl rfl)) (ev_rd (i := 1) rfl (Or.inl rfl)))) (es_cons (es_set (i := 4) sc_audit_stop.nd rfl (Or.inl rfl) (ev_fdiv (ev_rd (i := 3) rfl (Or.inl rfl)) (be (ev_int)))) (es_cons (es_set (i := 5) sc_audit_stop.nd rfl (Or.inl rfl) (ev_int)) (es_cons (es_set (i := 6) sc_audit_stop.nd rfl (Or.inl rfl) (ev_int)) (es_cons (es_set (i := 7) sc_audit_stop.nd rfl (Or.inl rfl) (ev_int)) (es_cons (es_kill [5, 6] (es_while 1048576 PassesOwn.never (et_gt (be (ev_mul (ev_rd (i := 5) rfl (Or.inl rfl)) (be (ev_ix (ev_rd (i := 2) rfl (Or.inl rfl)) (be (ev_int)) (fun _ _ => rfl))))) (be (ev_mul (be (ev_ix (ev_rd (i := 2) rfl (Or.inl rfl)) (be (ev_int)) (fun _ _ => rfl))) (ev_rd (i := 6) rfl (Or.inl rfl))))) (es_cons (es_if (et_ge (ev_rd (i := 7) rfl (Or.inl rfl)) (ev_rd (i := 3) rfl (Or.inl rfl))) (es_one (es_ret (ev_non))) (es_nil)) (es_cons (es_set (i := 5) sc_audit_stop.nd rfl (Or.inl rfl) (ev_mul (ev_rd (i := 5) rfl (Or.inl rfl)) (be (ev_sub (ev_rd (i := 4) rfl (Or.inl rfl)) (ev_rd (i := 7) rfl (Or.inl rfl)))))) (es_cons (es_set (i := 6) sc_audit_stop.nd rfl (Or.inl rfl) (ev_mul (ev_rd (i := 6) rfl (Or.inl rfl)) (be (ev_sub (ev_rd (i := 3) rfl (Or.inl rfl)) (ev_rd (i := 7) rfl (Or.inl rfl)))))) (es_one (es_augAdd (i := 7) sc_audit_stop.nd rfl (Or.inl rfl) (be (ev_int))))))))) (es_one (es_ret (ev_var (i := 7) rfl (Or.inl rfl))))))))))
theorem ok_divisor (Z : Nb mg)  (F : Fn0 K mg "divisor" s_divisor ["first", "second"]) : Def P w K mg base 1 "divisor" ["first", "second"] m_divisor :=
  def_ok F sc_divisor fun f _ cdv A outer s H E hr => (es_cons (es_par (i := 0) (j := 1) rfl sc_divisor.nd rfl rfl (by decide) rfl rfl (ev_abs (by rfl) Z.b_abs (ev_rd (i := 0) rfl (Or.inl rfl))) (ev_abs (by rfl) Z.b_abs (ev_rd (i := 1) rfl (Or.inl rfl))) (by rfl)) (es_cons (es_kill [1] (es_while 1048576 PassesOwn.never (et_gt (ev_rd (i := 1) rfl (Or.inl rfl)) (be (ev_int))) (es_one (es_par (i := 0) (j := 1) rfl sc_divisor.nd rfl rfl (by decide) rfl rfl (ev_var (i := 1) rfl (Or.inl rfl)) (ev_mod (ev_rd (i := 0) rfl (Or.inl rfl)) (ev_rd (i := 1) rfl (Or.inl rfl))) (by rfl))))) (es_one (es_ret (ev_var (i := 0) rfl (Or.inl rfl))))))
theorem ok_lowest (Z : Nb mg) (D_divisor : Def P w K mg base 1 "divisor" ["first", "second"] m_divisor) (F : Fn0 K mg "lowest" s_lowest ["a", "b"]) : Def P w K mg base 2 "lowest" ["a", "b"] m_lowest :=
  def_ok F sc_lowest fun f _ cdv A outer s H E hr => (es_cons (es_set (i := 2) sc_lowest.nd rfl (Or.inl rfl) (ev_if (et_gt (ev_rd (i := 1) rfl (Or.inl rfl)) (be (ev_int))) (ev_callD D_divisor (hr.mono (by decide)) (by rfl) (ea_cons (ev_var (i := 0) rfl (Or.inl rfl)) (ea_cons (ev_var (i := 1) rfl (Or.inl rfl)) (ea_nil)))) (ev_neg (be (ev_callD D_divisor (hr.mono (by decide)) (by rfl) (ea_cons (ev_var (i := 0) rfl (Or.inl rfl)) (ea_cons (ev_var (i := 1) rfl (Or.inl rfl)) (ea_nil)))))))) (es_one (es_ret (ev_tup (ea_cons (ev_fdiv (ev_rd (i := 0) rfl (Or.inl rfl)) (ev_rd (i := 2) rfl (Or.inl rfl))) (ea_cons (ev_fdiv (ev_rd (i := 1) rfl (Or.inl rfl)) (ev_rd (i := 2) rfl (Or.inl rfl))) (ea_nil)))))))
theorem ok_audit_chance (Z : Nb mg) (D_lowest : Def P w K mg base 2 "lowest" ["a", "b"] m_lowest) (F : Fn0 K mg "audit_chance" s_audit_chance ["n", "truly", "draws"]) : Def P w K mg base 3 "audit_chance" ["n", "truly", "draws"] m_audit_chance :=
  def_ok F sc_audit_chance fun f _ cdv A outer s H E hr => (es_cons (es_if (et_gt (ev_rd (i := 2) rfl (Or.inl rfl)) (ev_rd (i := 1) rfl (Or.inl rfl))) (es_one (es_ret (ev_tup (ea_cons (ev_int) (ea_cons (ev_int) (ea_nil)))))) (es_nil)) (es_cons (es_set (i := 3) sc_audit_chance.nd rfl (Or.inl rfl) (ev_int)) (es_cons (es_set (i := 4) sc_audit_chance.nd rfl (Or.inl rfl) (ev_int)) (es_cons (es_kill [5] (es_for PassesOwn.never rfl (ei_range1 (by rfl) Z.b_range (ev_rd (i := 2) rfl (Or.inl rfl))) (eg_name (i := 5) sc_audit_chance.nd rfl (Or.inl rfl)) (ess_kill [5] (es_cons (es_set (i := 3) sc_audit_chance.nd rfl (Or.inl rfl) (ev_mul (ev_rd (i := 3) rfl (Or.inl rfl)) (be (ev_sub (ev_rd (i := 1) rfl (Or.inl rfl)) (ev_rd (i := 5) rfl (Or.inl rfl)))))) (es_one (es_set (i := 4) sc_audit_chance.nd rfl (Or.inl rfl) (ev_mul (ev_rd (i := 4) rfl (Or.inl rfl)) (be (ev_sub (ev_rd (i := 0) rfl (Or.inl rfl)) (ev_rd (i := 5) rfl (Or.inl rfl))))))))))) (es_one (es_ret (ev_callD D_lowest (hr.mono (by decide)) (by rfl) (ea_cons (ev_var (i := 3) rfl (Or.inl rfl)) (ea_cons (ev_var (i := 4) rfl (Or.inl rfl)) (ea_nil))))))))))
theorem ok_is_reached (Z : Nb mg)  (F : Fn0 K mg "is_reached" s_is_reached ["limit", "above", "below"]) : Def P w K mg base 1 "is_reached" ["limit", "above", "below"] m_is_reached :=
  def_ok F sc_is_reached fun f _ cdv A outer s H E hr => (es_one (es_ret (ev_ge (be (ev_mul (ev_rd (i := 1) rfl (Or.inl rfl)) (be (ev_ix (ev_rd (i := 0) rfl (Or.inl rfl)) (be (ev_int)) (fun _ _ => rfl))))) (be (ev_mul (ev_rd (i := 2) rfl (Or.inl rfl)) (be (ev_ix (ev_rd (i := 0) rfl (Or.inl rfl)) (be (ev_int)) (fun _ _ => rfl))))))))
theorem ok_audit_miss (Z : Nb mg) (D_is_reached : Def P w K mg base 1 "is_reached" ["limit", "above", "below"] m_is_reached) (D_lowest : Def P w K mg base 2 "lowest" ["a", "b"] m_lowest) (F : Fn0 K mg "audit_miss" s_audit_miss ["limit", "first", "second", "n"]) : Def P w K mg base 3 "audit_miss" ["limit", "first", "second", "n"] m_audit_miss :=
  def_ok F sc_audit_miss fun f _ cdv A outer s H E hr => (es_cons (es_if (et_val (be (ev_callD D_is_reached (hr.mono (by decide)) (by rfl) (ea_cons (ev_var (i := 0) rfl (Or.inl rfl)) (ea_cons (ev_int) (ea_cons (ev_int) (ea_nil)))))) (fun _ => rfl)) (es_one (es_ret (ev_tup (ea_cons (ev_int) (ea_cons (ev_int) (ea_nil)))))) (es_nil)) (es_cons (es_set (i := 4) sc_audit_miss.nd rfl (Or.inl rfl) (ev_lst (ea_cons (ev_int) (ea_nil)))) (es_cons (es_set (i := 5) sc_audit_miss.nd rfl (Or.inl rfl) (ev_lst (ea_cons (ev_int) (ea_nil)))) (es_cons (es_set (i := 6) sc_audit_miss.nd rfl (Or.inl rfl) (ev_int)) (es_cons (es_set (i := 7) sc_audit_miss.nd rfl (Or.inl rfl) (ev_int)) (es_cons (es_kill [4, 5, 6, 8, 9, 10] (es_for PassesOwn.never rfl (ei_range1 (by rfl) Z.b_range (ev_rd (i := 3) rfl (Or.inl rfl))) (eg_name (i := 8) sc_audit_miss.nd rfl (Or.inl rfl)) (ess_kill [8, 9, 10] (es_cons (es_setLc (i := 4) (own := [("one", 11), ("other", 12)]) rfl sc_audit_miss.nd rfl rfl (sw_true rfl rfl rfl (by decide +kernel)) (eic (ei_zip (by rfl) Z.b_zip (ev_add (ev_rd (i := 4) rfl (Or.inl rfl)) (be (ev_lst (ea_cons (ev_int) (ea_nil))))) (ev_add (be (ev_lst (ea_cons (ev_int) (ea_nil)))) (ev_rd (i := 4) rfl (Or.inl rfl))))) (blkOk_by (N := N_audit_miss) (sc := defScope s_audit_miss) (by decide +kernel)) (by decide) (fun _ _ _ _ _ => eg_tup rfl (egs_cons (eg_name (i := 11) sc_audit_miss.nd rfl (Or.inl rfl)) (egs_cons (eg_name (i := 12) sc_audit_miss.nd rfl (Or.inl rfl)) (egs_nil)))) (fun _ _ _ _ _ => epts_nil) (fun _ _ _ _ _ => ev_add (ev_rd (i := 11) rfl (Or.inl rfl)) (ev_rd (i := 12) rfl (Or.inl rfl)))) (es_cons (es_set (i := 5) sc_audit_miss.nd rfl (Or.inl rfl) (ev_add (be (ev_lc (own := [("product", 10)]) rfl sc_audit_miss.nd (eic_seq (ev_rd (i := 5) rfl (Or.inl rfl))) (blkOk_by (N := N_audit_miss) (sc := defScope s_audit_miss) (by decide +kernel)) (by decide) (fun _ _ _ _ _ => eg_name (i := 10) sc_audit_miss.nd rfl (Or.inl rfl)) (fun _ _ _ _ _ => epts_nil) (fun _ _ _ _ _ => ev_mul (be (ev_mul (ev_rd (i := 10) rfl (Or.inl rfl)) (be (ev_int)))) (ev_rd (i := 1) rfl (Or.inr (Or.inl rfl)))))) (be (ev_lst (ea_cons (ev_mul (be (ev_mul (be (ev_ix (ev_rd (i := 5) rfl (Or.inl rfl)) (be (ev_neg (be (ev_int)))) (fun _ _ => rfl))) (be (ev_int)))) (ev_rd (i := 2) rfl (Or.inl rfl))) (ea_nil)))))) (es_cons (es_set (i := 6) sc_audit_miss.nd rfl (Or.inl rfl) (ev_mul (ev_rd (i := 6) rfl (Or.inl rfl)) (be (ev_add (ev_rd (i := 1) rfl (Or.inr (Or.inl rfl))) (ev_rd (i := 2) rfl (Or.inl rfl)))))) (es_cons (es_set (i := 7) sc_audit_miss.nd rfl (Or.inl rfl) (ev_mul (ev_rd (i := 7) rfl (Or.inl rfl)) (be (ev_int)))) (ess_frz 5 (es_one (es_kill [9, 10] (es_for PassesOwn.never rfl (ei_enum (by rfl) Z.b_enumerate (ev_var (i := 5) rfl (Or.inl rfl))) (eg_tup rfl (egs_cons (eg_name (i := 9) sc_audit_miss.nd rfl (Or.inl rfl)) (egs_cons (eg_name (i := 10) sc_audit_miss.nd rfl (Or.inl rfl)) (egs_nil)))) (ess_kill [9, 10] (es_one (es_if (et_val (be (ev_callD D_is_reached (hr.mono (by decide)) (by rfl) (ea_cons (ev_var (i := 0) rfl (Or.inl rfl)) (ea_cons (ev_var (i := 10) rfl (Or.inl rfl)) (ea_cons (ev_var (i := 6) rfl (Or.inl rfl)) (ea_nil)))))) (fun _ => rfl)) (es_cons (es_augAdd (i := 7) sc_audit_miss.nd rfl (Or.inl rfl) (be (ev_ix (ev_rd (i := 4) rfl (Or.inl rfl)) (ev_rd (i := 9) rfl (Or.inl rfl)) (fun _ _ => rfl)))) (es_one (es_store (i := 4) (pv 4) (ev_int) (ev_rd (i := 9) rfl (Or.inl rfl))))) (es_nil))))))))))))))) (es_one (es_ret (ev_callD D_lowest (hr.mono (by decide)) (by rfl) (ea_cons (ev_var (i := 7) rfl (Or.inl rfl)) (ea_cons (ev_shl (be (ev_int)) (ev_rd (i := 3) rfl (Or.inl rfl))) (ea_nil))))))))))))
theorem ok_audit_row (Z : Nb mg) (D_is_reached : Def P w K mg base 1 "is_reached" ["limit", "above", "below"] m_is_reached) (F : Fn0 K mg "audit_row" s_audit_row ["limit", "first", "second", "row"]) : Def P w K mg base 2 "audit_row" ["limit", "first", "second", "row"] m_audit_row :=
  def_ok F sc_audit_row fun f _ cdv A outer s H E hr => (es_cons (es_set (i := 4) sc_audit_row.nd rfl (Or.inl rfl) (ev_int)) (es_cons (es_set (i := 5) sc_audit_row.nd rfl (Or.inl rfl) (ev_int)) (es_cons (es_if (et_val (be (ev_callD D_is_reached (hr.mono (by decide)) (by rfl) (ea_cons (ev_var (i := 0) rfl (Or.inl rfl)) (ea_cons (ev_var (i := 4) rfl (Or.inl rfl)) (ea_cons (ev_var (i := 5) rfl (Or.inl rfl)) (ea_nil)))))) (fun _ => rfl)) (es_one (es_ret (ev_int))) (es_nil)) (es_cons (es_kill [4, 5, 6, 7] (es_for PassesOwn.never rfl (ei_enum (by rfl) Z.b_enumerate (ev_var (i := 3) rfl (Or.inl rfl))) (eg_tup rfl (egs_cons (eg_name (i := 6) sc_audit_row.nd rfl (Or.inl rfl)) (egs_cons (eg_name (i := 7) sc_audit_row.nd rfl (Or.inl rfl)) (egs_nil)))) (ess_kill [6, 7] (es_cons (es_set (i := 4) sc_audit_row.nd rfl (Or.inl rfl) (ev_mul (be (ev_mul (ev_rd (i := 4) rfl (Or.inl rfl)) (be (ev_int)))) (be (ev_if (et_eq hr (ev_rd (i := 7) rfl (Or.inl rfl)) (be (ev_int))) (ev_var (i := 2) rfl (Or.inl rfl)) (ev_var (i := 1) rfl (Or.inl rfl)))))) (es_cons (es_set (i := 5) sc_audit_row.nd rfl (Or.inl rfl) (ev_mul (ev_rd (i := 5) rfl (Or.inl rfl)) (be (ev_add (ev_rd (i := 1) rfl (Or.inl rfl)) (ev_rd (i := 2) rfl (Or.inl rfl)))))) (es_one (es_if (et_val (be (ev_callD D_is_reached (hr.mono (by decide)) (by rfl) (ea_cons (ev_var (i := 0) rfl (Or.inl rfl)) (ea_cons (ev_var (i := 4) rfl (Or.inl rfl)) (ea_cons (ev_var (i := 5) rfl (Or.inl rfl)) (ea_nil)))))) (fun _ => rfl)) (es_one (es_ret (ev_add (ev_rd (i := 6) rfl (Or.inl rfl)) (be (ev_int))))) (es_nil)))))))) (es_one (es_ret (ev_non)))))))
theorem body_law {f : Addr} (Z : Nb mg) (D_l_row : Def P w K mg base 2 "_law_row" ["script", "many"] m_l_row) (D_l_ratio : Def P w K mg base 2 "_law_ratio" ["a", "b"] m_l_ratio) (D_l_stop : Def P w K mg base 4 "_law_stop" ["first", "second", "limit"] m_l_stop) (D_l_missed : Def P w K mg base 3 "_law_missed" ["limit", "first", "second", "n"] m_l_missed) (D_l_like : Def P w K mg base 14 "_law_like" ["value", "due"] m_l_like) (D_audit_stop : Def P w K mg base 1 "audit_stop" ["first", "second", "limit"] m_audit_stop) (D_audit_chance : Def P w K mg base 3 "audit_chance" ["n", "truly", "draws"] m_audit_chance) (D_l_reached : Def P w K mg base 1 "_law_reached" ["limit", "first", "second", "plans"] m_l_reached) (D_audit_miss : Def P w K mg base 3 "audit_miss" ["limit", "first", "second", "n"] m_audit_miss) (D_l_chance : Def P w K mg base 3 "_law_chance" ["n", "truly", "draws"] m_l_chance) (D_audit_row : Def P w K mg base 2 "audit_row" ["limit", "first", "second", "row"] m_audit_row) (cdv : Value) (A : Around) (outer : List Env) (s : Shared) (H : Hp) (E : XK) (hr : Room 14 (A.deeper (PyProof.Rows.envOfC "law" (defScope s_law) s.heap.objs.size f cdv))) :
    PSs (cxOf CX0 P w K mg base N_law "law" (defScope s_law) f cdv A outer s H E).nox (defBody s_law) (rS K B_law) :=
  (es_cons (es_set (i := 1) sc_law.nd rfl (Or.inr rfl) (ev_callD D_l_row (hr.mono (by decide)) (by rfl) (ea_cons (ev_var (i := 0) rfl (Or.inl rfl)) (ea_cons (ev_int) (ea_nil))))) (es_cons (es_par (i := 2) (j := 3) rfl sc_law.nd rfl rfl (by decide) rfl rfl (ev_add (be (ev_int)) (be (ev_mod (be (ev_toI (by rfl) Z.b_int (be (ev_ix (ev_rd (i := 1) rfl (Or.inr (Or.inl rfl))) (be (ev_int)) (fun _ _ => rfl))))) (be (ev_int))))) (ev_mod (be (ev_toI (by rfl) Z.b_int (be (ev_ix (ev_rd (i := 1) rfl (Or.inr (Or.inl rfl))) (be (ev_int)) (fun _ _ => rfl))))) (be (ev_int))) (by rfl)) (es_cons (es_set (i := 4) sc_law.nd rfl (Or.inl rfl) (ev_mod (be (ev_toI (by rfl) Z.b_int (be (ev_ix (ev_rd (i := 1) rfl (Or.inr (Or.inl rfl))) (be (ev_int)) (fun _ _ => rfl))))) (be (ev_int)))) (es_cons (es_if (et_eq hr (ev_rd (i := 4) rfl (Or.inl rfl)) (be (ev_int))) (es_one (es_set (i := 3) sc_law.nd rfl (Or.inl rfl) (ev_int))) (es_nil)) (es_cons (es_if (et_eq hr (ev_rd (i := 4) rfl (Or.inl rfl)) (be (ev_int))) (es_one (es_set (i := 3) sc_law.nd rfl (Or.inl rfl) (ev_var (i := 2) rfl (Or.inl rfl)))) (es_nil)) (es_cons (es_if (et_gt (ev_rd (i := 4) rfl (Or.inl rfl)) (be (ev_int))) (es_one (es_set (i := 3) sc_law.nd rfl (Or.inl rfl) (ev_mod (be (ev_toI (by rfl) Z.b_int (be (ev_ix (ev_rd (i := 1) rfl (Or.inr (Or.inl rfl))) (be (ev_int)) (fun _ _ => rfl))))) (be (ev_add (ev_rd (i := 2) rfl (Or.inl rfl)) (be (ev_int))))))) (es_nil)) (es_cons (es_set (i := 5) sc_law.nd rfl (Or.inl rfl) (ev_add (be (ev_int)) (be (ev_mod (be (ev_toI (by rfl) Z.b_int (be (ev_ix (ev_rd (i := 1) rfl (Or.inr (Or.inl rfl))) (be (ev_int)) (fun _ _ => rfl))))) (be (ev_int)))))) (es_cons (es_set (i := 6) sc_law.nd rfl (Or.inl rfl) (ev_callD D_l_ratio (hr.mono (by decide)) (by rfl) (ea_cons (ev_add (be (ev_int)) (be (ev_mod (be (ev_toI (by rfl) Z.b_int (be (ev_ix (ev_rd (i := 1) rfl (Or.inr (Or.inl rfl))) (be (ev_int)) (fun _ _ => rfl))))) (be (ev_int))))) (ea_cons (ev_add (ev_rd (i := 5) rfl (Or.inl rfl)) (be (ev_int))) (ea_nil))))) (es_cons (es_set (i := 7) sc_law.nd rfl (Or.inl rfl) (ev_callD D_l_stop (hr.mono (by decide)) (by rfl) (ea_cons (ev_var (i := 2) rfl (Or.inl rfl)) (ea_cons (ev_var (i := 3) rfl (Or.inl rfl)) (ea_cons (ev_var (i := 6) rfl (Or.inl rfl)) (ea_nil)))))) (es_cons (es_if (PW.pt (ew_or (et_not (et_val (be (ev_callD D_l_like (hr.mono (by decide)) (by rfl) (ea_cons (ev_callD D_audit_stop (hr.mono (by decide)) (by rfl) (ea_cons (ev_var (i := 2) rfl (Or.inl rfl)) (ea_cons (ev_var (i := 3) rfl (Or.inl rfl)) (ea_cons (ev_var (i := 6) rfl (Or.inl rfl)) (ea_nil))))) (ea_cons (ev_var (i := 7) rfl (Or.inl rfl)) (ea_nil))))) (fun _ => rfl))) (ew_or1 (et_isnot (be (ev_callD D_audit_stop (hr.mono (by decide)) (by rfl) (ea_cons (ev_int) (ea_cons (ev_int) (ea_cons (ev_var (i := 6) rfl (Or.inl rfl)) (ea_nil)))))) (be (ev_non)))))) (es_one (es_ret (ev_bl))) (es_nil)) (es_cons (es_set (i := 8) sc_law.nd rfl (Or.inl rfl) (ev_fdiv (be (ev_add (ev_rd (i := 2) rfl (Or.inl rfl)) (ev_rd (i := 3) rfl (Or.inl rfl)))) (be (ev_int)))) (es_cons (es_kill [9, 10] (es_for PassesOwn.never rfl (ei_seq (ev_tup (ea_cons (ev_sub (ev_rd (i := 7) rfl (Or.inl rfl)) (be (ev_int))) (ea_cons (ev_var (i := 7) rfl (Or.inl rfl)) (ea_nil))))) (eg_name (i := 9) sc_law.nd rfl (Or.inl rfl)) (ess_kill [9, 10] (es_one (es_if (et_ge (ev_rd (i := 9) rfl (Or.inl rfl)) (be (ev_int))) (es_cons (es_set (i := 10) sc_law.nd rfl (Or.inl rfl) (ev_callD D_audit_chance (hr.mono (by decide)) (by rfl) (ea_cons (ev_add (ev_rd (i := 2) rfl (Or.inl rfl)) (ev_rd (i := 3) rfl (Or.inl rfl))) (ea_cons (ev_var (i := 8) rfl (Or.inl rfl)) (ea_cons (ev_var (i := 9) rfl (Or.inl rfl)) (ea_nil)))))) (es_cons (es_if (et_not (et_val (be (ev_callD D_l_like (hr.mono (by decide)) (by rfl) (ea_cons (ev_var (i := 10) rfl (Or.inl rfl)) (ea_cons (ev_callD D_l_chance (hr.mono (by decide)) (by rfl) (ea_cons (ev_add (ev_rd (i := 2) rfl (Or.inl rfl)) (ev_rd (i := 3) rfl (Or.inl rfl))) (ea_cons (ev_var (i := 8) rfl (Or.inl rfl)) (ea_cons (ev_var (i := 9) rfl (Or.inl rfl)) (ea_nil))))) (ea_nil))))) (fun _ => rfl))) (es_one (es_ret (ev_bl))) (es_nil)) (es_one (es_if (et_ne hr (be (ev_le (be (ev_mul (be (ev_ix (ev_rd (i := 10) rfl (Or.inl rfl)) (be (ev_int)) (fun _ _ => rfl))) (be (ev_ix (ev_rd (i := 6) rfl (Or.inl rfl)) (be (ev_int)) (fun _ _ => rfl))))) (be (ev_mul (be (ev_ix (ev_rd (i := 6) rfl (Or.inl rfl)) (be (ev_int)) (fun _ _ => rfl))) (be (ev_ix (ev_rd (i := 10) rfl (Or.inl rfl)) (be (ev_int)) (fun _ _ => rfl))))))) (be (ev_eq hr (ev_rd (i := 9) rfl (Or.inl rfl)) (ev_rd (i := 7) rfl (Or.inl rfl))))) (es_one (es_ret (ev_bl))) (es_nil))))) (es_nil)))))) (es_cons (es_set (i := 11) sc_law.nd rfl (Or.inl rfl) (ev_add (be (ev_int)) (be (ev_mod (be (ev_toI (by rfl) Z.b_int (be (ev_ix (ev_rd (i := 1) rfl (Or.inr (Or.inl rfl))) (be (ev_int)) (fun _ _ => rfl))))) (be (ev_int)))))) (es_cons (es_par (i := 12) (j := 9) rfl sc_law.nd rfl rfl (by decide) rfl rfl (ev_mod (be (ev_toI (by rfl) Z.b_int (be (ev_ix (ev_rd (i := 1) rfl (Or.inr (Or.inl rfl))) (be (ev_int)) (fun _ _ => rfl))))) (be (ev_add (ev_rd (i := 11) rfl (Or.inl rfl)) (be (ev_int))))) (ev_mod (be (ev_toI (by rfl) Z.b_int (be (ev_ix (ev_rd (i := 1) rfl (Or.inr (Or.inl rfl))) (be (ev_int)) (fun _ _ => rfl))))) (be (ev_add (ev_rd (i := 11) rfl (Or.inl rfl)) (be (ev_int))))) (by rfl)) (es_cons (es_kill [13] (es_for PassesOwn.never rfl (ei_seq (ev_tup (ea_cons (ev_var (i := 9) rfl (Or.inl rfl)) (ea_cons (ev_var (i := 12) rfl (Or.inl rfl)) (ea_cons (ev_min2 rfl (by rfl) Z.b_min (ev_rd (i := 11) rfl (Or.inl rfl)) (be (ev_add (ev_rd (i := 12) rfl (Or.inl rfl)) (be (ev_int))))) (ea_nil)))))) (eg_name (i := 13) sc_law.nd rfl (Or.inl rfl)) (ess_kill [13] (es_one (es_if (et_not (et_val (be (ev_callD D_l_like (hr.mono (by decide)) (by rfl) (ea_cons (ev_callD D_audit_chance (hr.mono (by decide)) (by rfl) (ea_cons (ev_var (i := 11) rfl (Or.inl rfl)) (ea_cons (ev_var (i := 12) rfl (Or.inl rfl)) (ea_cons (ev_var (i := 13) rfl (Or.inl rfl)) (ea_nil))))) (ea_cons (ev_callD D_l_chance (hr.mono (by decide)) (by rfl) (ea_cons (ev_var (i := 11) rfl (Or.inl rfl)) (ea_cons (ev_var (i := 12) rfl (Or.inl rfl)) (ea_cons (ev_var (i := 13) rfl (Or.inl rfl)) (ea_nil))))) (ea_nil))))) (fun _ => rfl))) (es_one (es_ret (ev_bl))) (es_nil)))))) (es_cons (es_set (i := 14) sc_law.nd rfl (Or.inr rfl) (ev_add (be (ev_int)) (be (ev_mod (be (ev_toI (by rfl) Z.b_int (be (ev_ix (ev_rd (i := 1) rfl (Or.inr (Or.inl rfl))) (be (ev_int)) (fun _ _ => rfl))))) (be (ev_int)))))) (es_cons (es_set (i := 15) sc_law.nd rfl (Or.inl rfl) (ev_toT (by rfl) Z.b_tuple (be (ev_lc (own := [("k", 20)]) rfl sc_law.nd (eic (ei_range1 (by rfl) Z.b_range (be (ev_mod (be (ev_toI (by rfl) Z.b_int (be (ev_ix (ev_rd (i := 1) rfl (Or.inr (Or.inl rfl))) (be (ev_int)) (fun _ _ => rfl))))) (be (ev_int)))))) (blkOk_by (N := N_law) (sc := defScope s_law) (by decide +kernel)) (by decide) (fun _ _ _ _ _ => eg_name (i := 20) sc_law.nd rfl (Or.inl rfl)) (fun _ _ _ _ _ => epts_nil) (fun _ _ _ _ _ => ev_toI (by rfl) Z.b_int (be (ev_eq hr (be (ev_mod (be (ev_toI (by rfl) Z.b_int (be (ev_ix (ev_rd (i := 1) rfl (Or.inr (Or.inl rfl))) (be (ev_add (be (ev_int)) (ev_rd (i := 20) rfl (Or.inl rfl)))) (fun _ _ => rfl))))) (be (ev_add (ev_rd (i := 14) rfl (Or.inr (Or.inl rfl))) (be (ev_int)))))) (be (ev_int))))))))) (es_cons (es_kill [16, 17, 18, 19] (es_for PassesOwn.never rfl (ei_seq (ev_tup (ea_cons (ev_tup (ea_cons (ev_var (i := 2) rfl (Or.inl rfl)) (ea_cons (ev_var (i := 3) rfl (Or.inl rfl)) (ea_nil)))) (ea_cons (ev_tup (ea_cons (ev_add (ev_rd (i := 3) rfl (Or.inl rfl)) (be (ev_int))) (ea_cons (ev_var (i := 2) rfl (Or.inl rfl)) (ea_nil)))) (ea_cons (ev_tup (ea_cons (ev_var (i := 14) rfl (Or.inr (Or.inl rfl))) (ea_cons (ev_int) (ea_nil)))) (ea_nil)))))) (eg_name (i := 16) sc_law.nd rfl (Or.inl rfl)) (ess_kill [16, 17, 18, 19] (es_cons (es_kill [17, 18] (es_for PassesOwn.never rfl (ei_range1 (by rfl) Z.b_range (be (ev_add (be (ev_len (by rfl) Z.b_len (ev_rd (i := 15) rfl (Or.inl rfl)))) (be (ev_int))))) (eg_name (i := 17) sc_law.nd rfl (Or.inl rfl)) (ess_kill [17, 18] (es_cons (es_set (i := 18) sc_law.nd rfl (Or.inl rfl) (ev_callD D_l_reached (hr.mono (by decide)) (by rfl) (ea_cons (ev_var (i := 6) rfl (Or.inl rfl)) (ea_cons (ev_ix (ev_rd (i := 16) rfl (Or.inl rfl)) (be (ev_int)) (fun _ _ => rfl)) (ea_cons (ev_ix (ev_rd (i := 16) rfl (Or.inl rfl)) (be (ev_int)) (fun _ _ => rfl)) (ea_cons (ev_slice (ev_rd (i := 15) rfl (Or.inl rfl)) (eo_none) (eo_some (ev_rd (i := 17) rfl (Or.inl rfl)))) (ea_nil))))))) (es_one (es_if (et_not (et_val (be (ev_callD D_l_like (hr.mono (by decide)) (by rfl) (ea_cons (ev_callD D_audit_row (hr.mono (by decide)) (by rfl) (ea_cons (ev_var (i := 6) rfl (Or.inl rfl)) (ea_cons (ev_ix (ev_rd (i := 16) rfl (Or.inl rfl)) (be (ev_int)) (fun _ _ => rfl)) (ea_cons (ev_ix (ev_rd (i := 16) rfl (Or.inl rfl)) (be (ev_int)) (fun _ _ => rfl)) (ea_cons (ev_slice (ev_rd (i := 15) rfl (Or.inl rfl)) (eo_none) (eo_some (ev_rd (i := 17) rfl (Or.inl rfl)))) (ea_nil)))))) (ea_cons (ev_var (i := 18) rfl (Or.inl rfl)) (ea_nil))))) (fun _ => rfl))) (es_one (es_ret (ev_bl))) (es_nil))))))) (es_cons (es_par (i := 19) (j := 18) rfl sc_law.nd rfl rfl (by decide) rfl rfl (ev_callD D_audit_miss (hr.mono (by decide)) (by rfl) (ea_cons (ev_var (i := 6) rfl (Or.inl rfl)) (ea_cons (ev_ix (ev_rd (i := 16) rfl (Or.inl rfl)) (be (ev_int)) (fun _ _ => rfl)) (ea_cons (ev_ix (ev_rd (i := 16) rfl (Or.inl rfl)) (be (ev_int)) (fun _ _ => rfl)) (ea_cons (ev_mod (be (ev_toI (by rfl) Z.b_int (be (ev_ix (ev_rd (i := 1) rfl (Or.inr (Or.inl rfl))) (be (ev_int)) (fun _ _ => rfl))))) (be (ev_int))) (ea_nil)))))) (ev_non) (by rfl)) (es_cons (es_set (i := 18) sc_law.nd rfl (Or.inl rfl) (ev_callD D_l_missed (hr.mono (by decide)) (by rfl) (ea_cons (ev_var (i := 6) rfl (Or.inl rfl)) (ea_cons (ev_ix (ev_rd (i := 16) rfl (Or.inl rfl)) (be (ev_int)) (fun _ _ => rfl)) (ea_cons (ev_ix (ev_rd (i := 16) rfl (Or.inl rfl)) (be (ev_int)) (fun _ _ => rfl)) (ea_cons (ev_mod (be (ev_toI (by rfl) Z.b_int (be (ev_ix (ev_rd (i := 1) rfl (Or.inr (Or.inl rfl))) (be (ev_int)) (fun _ _ => rfl))))) (be (ev_int))) (ea_nil))))))) (es_one (es_if (PW.pt (ew_or (et_not (et_val (be (ev_callD D_l_like (hr.mono (by decide)) (by rfl) (ea_cons (ev_var (i := 19) rfl (Or.inl rfl)) (ea_cons (ev_var (i := 18) rfl (Or.inl rfl)) (ea_nil))))) (fun _ => rfl))) (ew_or1 (et_gt (be (ev_mul (be (ev_ix (ev_rd (i := 19) rfl (Or.inl rfl)) (be (ev_int)) (fun _ _ => rfl))) (be (ev_ix (ev_rd (i := 6) rfl (Or.inl rfl)) (be (ev_int)) (fun _ _ => rfl))))) (be (ev_mul (be (ev_ix (ev_rd (i := 6) rfl (Or.inl rfl)) (be (ev_int)) (fun _ _ => rfl))) (be (ev_ix (ev_rd (i := 19) rfl (Or.inl rfl)) (be (ev_int)) (fun _ _ => rfl))))))))) (es_one (es_ret (ev_bl))) (es_nil))))))))) (es_one (es_ret (ev_bl)))))))))))))))))))))
end
theorem all_mk {l : PySem.W.OpenLaw} {w : World} {K : PySem.W.Frag} {h : Heap} {mg : Str → Option Value} {fa f0 f1 f2 f3 f4 f5 f6 f7 f8 f9 f10 f11 f12 f13 f14 f15 f16 f17 : Addr} (X : K.In h) (G : h.Ns mainGlobals mg) (hfa : mg "law" = some (.ref fa))
    {od0 an0 od1 an1 od2 an2 od3 an3 od4 an4 od5 an5 od6 an6 od7 an7 od8 an8 od9 an9 od10 an10 od11 an11 od12 an12 od13 an13 od14 an14 od15 an15 od16 an16 od17 an17 : Option Addr} {sl0 sl1 sl2 sl3 sl4 sl5 sl6 sl7 sl8 sl9 sl10 sl11 sl12 sl13 sl14 sl15 sl16 sl17 : Array (Option Value)} {oc0 kV0 dc0 pm0 cd0 ct0 oc1 kV1 dc1 pm1 cd1 ct1 oc2 kV2 dc2 pm2 cd2 ct2 oc3 kV3 dc3 pm3 cd3 ct3 oc4 kV4 dc4 pm4 cd4 ct4 oc5 kV5 dc5 pm5 cd5 ct5 oc6 kV6 dc6 pm6 cd6 ct6 oc7 kV7 dc7 pm7 cd7 ct7 oc8 kV8 dc8 pm8 cd8 ct8 oc9 kV9 dc9 pm9 cd9 ct9 oc10 kV10 dc10 pm10 cd10 ct10 oc11 kV11 dc11 pm11 cd11 ct11 oc12 kV12 dc12 pm12 cd12 ct12 oc13 kV13 dc13 pm13 cd13 ct13 oc14 kV14 dc14 pm14 cd14 ct14 oc15 kV15 dc15 pm15 cd15 ct15 oc16 kV16 dc16 pm16 cd16 ct16 oc17 kV17 dc17 pm17 cd17 ct17 : Value}
    (a0 : PySem.W.nsIn K mainGlobals "_law_mixed" = some (some (.ref f0))) (l0 : K.lookup f0 = some ⟨oc0, od0, .func (PySem.W.fnOf "_law_mixed" "_law_mixed" (defArgs s_l_mixed) (defBody s_l_mixed) (defScope s_l_mixed) .none kV0 dc0 pm0 an0 cd0 ct0), sl0⟩) (c0 : PySem.W.codeIn K cd0 "_law_mixed" = true) (k0 : PySem.W.keepIn K (.ref f0) = true)
    (a1 : PySem.W.nsIn K mainGlobals "_law_row" = some (some (.ref f1))) (l1 : K.lookup f1 = some ⟨oc1, od1, .func (PySem.W.fnOf "_law_row" "_law_row" (defArgs s_l_row) (defBody s_l_row) (defScope s_l_row) .none kV1 dc1 pm1 an1 cd1 ct1), sl1⟩) (c1 : PySem.W.codeIn K cd1 "_law_row" = true) (k1 : PySem.W.keepIn K (.ref f1) = true)
    (a2 : PySem.W.nsIn K mainGlobals "_law_common" = some (some (.ref f2))) (l2 : K.lookup f2 = some ⟨oc2, od2, .func (PySem.W.fnOf "_law_common" "_law_common" (defArgs s_l_common) (defBody s_l_common) (defScope s_l_common) .none kV2 dc2 pm2 an2 cd2 ct2), sl2⟩) (c2 : PySem.W.codeIn K cd2 "_law_common" = true) (k2 : PySem.W.keepIn K (.ref f2) = true)
    (a3 : PySem.W.nsIn K mainGlobals "_law_ratio" = some (some (.ref f3))) (l3 : K.lookup f3 = some ⟨oc3, od3, .func (PySem.W.fnOf "_law_ratio" "_law_ratio" (defArgs s_l_ratio) (defBody s_l_ratio) (defScope s_l_ratio) .none kV3 dc3 pm3 an3 cd3 ct3), sl3⟩) (c3 : PySem.W.codeIn K cd3 "_law_ratio" = true) (k3 : PySem.W.keepIn K (.ref f3) = true)
    (a4 : PySem.W.nsIn K mainGlobals "_law_chance" = some (some (.ref f4))) (l4 : K.lookup f4 = some ⟨oc4, od4, .func (PySem.W.fnOf "_law_chance" "_law_chance" (defArgs s_l_chance) (defBody s_l_chance) (defScope s_l_chance) .none kV4 dc4 pm4 an4 cd4 ct4), sl4⟩) (c4 : PySem.W.codeIn K cd4 "_law_chance" = true) (k4 : PySem.W.keepIn K (.ref f4) = true)
    (a5 : PySem.W.nsIn K mainGlobals "_law_stop" = some (some (.ref f5))) (l5 : K.lookup f5 = some ⟨oc5, od5, .func (PySem.W.fnOf "_law_stop" "_law_stop" (defArgs s_l_stop) (defBody s_l_stop) (defScope s_l_stop) .none kV5 dc5 pm5 an5 cd5 ct5), sl5⟩) (c5 : PySem.W.codeIn K cd5 "_law_stop" = true) (k5 : PySem.W.keepIn K (.ref f5) = true)
    (a6 : PySem.W.nsIn K mainGlobals "_law_reached" = some (some (.ref f6))) (l6 : K.lookup f6 = some ⟨oc6, od6, .func (PySem.W.fnOf "_law_reached" "_law_reached" (defArgs s_l_reached) (defBody s_l_reached) (defScope s_l_reached) .none kV6 dc6 pm6 an6 cd6 ct6), sl6⟩) (c6 : PySem.W.codeIn K cd6 "_law_reached" = true) (k6 : PySem.W.keepIn K (.ref f6) = true)
    (a7 : PySem.W.nsIn K mainGlobals "_law_missed" = some (some (.ref f7))) (l7 : K.lookup f7 = some ⟨oc7, od7, .func (PySem.W.fnOf "_law_missed" "_law_missed" (defArgs s_l_missed) (defBody s_l_missed) (defScope s_l_missed) .none kV7 dc7 pm7 an7 cd7 ct7), sl7⟩) (c7 : PySem.W.codeIn K cd7 "_law_missed" = true) (k7 : PySem.W.keepIn K (.ref f7) = true)
    (a8 : PySem.W.nsIn K mainGlobals "_law_is_int" = some (some (.ref f8))) (l8 : K.lookup f8 = some ⟨oc8, od8, .func (PySem.W.fnOf "_law_is_int" "_law_is_int" (defArgs s_l_is_int) (defBody s_l_is_int) (defScope s_l_is_int) .none kV8 dc8 pm8 an8 cd8 ct8), sl8⟩) (c8 : PySem.W.codeIn K cd8 "_law_is_int" = true) (k8 : PySem.W.keepIn K (.ref f8) = true)
    (a9 : PySem.W.nsIn K mainGlobals "_law_like" = some (some (.ref f9))) (l9 : K.lookup f9 = some ⟨oc9, od9, .func (PySem.W.fnOf "_law_like" "_law_like" (defArgs s_l_like) (defBody s_l_like) (defScope s_l_like) .none kV9 dc9 pm9 an9 cd9 ct9), sl9⟩) (c9 : PySem.W.codeIn K cd9 "_law_like" = true) (k9 : PySem.W.keepIn K (.ref f9) = true)
    (a10 : PySem.W.nsIn K mainGlobals "audit_stop" = some (some (.ref f10))) (l10 : K.lookup f10 = some ⟨oc10, od10, .func (PySem.W.fnOf "audit_stop" "audit_stop" (defArgs s_audit_stop) (defBody s_audit_stop) (defScope s_audit_stop) .none kV10 dc10 pm10 an10 cd10 ct10), sl10⟩) (c10 : PySem.W.codeIn K cd10 "audit_stop" = true) (k10 : PySem.W.keepIn K (.ref f10) = true)
    (a11 : PySem.W.nsIn K mainGlobals "divisor" = some (some (.ref f11))) (l11 : K.lookup f11 = some ⟨oc11, od11, .func (PySem.W.fnOf "divisor" "divisor" (defArgs s_divisor) (defBody s_divisor) (defScope s_divisor) .none kV11 dc11 pm11 an11 cd11 ct11), sl11⟩) (c11 : PySem.W.codeIn K cd11 "divisor" = true) (k11 : PySem.W.keepIn K (.ref f11) = true)
    (a12 : PySem.W.nsIn K mainGlobals "lowest" = some (some (.ref f12))) (l12 : K.lookup f12 = some ⟨oc12, od12, .func (PySem.W.fnOf "lowest" "lowest" (defArgs s_lowest) (defBody s_lowest) (defScope s_lowest) .none kV12 dc12 pm12 an12 cd12 ct12), sl12⟩) (c12 : PySem.W.codeIn K cd12 "lowest" = true) (k12 : PySem.W.keepIn K (.ref f12) = true)
    (a13 : PySem.W.nsIn K mainGlobals "audit_chance" = some (some (.ref f13))) (l13 : K.lookup f13 = some ⟨oc13, od13, .func (PySem.W.fnOf "audit_chance" "audit_chance" (defArgs s_audit_chance) (defBody s_audit_chance) (defScope s_audit_chance) .none kV13 dc13 pm13 an13 cd13 ct13), sl13⟩) (c13 : PySem.W.codeIn K cd13 "audit_chance" = true) (k13 : PySem.W.keepIn K (.ref f13) = true)
    (a14 : PySem.W.nsIn K mainGlobals "is_reached" = some (some (.ref f14))) (l14 : K.lookup f14 = some ⟨oc14, od14, .func (PySem.W.fnOf "is_reached" "is_reached" (defArgs s_is_reached) (defBody s_is_reached) (defScope s_is_reached) .none kV14 dc14 pm14 an14 cd14 ct14), sl14⟩) (c14 : PySem.W.codeIn K cd14 "is_reached" = true) (k14 : PySem.W.keepIn K (.ref f14) = true)
    (a15 : PySem.W.nsIn K mainGlobals "audit_miss" = some (some (.ref f15))) (l15 : K.lookup f15 = some ⟨oc15, od15, .func (PySem.W.fnOf "audit_miss" "audit_miss" (defArgs s_audit_miss) (defBody s_audit_miss) (defScope s_audit_miss) .none kV15 dc15 pm15 an15 cd15 ct15), sl15⟩) (c15 : PySem.W.codeIn K cd15 "audit_miss" = true) (k15 : PySem.W.keepIn K (.ref f15) = true)
    (a16 : PySem.W.nsIn K mainGlobals "audit_row" = some (some (.ref f16))) (l16 : K.lookup f16 = some ⟨oc16, od16, .func (PySem.W.fnOf "audit_row" "audit_row" (defArgs s_audit_row) (defBody s_audit_row) (defScope s_audit_row) .none kV16 dc16 pm16 an16 cd16 ct16), sl16⟩) (c16 : PySem.W.codeIn K cd16 "audit_row" = true) (k16 : PySem.W.keepIn K (.ref f16) = true)
    (a17 : PySem.W.nsIn K mainGlobals "law" = some (some (.ref f17))) (l17 : K.lookup f17 = some ⟨oc17, od17, .func (PySem.W.fnOf "law" "law" (defArgs s_law) (defBody s_law) (defScope s_law) .none kV17 dc17 pm17 an17 cd17 ct17), sl17⟩) (c17 : PySem.W.codeIn K cd17 "law" = true) (k17 : PySem.W.keepIn K (.ref f17) = true)
    (z0 : PySem.W.nsIn K mainGlobals "abs" = some none)
    (z1 : PySem.W.nsIn K mainGlobals "all" = some none)
    (z2 : PySem.W.nsIn K mainGlobals "bool" = some none)
    (z3 : PySem.W.nsIn K mainGlobals "enumerate" = some none)
    (z4 : PySem.W.nsIn K mainGlobals "int" = some none)
    (z5 : PySem.W.nsIn K mainGlobals "isinstance" = some none)
    (z6 : PySem.W.nsIn K mainGlobals "len" = some none)
    (z7 : PySem.W.nsIn K mainGlobals "max" = some none)
    (z8 : PySem.W.nsIn K mainGlobals "min" = some none)
    (z9 : PySem.W.nsIn K mainGlobals "range" = some none)
    (z10 : PySem.W.nsIn K mainGlobals "str" = some none)
    (z11 : PySem.W.nsIn K mainGlobals "tuple" = some none)
    (z12 : PySem.W.nsIn K mainGlobals "zip" = some none)
    : ∃ fd : FuncData, (∀ (s : Shared) (v : Value), BindsTo s fd ⟨[v], []⟩ [("script", v)]) ∧ ∀ base : Heap, K.In base → base.Ns mainGlobals mg → FnOk l.prog w K mg base CX0 15 fa fd ["script"] (spF K 1 m_law) := by
  have Z : Nb mg := ⟨PySem.W.mg_none_of X G z0, PySem.W.mg_none_of X G z1, PySem.W.mg_none_of X G z2, PySem.W.mg_none_of X G z3, PySem.W.mg_none_of X G z4, PySem.W.mg_none_of X G z5, PySem.W.mg_none_of X G z6, PySem.W.mg_none_of X G z7, PySem.W.mg_none_of X G z8, PySem.W.mg_none_of X G z9, PySem.W.mg_none_of X G z10, PySem.W.mg_none_of X G z11, PySem.W.mg_none_of X G z12⟩
  have F0 : Fn0 K mg "_law_mixed" s_l_mixed ["script", "k"] := ⟨f0, _, fun_mk (st := s_l_mixed) l0 c0 k0, PySem.W.mg_of X G a0, (fun_mk (st := s_l_mixed) l0 c0 k0).binds fun _ _ _ _ _ _ us hl => match us, hl with | [_, _], _ => rfl⟩
  have F1 : Fn0 K mg "_law_row" s_l_row ["script", "many"] := ⟨f1, _, fun_mk (st := s_l_row) l1 c1 k1, PySem.W.mg_of X G a1, (fun_mk (st := s_l_row) l1 c1 k1).binds fun _ _ _ _ _ _ us hl => match us, hl with | [_, _], _ => rfl⟩
  have F2 : Fn0 K mg "_law_common" s_l_common ["first", "second"] := ⟨f2, _, fun_mk (st := s_l_common) l2 c2 k2, PySem.W.mg_of X G a2, (fun_mk (st := s_l_common) l2 c2 k2).binds fun _ _ _ _ _ _ us hl => match us, hl with | [_, _], _ => rfl⟩
  have F3 : Fn0 K mg "_law_ratio" s_l_ratio ["a", "b"] := ⟨f3, _, fun_mk (st := s_l_ratio) l3 c3 k3, PySem.W.mg_of X G a3, (fun_mk (st := s_l_ratio) l3 c3 k3).binds fun _ _ _ _ _ _ us hl => match us, hl with | [_, _], _ => rfl⟩
  have F4 : Fn0 K mg "_law_chance" s_l_chance ["n", "truly", "draws"] := ⟨f4, _, fun_mk (st := s_l_chance) l4 c4 k4, PySem.W.mg_of X G a4, (fun_mk (st := s_l_chance) l4 c4 k4).binds fun _ _ _ _ _ _ us hl => match us, hl with | [_, _, _], _ => rfl⟩
  have F5 : Fn0 K mg "_law_stop" s_l_stop ["first", "second", "limit"] := ⟨f5, _, fun_mk (st := s_l_stop) l5 c5 k5, PySem.W.mg_of X G a5, (fun_mk (st := s_l_stop) l5 c5 k5).binds fun _ _ _ _ _ _ us hl => match us, hl with | [_, _, _], _ => rfl⟩
  have F6 : Fn0 K mg "_law_reached" s_l_reached ["limit", "first", "second", "plans"] := ⟨f6, _, fun_mk (st := s_l_reached) l6 c6 k6, PySem.W.mg_of X G a6, (fun_mk (st := s_l_reached) l6 c6 k6).binds fun _ _ _ _ _ _ us hl => match us, hl with | [_, _, _, _], _ => rfl⟩
  have F7 : Fn0 K mg "_law_missed" s_l_missed ["limit", "first", "second", "n"] := ⟨f7, _, fun_mk (st := s_l_missed) l7 c7 k7, PySem.W.mg_of X G a7, (fun_mk (st := s_l_missed) l7 c7 k7).binds fun _ _ _ _ _ _ us hl => match us, hl with | [_, _, _, _], _ => rfl⟩
  have F8 : Fn0 K mg "_law_is_int" s_l_is_int ["value"] := ⟨f8, _, fun_mk (st := s_l_is_int) l8 c8 k8, PySem.W.mg_of X G a8, (fun_mk (st := s_l_is_int) l8 c8 k8).binds fun _ _ _ _ _ _ us hl => match us, hl with | [_], _ => rfl⟩
  have F9 : Fn0 K mg "_law_like" s_l_like ["value", "due"] := ⟨f9, _, fun_mk (st := s_l_like) l9 c9 k9, PySem.W.mg_of X G a9, (fun_mk (st := s_l_like) l9 c9 k9).binds fun _ _ _ _ _ _ us hl => match us, hl with | [_, _], _ => rfl⟩
  have F10 : Fn0 K mg "audit_stop" s_audit_stop ["first", "second", "limit"] := ⟨f10, _, fun_mk (st := s_audit_stop) l10 c10 k10, PySem.W.mg_of X G a10, (fun_mk (st := s_audit_stop) l10 c10 k10).binds fun _ _ _ _ _ _ us hl => match us, hl with | [_, _, _], _ => rfl⟩
  have F11 : Fn0 K mg "divisor" s_divisor ["first", "second"] := ⟨f11, _, fun_mk (st := s_divisor) l11 c11 k11, PySem.W.mg_of X G a11, (fun_mk (st := s_divisor) l11 c11 k11).binds fun _ _ _ _ _ _ us hl => match us, hl with | [_, _], _ => rfl⟩
  have F12 : Fn0 K mg "lowest" s_lowest ["a", "b"] := ⟨f12, _, fun_mk (st := s_lowest) l12 c12 k12, PySem.W.mg_of X G a12, (fun_mk (st := s_lowest) l12 c12 k12).binds fun _ _ _ _ _ _ us hl => match us, hl with | [_, _], _ => rfl⟩
  have F13 : Fn0 K mg "audit_chance" s_audit_chance ["n", "truly", "draws"] := ⟨f13, _, fun_mk (st := s_audit_chance) l13 c13 k13, PySem.W.mg_of X G a13, (fun_mk (st := s_audit_chance) l13 c13 k13).binds fun _ _ _ _ _ _ us hl => match us, hl with | [_, _, _], _ => rfl⟩
  have F14 : Fn0 K mg "is_reached" s_is_reached ["limit", "above", "below"] := ⟨f14, _, fun_mk (st := s_is_reached) l14 c14 k14, PySem.W.mg_of X G a14, (fun_mk (st := s_is_reached) l14 c14 k14).binds fun _ _ _ _ _ _ us hl => match us, hl with | [_, _, _], _ => rfl⟩
  have F15 : Fn0 K mg "audit_miss" s_audit_miss ["limit", "first", "second", "n"] := ⟨f15, _, fun_mk (st := s_audit_miss) l15 c15 k15, PySem.W.mg_of X G a15, (fun_mk (st := s_audit_miss) l15 c15 k15).binds fun _ _ _ _ _ _ us hl => match us, hl with | [_, _, _, _], _ => rfl⟩
  have F16 : Fn0 K mg "audit_row" s_audit_row ["limit", "first", "second", "row"] := ⟨f16, _, fun_mk (st := s_audit_row) l16 c16 k16, PySem.W.mg_of X G a16, (fun_mk (st := s_audit_row) l16 c16 k16).binds fun _ _ _ _ _ _ us hl => match us, hl with | [_, _, _, _], _ => rfl⟩
  have F17 : Fn0 K mg "law" s_law ["script"] := ⟨f17, _, fun_mk (st := s_law) l17 c17 k17, PySem.W.mg_of X G a17, (fun_mk (st := s_law) l17 c17 k17).binds fun _ _ _ _ _ _ us hl => match us, hl with | [_], _ => rfl⟩
  have e := hfa.symm.trans (PySem.W.mg_of X G a17)
  cases e
  refine ⟨PySem.W.fnOf "law" "law" (defArgs s_law) (defBody s_law) (defScope s_law) .none kV17 dc17 pm17 an17 cd17 ct17, fun s v => .of_eq rfl, fun base _ _ => ?_⟩
  have G0 : Def l.prog w K mg base 1 "_law_mixed" ["script", "k"] m_l_mixed := ok_l_mixed Z  F0
  have G1 : Def l.prog w K mg base 2 "_law_row" ["script", "many"] m_l_row := ok_l_row Z G0 F1
  have G2 : Def l.prog w K mg base 1 "_law_common" ["first", "second"] m_l_common := ok_l_common Z  F2
  have G3 : Def l.prog w K mg base 2 "_law_ratio" ["a", "b"] m_l_ratio := ok_l_ratio Z G2 F3
  have G4 : Def l.prog w K mg base 3 "_law_chance" ["n", "truly", "draws"] m_l_chance := ok_l_chance Z G3 F4
  have G5 : Def l.prog w K mg base 4 "_law_stop" ["first", "second", "limit"] m_l_stop := ok_l_stop Z G4 F5
  have G6 : Def l.prog w K mg base 1 "_law_reached" ["limit", "first", "second", "plans"] m_l_reached := ok_l_reached Z  F6
  have G7 : Def l.prog w K mg base 3 "_law_missed" ["limit", "first", "second", "n"] m_l_missed := ok_l_missed Z G3 G6 F7
  have G8 : Def l.prog w K mg base 1 "_law_is_int" ["value"] m_l_is_int := ok_l_is_int Z  F8
  have G9 : Def l.prog w K mg base 14 "_law_like" ["value", "due"] m_l_like := ok_l_like Z G8 F9
  have G10 : Def l.prog w K mg base 1 "audit_stop" ["first", "second", "limit"] m_audit_stop := ok_audit_stop Z  F10
  have G11 : Def l.prog w K mg base 1 "divisor" ["first", "second"] m_divisor := ok_divisor Z  F11
  have G12 : Def l.prog w K mg base 2 "lowest" ["a", "b"] m_lowest := ok_lowest Z G11 F12
  have G13 : Def l.prog w K mg base 3 "audit_chance" ["n", "truly", "draws"] m_audit_chance := ok_audit_chance Z G12 F13
  have G14 : Def l.prog w K mg base 1 "is_reached" ["limit", "above", "below"] m_is_reached := ok_is_reached Z  F14
  have G15 : Def l.prog w K mg base 3 "audit_miss" ["limit", "first", "second", "n"] m_audit_miss := ok_audit_miss Z G14 G12 F15
  have G16 : Def l.prog w K mg base 2 "audit_row" ["limit", "first", "second", "row"] m_audit_row := ok_audit_row Z G14 F16
  exact fn_ok (fun_mk (st := s_law) l17 c17 k17) sc_law fun cdv A outer s H E hr => body_law Z G1 G3 G5 G7 G9 G10 G13 G6 G15 G4 G16 cdv A outer s H E hr
end L

set_option Elab.async false
set_option linter.all false
set_option maxRecDepth 100000
set_option maxHeartbeats 1000000
set_option exponentiation.threshold 2000000
namespace L
open PySem L2 EV
theorem e_row : m_l_row = d_row := rfl
theorem e_ratio : m_l_ratio = d_ratio := rfl
theorem e_divisor : m_divisor = d_commonB := rfl
theorem e_like : m_l_like = dr_like 12 := by
  have : ∀ n, mr_l_like n = dr_like n := fun n => by
    induction n with
    | zero => rfl
    | succ n ih => exact congrArg (fun φ => runF 3 (C_like φ)) ih
  exact this 12
theorem like1 {d : D} (h : flatD 12 d = true) : m_l_like [d, d] = some (.d (.bool true)) := by rw [e_like]; exact like_ok 12 d h
theorem lowest_ok {a b : Int} (ha : small a) (hb : small b) (h : 0 < b) : m_lowest [.int a, .int b] = some (.d (rat a b)) := by
  unfold m_lowest B_lowest rat
  simp [e_divisor, commonB_ok ha hb, h, fdOk_gcd hb h, Int.fdiv_eq_ediv_of_nonneg]
/-- t (t - 1) .. of n factors -/
def fall (t : Int) : Nat → Int
  | 0 => 1
  | n + 1 => fall t n * (t - n)
theorem fall_pos {t : Int} : ∀ {n : Nat}, (n : Int) ≤ t → 0 < fall t n
  | 0, _ => by simp [fall]
  | n + 1, h => by
    unfold fall
    exact Int.mul_pos (fall_pos (by omega)) (by omega)
theorem fall_zero {t : Nat} : ∀ {n : Nat}, t < n → fall t n = 0
  | n + 1, h => by
    unfold fall
    by_cases e : t < n
    · rw [fall_zero e, Int.zero_mul]
    · have : t = n := by omega
      subst this
      simp
theorem fall_bd {t : Nat} (ht : t ≤ 128) : ∀ {n : Nat}, n ≤ t + 1 → (fall t n).natAbs ≤ 2 ^ (7 * n)
  | 0, _ => by simp [fall]
  | n + 1, h => by
    unfold fall
    rw [Int.natAbs_mul, show 7 * (n + 1) = 7 * n + 7 by omega, Nat.pow_add]
    exact Nat.mul_le_mul (fall_bd ht (by omega)) (by omega)
theorem fall_small {t n : Nat} (ht : t ≤ 128) (h : n ≤ t + 1) : small (fall t n) := by
  have h1 := fall_bd ht h
  have h2 : 2 ^ (7 * n) < 2 ^ 8000 := Nat.pow_lt_pow_right (by omega) (by omega)
  show (fall t n).natAbs < 2 ^ 8000
  omega
/-- the chance that all n drawn of all are truly -/
def chD (all truly n : Nat) : D := rat (fall truly n) (fall all n)
theorem small_zero : small 0 := by
  unfold small
  exact Nat.two_pow_pos _
theorem chance_ok {all truly n : Nat} (h1 : all ≤ 128) (h2 : truly ≤ all) (h3 : n ≤ all) : m_l_chance [.int all, .int truly, .int n] = some (.d (chD all truly n)) := by
  unfold m_l_chance B_l_chance
  have hn : rgB (n : Int) = true := rgB_nat (by omega)
  have hmax : ∀ i : Nat, fall truly i * max 0 ((truly : Int) - i) = fall truly (i + 1) := fun i => by
    show fall truly i * max 0 ((truly : Int) - i) = fall truly i * ((truly : Int) - i)
    by_cases hi : i ≤ truly
    · rw [Int.max_eq_right (by omega)]
    · rw [fall_zero (by omega), Int.zero_mul, Int.zero_mul]
  have loop := forL_ints (t := gN 5) (F := sKill [5] (sPar 3 4 (xMul (xRd 3) (x2 wMax2 (xC (.int 0)) (xSub (xRd 1) (xRd 5)))) (xMul (xRd 4) (xSub (xRd 0) (xRd 5))))) (lo := 0) (n := n)
    (fun i => [some (.d (.int all)), some (.d (.int truly)), some (.d (.int n)), some (.d (.int (fall truly i))), some (.d (.int (fall all i))), none]) fun i hi => by
      have m1 : mulOk (fall truly i) (max 0 ((truly : Int) - i)) = true := mulOk_r (by omega)
      have m2 : mulOk (fall all i) ((all : Int) - i) = true := mulOk_r (by omega)
      simp [turn, m1, m2, hmax]
      rfl
  simp [fall] at loop
  have r := ratio_ok (a := fall truly n) (b := fall all n) (by
    by_cases e : n ≤ truly + 1
    · exact fall_small (by omega) e
    · rw [fall_zero (by omega)]; exact small_zero) (fall_small h1 (by omega)) (fall_pos (by omega))
  simp [hn, loop, e_ratio, r, chD]
theorem audit_chance_ok {all truly n : Nat} (h1 : all ≤ 128) (h2 : truly ≤ all) (h3 : n ≤ all) : m_audit_chance [.int all, .int truly, .int n] = some (.d (chD all truly n)) := by
  unfold m_audit_chance B_audit_chance
  have hn : rgB (n : Int) = true := rgB_nat (by omega)
  by_cases hd : truly < n
  · have : (truly : Int) < n := by omega
    simp [this, chD, fall_zero hd, rat_zero (fall_pos (t := all) (n := n) (by omega))]
  have hd' : ¬ (truly : Int) < n := by omega
  have loop := forL_ints (t := gN 5) (F := sKill [5] (sSeq (sSet 3 (xMul (xRd 3) (xSub (xRd 1) (xRd 5)))) (sSet 4 (xMul (xRd 4) (xSub (xRd 0) (xRd 5)))))) (lo := 0) (n := n)
    (fun i => [some (.d (.int all)), some (.d (.int truly)), some (.d (.int n)), some (.d (.int (fall truly i))), some (.d (.int (fall all i))), none]) fun i hi => by
      have m1 : mulOk (fall truly i) ((truly : Int) - i) = true := mulOk_r (by omega)
      have m2 : mulOk (fall all i) ((all : Int) - i) = true := mulOk_r (by omega)
      simp [turn, m1, m2, fall]
  simp [fall] at loop
  have r := lowest_ok (a := fall truly n) (b := fall all n) (fall_small (by omega) (by omega)) (fall_small h1 (by omega)) (fall_pos (by omega))
  simp [hn, hd', loop, r, chD]
/-- at most the limit -/
def okA (l0 l1 : Int) (all truly n : Nat) : Bool := decide (fall truly n * l1 ≤ l0 * fall all n)
/-- the least n that is ok, from k on -/
def least (p : Nat → Bool) (k : Nat) : Nat → Option Nat
  | 0 => none
  | n + 1 => if p k then some k else least p (k + 1) n
def optD : Option Nat → D
  | none => .none
  | some k => .int k
theorem stop_loop {l0 l1 : Int} {x y : W} {all half : Nat} (h1 : all ≤ 128) (hf : (all : Int).fdiv 2 = half) (hh : half ≤ all) (hl0 : l0.natAbs < 2 ^ 64) (hl1 : l1.natAbs < 2 ^ 64) : ∀ (n k : Nat), k + n ≤ all + 1 →
    (forL (gN 4) (sKill [4, 5] (sFrz 3 (sSeq (sSet 5 (xCall 3 m_l_chance (aC (xVar 3) (aC (xFd (xRd 3) (xC (.int 2))) (aC (xVar 4) (aN)))))) (sIf (tLe (xMul (x2 wIx (xRd 5) (xC (.int 0))) (x2 wIx (xRd 2) (xC (.int 1)))) (xMul (x2 wIx (xRd 2) (xC (.int 0))) (x2 wIx (xRd 5) (xC (.int 1))))) (sRet (xVar 4)) (sNil))))) (intsD (k : Int) n)
      [some x, some y, some (.d (.tuple [.int l0, .int l1])), some (.d (.int all)), none, none]).map (·.1) = some (match least (okA l0 l1 all half) k n with | some j => .rt (.d (.int j)) | none => .nx)
  | 0, k, _ => by simp [intsD, least]
  | n + 1, k, h => by
    have e : intsD (k : Int) (n + 1) = .int k :: intsD ((k + 1 : Nat) : Int) n := by
      unfold intsD
      rw [List.range_succ_eq_map]
      simp
      intro a _
      omega
    have hd : ∀ c : Int, fdOk c 2 = true := fun c => fdOk_lit (by decide) (by decide)
    have c := chance_ok (all := all) (truly := half) (n := k) h1 hh (by omega)
    have cmp := rat_cmp (a := fall half k) (b := fall all k) (c := l0) (d := l1) (fall_pos (by omega))
    have m1 : ∀ c : Int, mulOk c l1 = true := fun c => mulOk_r hl1
    have m2 : ∀ c : Int, mulOk l0 c = true := fun c => mulOk_l hl0
    rw [e, forL_cons, least]
    have ih := stop_loop (x := x) (y := y) h1 hf hh hl0 hl1 n (k + 1) (by omega)
    rw [chD, rat] at c
    have T : turn (gN 4) (sKill [4, 5] (sFrz 3 (sSeq (sSet 5 (xCall 3 m_l_chance (aC (xVar 3) (aC (xFd (xRd 3) (xC (.int 2))) (aC (xVar 4) (aN)))))) (sIf (tLe (xMul (x2 wIx (xRd 5) (xC (.int 0))) (x2 wIx (xRd 2) (xC (.int 1)))) (xMul (x2 wIx (xRd 2) (xC (.int 0))) (x2 wIx (xRd 5) (xC (.int 1))))) (sRet (xVar 4)) (sNil))))) (.int k) [some x, some y, some (.d (.tuple [.int l0, .int l1])), some (.d (.int all)), none, none] = some (if okA l0 l1 all (half) k then .rt (.d (.int k)) else .nx, [some x, some y, some (.d (.tuple [.int l0, .int l1])), some (.d (.int all)), none, none]) := by
      by_cases hq : fall half k * l1 ≤ l0 * fall all k
      · simp [turn, c, hf, hd, m1, m2, cmp.mpr hq, okA, hq]
      · simp [turn, c, hf, hd, m1, m2, mt cmp.mp hq, okA, hq]
    rw [T]
    cases hq : okA l0 l1 all (half) k with
    | true => simp
    | false => simpa using ih
end L

set_option Elab.async false
set_option linter.all false
set_option maxRecDepth 100000
set_option maxHeartbeats 1000000
set_option exponentiation.threshold 2000000
namespace L
open PySem L2 EV
theorem least_eq {p : Nat → Bool} {j : Nat} (hp : p j = true) : ∀ (n k : Nat), k ≤ j → j < k + n → (∀ i, k ≤ i → i < j → p i = false) → least p k n = some j
  | 0, k, h1, h2, _ => by omega
  | n + 1, k, h1, h2, h3 => by
    unfold least
    by_cases e : k = j
    · subst e; rw [if_pos hp]
    · rw [if_neg (by rw [h3 k (by omega) (by omega)]; decide)]
      exact least_eq hp n (k + 1) (by omega) (by omega) fun i a b => h3 i (by omega) b
theorem least_none {p : Nat → Bool} : ∀ (n k : Nat), (∀ i, k ≤ i → i < k + n → p i = false) → least p k n = none
  | 0, k, _ => rfl
  | n + 1, k, h => by
    unfold least
    rw [if_neg (by rw [h k (by omega) (by omega)]; decide)]
    exact least_none n (k + 1) fun i a b => h i (by omega) (by omega)
section
variable {l0 l1 : Int} {a b : Nat}
def stopO (l0 l1 : Int) (all half : Nat) : Option Nat := least (okA l0 l1 all half) 0 (all + 1)
variable {all half : Nat}
theorem stop_ok (h1 : all ≤ 128) (ea : (a : Int) + b = all) (hf : (all : Int).fdiv 2 = half) (hh : half ≤ all) (hl0 : l0.natAbs < 2 ^ 64) (hl1 : l1.natAbs < 2 ^ 64) : m_l_stop [.int a, .int b, .tuple [.int l0, .int l1]] = some (.d (optD (stopO l0 l1 all half))) := by
  have L := stop_loop (x := .d (.int a)) (y := .d (.int b)) h1 hf hh hl0 hl1 (all + 1) 0 (by omega)
  obtain ⟨⟨fl, e'⟩, q1, q2⟩ := Option.map_eq_some_iff.mp L
  have q2 : fl = _ := q2
  have hr : rgB ((all : Int) + 1) = true := rgB_of (by omega)
  have ht : ((all : Int) + 1).toNat = all + 1 := by omega
  unfold m_l_stop B_l_stop stopO
  rw [show ((0 : Nat) : Int) = 0 from rfl] at q1
  simp [ea, hr, ht, q1, q2]
  cases least (okA l0 l1 all half) 0 (all + 1) <;> simp [optD]
def stEnc (l0 l1 : Int) (a b all half : Nat) (k : Nat) : En := [some (.d (.int a)), some (.d (.int b)), some (.d (.tuple [.int l0, .int l1])), some (.d (.int all)), some (.d (.int half)), some (.d (.int (fall half k))), some (.d (.int (fall all k))), some (.d (.int k))]
theorem audit_stop_ok (h1 : all ≤ 128) (ea : (a : Int) + b = all) (hf : (all : Int).fdiv 2 = half) (hh : 2 * half ≤ all) (h2 : 0 < l0) (h3 : l0 < l1) (hl1 : l1.natAbs < 2 ^ 64) : m_audit_stop [.int a, .int b, .tuple [.int l0, .int l1]] = some (.d (optD (stopO l0 l1 all half))) ∧ (0 < all → ∃ k, stopO l0 l1 all half = some k ∧ okA l0 l1 all half k = true ∧ k ≤ all ∧ ∀ j, j < k → okA l0 l1 all half j = false) := by
  have hd : ∀ c : Int, fdOk c 2 = true := fun c => fdOk_lit (by decide) (by decide)
  have m1 : ∀ c : Int, mulOk c l1 = true := fun c => mulOk_r hl1
  have m2 : ∀ c : Int, mulOk l0 c = true := fun c => mulOk_l (by omega)
  unfold m_audit_stop B_audit_stop stopO
  by_cases h0 : all = 0
  · subst h0
    have e : half = 0 := by omega
    subst e
    refine ⟨?_, fun h => absurd h (by omega)⟩
    have hlt : l0 < l1 := h3
    have hle : ¬ l1 ≤ l0 := by omega
    simp [ea, hd, least, okA, fall, hle, optD]
    rw [show (1048576 : Nat) = 1048575 + 1 from rfl, whileL]
    simp [m1, m2, hlt]
  · generalize hF : sSeq (sIf (tGe (xRd 7) (xRd 3)) (sRet (xC .none)) (sNil)) (sSeq (sSet 5 (xMul (xRd 5) (xSub (xRd 4) (xRd 7)))) (sSeq (sSet 6 (xMul (xRd 6) (xSub (xRd 3) (xRd 7)))) (sAug 7 wAddA (xC (.int 1))))) = F
    obtain ⟨k, w1, ⟨w2, w4⟩, w3⟩ := whileL_by (p := tGt (xMul (xRd 5) (x2 wIx (xRd 2) (xC (.int 1)))) (xMul (x2 wIx (xRd 2) (xC (.int 0))) (xRd 6))) (F := F) (stEnc l0 l1 a b all half) (fun k => !okA l0 l1 all half k) (· + 1) (fun k => half + 1 - k)
      (fun k => k ≤ half + 1 ∧ ∀ j, j < k → okA l0 l1 all half j = false)
      (fun k hk => by
        simp [stEnc, okA, m1, m2]
        rw [← decide_not]
        exact decide_eq_decide.mpr Int.not_le.symm) (fun k hk hc => by
        have hc : okA l0 l1 all half k = false := by simpa using hc
        have hk2 : k ≤ half := by
          by_cases e : k ≤ half
          · exact e
          · exfalso
            unfold okA at hc
            rw [fall_zero (show half < k by omega)] at hc
            have := fall_pos (t := (all : Int)) (n := k) (by omega)
            have := Int.mul_pos h2 this
            simp at hc
            omega
        refine ⟨?_, ⟨by omega, fun j hj => ?_⟩, by omega⟩
        · subst hF
          have g1 : ¬ (all : Int) ≤ k := by omega
          have g2 : mulOk (fall half k) ((half : Int) - k) = true := mulOk_r (by omega)
          have g3 : mulOk (fall all k) ((all : Int) - k) = true := mulOk_r (by omega)
          simp [stEnc, g1, g2, g3, fall]
        · by_cases e : j < k
          · exact hk.2 j e
          · have : j = k := by omega
            rw [this]; exact hc) 1048576 0 ⟨by omega, fun j hj => by omega⟩ (by omega)
    have w3 : okA l0 l1 all half k = true := by simpa using w3
    have hl : least (okA l0 l1 all half) 0 (all + 1) = some k := least_eq w3 _ 0 (by omega) (by omega) fun i _ hi => w4 i hi
    refine ⟨?_, fun _ => ⟨k, hl, w3, by omega, w4⟩⟩
    rw [hl]
    simp [stEnc, fall] at w1
    simp [ea, hd, hf, w1, optD]
end
end L

set_option Elab.async false
set_option linter.all false
set_option maxRecDepth 100000
set_option maxHeartbeats 1000000
set_option exponentiation.threshold 2000000
namespace L
open PySem L2 EV
theorem intsD_cons (k n : Nat) : intsD (k : Int) (n + 1) = .int k :: intsD ((k + 1 : Nat) : Int) n := by
  unfold intsD
  rw [List.range_succ_eq_map]
  simp
  intro a _
  omega
def bI (x : Bool) : D := .int (if x then 1 else 0)
def hitB (l0 l1 A B : Int) : Bool := decide (B * l1 ≤ A * l0)
def stepA (a b : Int) (A : Int) (x : Bool) : Int := A * 2 * (if x then b else a)
def fh (a b l0 l1 : Int) : Int → Int → Nat → List Bool → Option Nat
  | _, _, _, [] => none
  | A, B, k, x :: r => if hitB l0 l1 (stepA a b A x) (B * (a + b)) then some (k + 1) else fh a b l0 l1 (stepA a b A x) (B * (a + b)) (k + 1) r
def sm (a : Int) : Prop := a.natAbs < 2 ^ 60
section
variable {a b l0 l1 : Int}
abbrev lim (l0 l1 : Int) : D := .tuple [.int l0, .int l1]
theorem is_reached_ok (h0 : sm l0) (h1 : sm l1) (A B : Int) : m_is_reached [lim l0 l1, .int A, .int B] = some (.d (.bool (hitB l0 l1 A B))) := by
  have m0 : mulOk A l0 = true := mulOk_r (by unfold sm at h0; omega)
  have m1 : mulOk B l1 = true := mulOk_r (by unfold sm at h1; omega)
  unfold m_is_reached B_is_reached hitB
  simp [m0, m1]
theorem reached_loop (ha : sm a) (hb : sm b) (h0 : sm l0) (h1 : sm l1) : ∀ (suf pre : List Bool) (A B : Int),
    (forL (gN 6) (sKill [6] (sSeq (sPar 4 5 (xMul (xMul (xRd 4) (xC (.int 2))) (x2 wIx (xTup (aC (xVar 1) (aC (xVar 2) (aN)))) (x2 wIx (xRd 3) (xRd 6)))) (xMul (xRd 5) (xAdd (xRd 1) (xRd 2)))) (sIf (tGe (xMul (xRd 4) (x2 wIx (xRd 0) (xC (.int 0)))) (xMul (xRd 5) (x2 wIx (xRd 0) (xC (.int 1))))) (sRet (xAdd (xRd 6) (xC (.int 1)))) (sNil)))) (intsD (pre.length : Nat) suf.length)
      [some (.d (lim l0 l1)), some (.d (.int a)), some (.d (.int b)), some (.d (.tuple ((pre ++ suf).map bI))), some (.d (.int A)), some (.d (.int B)), none]).map (·.1) = some (match fh a b l0 l1 A B pre.length suf with | some j => .rt (.d (.int j)) | none => .nx)
  | [], pre, A, B => by simp [intsD, fh]
  | x :: suf, pre, A, B => by
    have ih := reached_loop ha hb h0 h1 suf (pre ++ [x]) (stepA a b A x) (B * (a + b))
    have m1 : ∀ c : Int, mulOk c 2 = true := fun c => mulOk_r (by decide)
    have m2 : ∀ c : Int, mulOk c a = true := fun c => mulOk_r (by unfold sm at ha; omega)
    have m3 : ∀ c : Int, mulOk c b = true := fun c => mulOk_r (by unfold sm at hb; omega)
    have m4 : ∀ c : Int, mulOk c l0 = true := fun c => mulOk_r (by unfold sm at h0; omega)
    have m5 : ∀ c : Int, mulOk c l1 = true := fun c => mulOk_r (by unfold sm at h1; omega)
    have m6 : ∀ c : Int, mulOk c (a + b) = true := fun c => mulOk_r (by unfold sm at ha hb; omega)
    have hx : ((pre ++ x :: suf).map bI)[pre.length]? = some (bI x) := by simp
    rw [show (x :: suf).length = suf.length + 1 from rfl, intsD_cons, forL_cons, fh]
    simp only [List.append_assoc, List.singleton_append, List.length_append, List.length_singleton] at ih
    generalize (pre ++ x :: suf).map bI = row at hx ih
    have T : turn (gN 6) (sKill [6] (sSeq (sPar 4 5 (xMul (xMul (xRd 4) (xC (.int 2))) (x2 wIx (xTup (aC (xVar 1) (aC (xVar 2) (aN)))) (x2 wIx (xRd 3) (xRd 6)))) (xMul (xRd 5) (xAdd (xRd 1) (xRd 2)))) (sIf (tGe (xMul (xRd 4) (x2 wIx (xRd 0) (xC (.int 0)))) (xMul (xRd 5) (x2 wIx (xRd 0) (xC (.int 1))))) (sRet (xAdd (xRd 6) (xC (.int 1)))) (sNil)))) (.int (pre.length : Nat))
      [some (.d (lim l0 l1)), some (.d (.int a)), some (.d (.int b)), some (.d (.tuple row)), some (.d (.int A)), some (.d (.int B)), none] =
      some (if hitB l0 l1 (stepA a b A x) (B * (a + b)) then .rt (.d (.int (pre.length + 1))) else .nx, [some (.d (lim l0 l1)), some (.d (.int a)), some (.d (.int b)), some (.d (.tuple row)), some (.d (.int (stepA a b A x))), some (.d (.int (B * (a + b)))), none]) := by
      cases x with
      | true =>
        by_cases hq : B * (a + b) * l1 ≤ A * 2 * b * l0 <;> simp [turn, hx, bI, m1, m2, m3, m4, m5, m6, hitB, stepA, hq]
      | false =>
        by_cases hq : B * (a + b) * l1 ≤ A * 2 * a * l0 <;> simp [turn, hx, bI, m1, m2, m3, m4, m5, m6, hitB, stepA, hq]
    rw [T]
    cases hq : hitB l0 l1 (stepA a b A x) (B * (a + b)) with
    | true => simp
    | false => simpa using ih
theorem reached_ok (ha : sm a) (hb : sm b) (h0 : sm l0) (h1 : sm l1) (r : List Bool) (hr : r.length ≤ 1000) : m_l_reached [lim l0 l1, .int a, .int b, .tuple (r.map bI)] = some (.d (optD (fh a b l0 l1 1 1 0 r))) := by
  have L := reached_loop ha hb h0 h1 r [] 1 1
  obtain ⟨⟨fl, e'⟩, q1, q2⟩ := Option.map_eq_some_iff.mp L
  have q2 : fl = _ := q2
  have hrg : rgB (r.length : Int) = true := rgB_nat (by omega)
  unfold m_l_reached B_l_reached
  simp at q1
  simp [hrg, q1, q2]
  cases fh a b l0 l1 1 1 0 r <;> simp [optD]
theorem row_loop (ha : sm a) (hb : sm b) (h0 : sm l0) (h1 : sm l1) (row : D) : ∀ (suf : List Bool) (k : Nat) (A B : Int),
    (forL (gT 2 (gsC (gN 6) (gsC (gN 7) (gsN)))) (sKill [6, 7] (sSeq (sSet 4 (xMul (xMul (xRd 4) (xC (.int 2))) (xIf (tEq (xRd 7) (xC (.int 1))) (xVar 2) (xVar 1)))) (sSeq (sSet 5 (xMul (xRd 5) (xAdd (xRd 1) (xRd 2)))) (sIf (tV (xCall 3 m_is_reached (aC (xVar 0) (aC (xVar 4) (aC (xVar 5) (aN)))))) (sRet (xAdd (xRd 6) (xC (.int 1)))) (sNil))))) (((suf.map bI).zipIdx k).map fun q => .tuple [.int (q.2 : Nat), q.1])
      [some (.d (lim l0 l1)), some (.d (.int a)), some (.d (.int b)), some (.d row), some (.d (.int A)), some (.d (.int B)), none, none]).map (·.1) = some (match fh a b l0 l1 A B k suf with | some j => .rt (.d (.int j)) | none => .nx)
  | [], k, A, B => by simp [fh]
  | x :: suf, k, A, B => by
    have ih := row_loop ha hb h0 h1 row suf (k + 1) (stepA a b A x) (B * (a + b))
    have m1 : ∀ c : Int, mulOk c 2 = true := fun c => mulOk_r (by decide)
    have m2 : ∀ c : Int, mulOk c a = true := fun c => mulOk_r (by unfold sm at ha; omega)
    have m3 : ∀ c : Int, mulOk c b = true := fun c => mulOk_r (by unfold sm at hb; omega)
    have m6 : ∀ c : Int, mulOk c (a + b) = true := fun c => mulOk_r (by unfold sm at ha hb; omega)
    have hh := is_reached_ok h0 h1 (stepA a b A x) (B * (a + b))
    rw [List.map_cons, List.zipIdx_cons, List.map_cons, forL_cons, fh]
    have T : turn (gT 2 (gsC (gN 6) (gsC (gN 7) (gsN)))) (sKill [6, 7] (sSeq (sSet 4 (xMul (xMul (xRd 4) (xC (.int 2))) (xIf (tEq (xRd 7) (xC (.int 1))) (xVar 2) (xVar 1)))) (sSeq (sSet 5 (xMul (xRd 5) (xAdd (xRd 1) (xRd 2)))) (sIf (tV (xCall 3 m_is_reached (aC (xVar 0) (aC (xVar 4) (aC (xVar 5) (aN)))))) (sRet (xAdd (xRd 6) (xC (.int 1)))) (sNil))))) (.tuple [.int (k : Nat), bI x])
      [some (.d (lim l0 l1)), some (.d (.int a)), some (.d (.int b)), some (.d row), some (.d (.int A)), some (.d (.int B)), none, none] =
      some (if hitB l0 l1 (stepA a b A x) (B * (a + b)) then .rt (.d (.int (k + 1))) else .nx, [some (.d (lim l0 l1)), some (.d (.int a)), some (.d (.int b)), some (.d row), some (.d (.int (stepA a b A x))), some (.d (.int (B * (a + b)))), none, none]) := by
      cases x with
      | true =>
        simp only [stepA] at hh
        cases hq : hitB l0 l1 (A * 2 * b) (B * (a + b)) <;> simp [turn, bI, m1, m2, m3, m6, stepA, hq] <;> simp at hh <;> simp [hh, hq]
      | false =>
        simp only [stepA] at hh
        cases hq : hitB l0 l1 (A * 2 * a) (B * (a + b)) <;> simp [turn, bI, m1, m2, m3, m6, stepA, hq] <;> simp at hh <;> simp [hh, hq]
    rw [T]
    cases hq : hitB l0 l1 (stepA a b A x) (B * (a + b)) with
    | true => simp
    | false => simpa using ih
theorem audit_row_ok (ha : sm a) (hb : sm b) (h0 : sm l0) (h1 : sm l1) (hl : l0 < l1) (r : List Bool) (hr : r.length ≤ 1000) : m_audit_row [lim l0 l1, .int a, .int b, .tuple (r.map bI)] = some (.d (optD (fh a b l0 l1 1 1 0 r))) := by
  have L := row_loop ha hb h0 h1 (.tuple (r.map bI)) r 0 1 1
  obtain ⟨⟨fl, e'⟩, q1, q2⟩ := Option.map_eq_some_iff.mp L
  have q2 : fl = _ := q2
  have hh := is_reached_ok h0 h1 1 1
  have hn : hitB l0 l1 1 1 = false := by
    unfold hitB
    simp
    exact hl
  rw [hn] at hh
  unfold m_audit_row B_audit_row
  simp [hh, enD, q1, q2]
  cases fh a b l0 l1 1 1 0 r <;> simp [optD]
end
end L

set_option Elab.async false
set_option linter.all false
set_option maxRecDepth 100000
set_option maxHeartbeats 1000000
set_option exponentiation.threshold 2000000
namespace L
open PySem L2 EV
@[simp] theorem asS_o (xs : List D) : asS (.o (.lst xs)) = some xs := rfl
/-! all rows of n bits -/
def rowsN : Nat → List (List Bool)
  | 0 => [[]]
  | n + 1 => (rowsN n).map (· ++ [false]) ++ (rowsN n).map (· ++ [true])
theorem rowsN_len : ∀ n : Nat, (rowsN n).length = 2 ^ n
  | 0 => rfl
  | n + 1 => by simp [rowsN, rowsN_len n]; omega
theorem rowsN_mem : ∀ {n : Nat} {r : List Bool}, r ∈ rowsN n → r.length = n
  | 0, r, h => by simp [rowsN] at h; simp [h]
  | n + 1, r, h => by
    simp only [rowsN, List.mem_append, List.mem_map] at h
    rcases h with ⟨s, h1, rfl⟩ | ⟨s, h1, rfl⟩ <;> simp [rowsN_mem h1]
def cN (n : Nat) (P : List Bool → Bool) : Nat := (rowsN n).countP P
theorem cN_succ (n : Nat) (P : List Bool → Bool) : cN (n + 1) P = cN n (fun r => P (r ++ [false])) + cN n (fun r => P (r ++ [true])) := by
  unfold cN
  rw [rowsN, List.countP_append, List.countP_map, List.countP_map]
  rfl
theorem cN_congr {n : Nat} {P Q : List Bool → Bool} (h : ∀ r, r.length = n → P r = Q r) : cN n P = cN n Q :=
  List.countP_congr fun r hr => by rw [h r (rowsN_mem hr)]
def ones (r : List Bool) : Nat := r.countP id
theorem ones_f (r : List Bool) : ones (r ++ [false]) = ones r := by simp [ones]
theorem ones_t (r : List Bool) : ones (r ++ [true]) = ones r + 1 := by simp [ones]
theorem ones_le (r : List Bool) : ones r ≤ r.length := List.countP_le_length
theorem cN_add (n : Nat) (A : List Bool → Bool) (h : Nat → Bool) (j : Nat) : cN n (fun r => A r || (decide (ones r < j + 1) && h (ones r))) = cN n (fun r => A r || (decide (ones r < j) && h (ones r))) + if h j then cN n (fun r => !A r && ones r == j) else 0 := by
  unfold cN
  induction rowsN n with
  | nil => simp
  | cons r l ih =>
    simp only [List.countP_cons]
    rw [ih]
    by_cases h1 : ones r = j
    · subst h1
      cases A r <;> cases h (ones r) <;> simp <;> omega
    · have h2 : decide (ones r < j + 1) = decide (ones r < j) := decide_eq_decide.mpr (by omega)
      have h3 : (ones r == j) = false := by simpa using h1
      rw [h2, h3]
      cases h j <;> simp <;> omega
section
variable {a b l0 l1 : Int}
/-- no beginning of the row gets there -/
def unr (a b l0 l1 : Int) (r : List Bool) : Bool := (fh a b l0 l1 1 1 0 r).isNone
def val (a b A : Int) (r : List Bool) : Int := r.foldl (stepA a b) A
theorem fh_snoc (x : Bool) : ∀ (r : List Bool) (A B : Int) (k : Nat), (fh a b l0 l1 A B k (r ++ [x])).isNone = ((fh a b l0 l1 A B k r).isNone && !hitB l0 l1 (val a b A (r ++ [x])) (B * (a + b) ^ (r.length + 1)))
  | [], A, B, k => by
    simp only [List.nil_append, fh, val, List.foldl_cons, List.foldl_nil, List.length_nil]
    rw [show (a + b) ^ (0 + 1) = a + b by rw [Int.pow_succ, Int.pow_zero, Int.one_mul]]
    cases hitB l0 l1 (stepA a b A x) (B * (a + b)) <;> simp
  | y :: r, A, B, k => by
    have ih := fh_snoc x r (stepA a b A y) (B * (a + b)) (k + 1)
    simp only [List.cons_append, fh]
    cases hq : hitB l0 l1 (stepA a b A y) (B * (a + b)) with
    | true => simp
    | false =>
      simp only [Bool.false_eq_true, if_false]
      rw [ih]
      simp only [val, List.foldl_cons, List.length_cons]
      rw [show B * (a + b) * (a + b) ^ (r.length + 1) = B * (a + b) ^ (r.length + 1 + 1) by rw [Int.pow_succ (a + b) (r.length + 1), Int.mul_assoc, Int.mul_comm (a + b)]]
def pr (a b : Int) (z o : Nat) : Int := 2 ^ (z + o) * a ^ z * b ^ o
theorem pr_z (z o : Nat) : pr a b (z + 1) o = pr a b z o * 2 * a := by
  unfold pr
  rw [show z + 1 + o = (z + o) + 1 by omega, Int.pow_succ, Int.pow_succ]
  ac_rfl
theorem pr_o (z o : Nat) : pr a b z (o + 1) = pr a b z o * 2 * b := by
  unfold pr
  rw [show z + (o + 1) = (z + o) + 1 by omega, Int.pow_succ, Int.pow_succ]
  ac_rfl
theorem val_snoc (A : Int) (r : List Bool) (x : Bool) : val a b A (r ++ [x]) = stepA a b (val a b A r) x := by simp [val]
theorem snoc_of {n : Nat} {r : List Bool} (h : r.length = n + 1) : ∃ s x, r = s ++ [x] := ⟨_, _, (List.dropLast_concat_getLast (by intro h2; rw [h2] at h; cases h)).symm⟩
theorem val_pr (n : Nat) : ∀ (r : List Bool), r.length = n → val a b 1 r = pr a b (n - ones r) (ones r) := by
  induction n with
  | zero => intro r h; have : r = [] := List.length_eq_zero_iff.mp h; subst this; simp [val, ones, pr]
  | succ n ih =>
    intro r h
    obtain ⟨s, x, rfl⟩ := snoc_of h
    have hs : s.length = n := by simpa using h
    have hle := ones_le s
    rw [val_snoc, ih s hs]
    cases x with
    | false =>
      rw [ones_f, show n + 1 - ones s = (n - ones s) + 1 by omega, pr_z]
      rfl
    | true =>
      rw [ones_t, show n + 1 - (ones s + 1) = n - ones s by omega, pr_o]
      rfl
def hitN (a b l0 l1 : Int) (n j : Nat) : Bool := hitB l0 l1 (pr a b (n - j) j) ((a + b) ^ n)
theorem unr_snoc (n : Nat) (r : List Bool) (x : Bool) (h : r.length = n) : unr a b l0 l1 (r ++ [x]) = (unr a b l0 l1 r && !hitN a b l0 l1 (n + 1) (ones (r ++ [x]))) := by
  unfold unr hitN
  rw [fh_snoc, val_pr (n + 1) (r ++ [x]) (by simp [h]), h, Int.one_mul]
/-- missed: rows that get there; ways: rows that do not, with j ones -/
def mis (a b l0 l1 : Int) (n : Nat) : Nat := cN n fun r => !unr a b l0 l1 r
def way (a b l0 l1 : Int) (n j : Nat) : Nat := cN n fun r => unr a b l0 l1 r && ones r == j
def way2 (a b l0 l1 : Int) (n : Nat) : Nat → Nat
  | 0 => way a b l0 l1 n 0
  | j + 1 => way a b l0 l1 n (j + 1) + way a b l0 l1 n j
def prevU (a b l0 l1 : Int) (r : List Bool) : Bool := unr a b l0 l1 r.dropLast
theorem way2_eq (n j : Nat) : way2 a b l0 l1 n j = cN (n + 1) fun r => prevU a b l0 l1 r && ones r == j := by
  rw [cN_succ]
  simp only [prevU, List.dropLast_concat, ones_f, ones_t]
  cases j with
  | zero =>
    have : cN n (fun r => unr a b l0 l1 r && (ones r + 1 == 0)) = 0 := by
      unfold cN
      rw [List.countP_eq_zero]
      intro r _
      simp
    rw [this]
    rfl
  | succ j =>
    have : (fun r => unr a b l0 l1 r && (ones r + 1 == j + 1)) = fun r => unr a b l0 l1 r && ones r == j := by
      funext r
      congr 1
      simp
    rw [this]
    rfl
theorem unr_split (n : Nat) (r : List Bool) (h : r.length = n + 1) : unr a b l0 l1 r = (prevU a b l0 l1 r && !hitN a b l0 l1 (n + 1) (ones r)) := by
  obtain ⟨s, x, rfl⟩ := snoc_of h
  rw [unr_snoc n s x (by simpa using h)]
  simp [prevU]
theorem way_succ (n j : Nat) : way a b l0 l1 (n + 1) j = if hitN a b l0 l1 (n + 1) j then 0 else way2 a b l0 l1 n j := by
  rw [way2_eq]
  unfold way
  rw [cN_congr (Q := fun r => (prevU a b l0 l1 r && ones r == j) && !hitN a b l0 l1 (n + 1) j) fun r hr => by
    rw [unr_split n r hr]
    by_cases e : ones r = j
    · subst e; simp
    · have : (ones r == j) = false := by simpa using e
      rw [this]; simp]
  cases hitN a b l0 l1 (n + 1) j with
  | true => simp [cN]
  | false => simp
theorem way_top (n : Nat) : way a b l0 l1 n (n + 1) = 0 := by
  unfold way cN
  rw [List.countP_eq_zero]
  intro r hr
  have h1 := rowsN_mem hr
  have h2 := ones_le r
  simp
  intro _
  omega
def misJ (a b l0 l1 : Int) (n j : Nat) : Nat := cN (n + 1) fun r => !prevU a b l0 l1 r || (decide (ones r < j) && hitN a b l0 l1 (n + 1) (ones r))
theorem misJ_zero (n : Nat) : misJ a b l0 l1 n 0 = mis a b l0 l1 n * 2 := by
  unfold misJ
  rw [cN_succ]
  simp [prevU, mis]
  omega
theorem misJ_succ (n j : Nat) : misJ a b l0 l1 n (j + 1) = misJ a b l0 l1 n j + if hitN a b l0 l1 (n + 1) j then way2 a b l0 l1 n j else 0 := by
  unfold misJ
  rw [cN_add, way2_eq]
  simp
theorem misJ_top (n : Nat) : misJ a b l0 l1 n (n + 2) = mis a b l0 l1 (n + 1) := by
  unfold misJ mis
  refine cN_congr fun r hr => ?_
  have h2 := ones_le r
  rw [unr_split n r hr]
  have : ones r < n + 2 := by omega
  simp [this]
/-! the share that gets there is at most the limit -/
def sumL (l : List (List Bool)) (f : List Bool → Int) : Int := (l.map f).sum
def pot (a b l0 l1 : Int) (n : Nat) (r : List Bool) : Int := if unr a b l0 l1 r then l0 * val a b 1 r else l1 * (a + b) ^ n
theorem sumL_le {f g : List Bool → Int} : ∀ (l : List (List Bool)), (∀ r ∈ l, f r ≤ g r) → sumL l f ≤ sumL l g
  | [], _ => by simp [sumL]
  | r :: l, h => by
    have := sumL_le l fun s hs => h s (by simp [hs])
    have h0 := h r (by simp)
    simp only [sumL, List.map_cons, List.sum_cons] at *
    omega
theorem sumL_add (f g : List Bool → Int) : ∀ (l : List (List Bool)), sumL l (fun r => f r + g r) = sumL l f + sumL l g
  | [] => by simp [sumL]
  | r :: l => by
    have := sumL_add f g l
    simp only [sumL, List.map_cons, List.sum_cons] at *
    omega
theorem sumL_mul (c : Int) (f : List Bool → Int) : ∀ (l : List (List Bool)), sumL l (fun r => c * f r) = c * sumL l f
  | [] => by simp [sumL]
  | r :: l => by
    have := sumL_mul c f l
    simp only [sumL, List.map_cons, List.sum_cons] at *
    rw [this, Int.mul_add]
theorem sumN_succ (n : Nat) (f : List Bool → Int) : sumL (rowsN (n + 1)) f = sumL (rowsN n) (fun r => f (r ++ [false]) + f (r ++ [true])) := by
  rw [sumL_add]
  simp [sumL, rowsN, Function.comp_def]
theorem pot_step (ha : 0 ≤ a) (hb : 0 ≤ b) (h0 : 0 ≤ l0) (h1 : 0 ≤ l1) (n : Nat) (r : List Bool) (h : r.length = n) : pot a b l0 l1 (n + 1) (r ++ [false]) + pot a b l0 l1 (n + 1) (r ++ [true]) ≤ (2 * (a + b)) * pot a b l0 l1 n r := by
  unfold pot
  cases hu : unr a b l0 l1 r with
  | false =>
    rw [unr_snoc n r _ h, unr_snoc n r _ h, hu]
    simp only [Bool.false_and, Bool.false_eq_true, if_false]
    rw [Int.pow_succ]
    generalize (a + b) ^ n = s
    rw [show 2 * (a + b) * (l1 * s) = l1 * (s * (a + b)) + l1 * (s * (a + b)) by rw [← Int.two_mul]; ac_rfl]
    omega
  | true =>
    have key : ∀ x : Bool, (if unr a b l0 l1 (r ++ [x]) then l0 * val a b 1 (r ++ [x]) else l1 * (a + b) ^ (n + 1)) ≤ l0 * val a b 1 (r ++ [x]) := fun x => by
      split
      · omega
      · rename_i hn
        have : hitB l0 l1 (val a b 1 (r ++ [x])) ((a + b) ^ (n + 1)) = true := by
          have q := fh_snoc (a := a) (b := b) (l0 := l0) (l1 := l1) x r 1 1 0
          unfold unr at hu hn
          rw [hu, Int.one_mul, h] at q
          rw [q] at hn
          simpa using hn
        have := of_decide_eq_true this
        rw [Int.mul_comm l1, Int.mul_comm l0]
        exact this
    have k1 := key false
    have k2 := key true
    have e : l0 * val a b 1 (r ++ [false]) + l0 * val a b 1 (r ++ [true]) = 2 * (a + b) * (l0 * val a b 1 r) := by
      rw [val_snoc, val_snoc]
      simp only [stepA, Bool.false_eq_true, if_false, if_true]
      generalize val a b 1 r = v
      rw [← Int.mul_add, ← Int.mul_add, show 2 * (a + b) * (l0 * v) = l0 * (v * 2 * (a + b)) by ac_rfl]
    rw [if_pos rfl]
    omega
theorem mis_le (ha : 0 ≤ a) (hb : 0 ≤ b) (hs : 0 < a + b) (h0 : 0 ≤ l0) (h1 : 0 ≤ l1) (n : Nat) : (mis a b l0 l1 n : Int) * l1 ≤ l0 * 2 ^ n := by
  have up : ∀ n : Nat, sumL (rowsN n) (pot a b l0 l1 n) ≤ (2 * (a + b)) ^ n * l0 := fun n => by
    induction n with
    | zero => simp [sumL, rowsN, pot, unr, fh, val]
    | succ n ih =>
      rw [sumN_succ]
      refine Int.le_trans (sumL_le (g := fun r => (2 * (a + b)) * pot a b l0 l1 n r) _ fun r hr => pot_step ha hb h0 h1 n r (rowsN_mem hr)) ?_
      rw [sumL_mul]
      calc (2 * (a + b)) * sumL (rowsN n) (pot a b l0 l1 n) ≤ (2 * (a + b)) * ((2 * (a + b)) ^ n * l0) := Int.mul_le_mul_of_nonneg_left ih (by omega)
        _ = (2 * (a + b)) ^ (n + 1) * l0 := by rw [Int.pow_succ, ← Int.mul_assoc, Int.mul_comm (2 * (a + b))]
  have low : (a + b) ^ n * ((mis a b l0 l1 n : Int) * l1) ≤ sumL (rowsN n) (pot a b l0 l1 n) := by
    unfold mis cN
    have hp : 0 ≤ (a + b) ^ n := Int.pow_nonneg (by omega)
    have : ∀ l : List (List Bool), (a + b) ^ n * ((l.countP (fun r => !unr a b l0 l1 r) : Int) * l1) ≤ sumL l (pot a b l0 l1 n) := fun l => by
      induction l with
      | nil => simp [sumL]
      | cons r l ih =>
        rw [List.countP_cons]
        simp only [sumL, List.map_cons, List.sum_cons] at *
        unfold pot at *
        cases hu : unr a b l0 l1 r with
        | true =>
          have hv : 0 ≤ val a b 1 r := by
            rw [val_pr r.length r rfl]
            unfold pr
            exact Int.mul_nonneg (Int.mul_nonneg (Int.pow_nonneg (by omega)) (Int.pow_nonneg ha)) (Int.pow_nonneg hb)
          have := Int.mul_nonneg h0 hv
          simp at ih ⊢
          omega
        | false =>
          simp at ih ⊢
          rw [Int.add_mul, Int.mul_add, Int.one_mul, Int.mul_comm ((a + b) ^ n) l1]
          omega
    exact this _
  have := Int.le_trans low (up n)
  rw [Int.mul_pow, Int.mul_comm (2 ^ n), Int.mul_assoc, Int.mul_comm (2 ^ n)] at this
  exact Int.le_of_mul_le_mul_left this (Int.pow_pos hs)
end
end L

set_option Elab.async false
set_option linter.all false
set_option maxRecDepth 100000
set_option maxHeartbeats 1000000
set_option exponentiation.threshold 2000000
namespace L
open PySem L2 EV
section
variable {a b l0 l1 : Int}
theorem lim_len_dummy : True := trivial
def rowD (r : List Bool) : D := .tuple (r.map bI)
def snocD (x : D) : D → D
  | .tuple xs => .tuple (xs ++ [x])
  | d => d
theorem rows_lc {i : Nat} (hi : i ≤ 20) (c : D) {f : En → Option W} {env : En} (hf : ∀ xs : List D, xs.length ≤ 20 → f (env.set 7 (some (.d (.tuple xs)))) = some (.d (.tuple (xs ++ [c])))) :
    lcL (gN 7) pY f ((rowsN i).map rowD) env = some ((rowsN i).map fun r => snocD c (rowD r)) := by
  rw [lcL_all (snocD c)]
  · simp [Function.comp_def]
  · intro x hx
    obtain ⟨r, hr, rfl⟩ := List.mem_map.mp hx
    have h1 := rowsN_mem hr
    have h2 := hf (r.map bI) (by simp; omega)
    simp [rowD, snocD, h2]
theorem rows_next (i : Nat) : ((rowsN i).map fun r => snocD (.int 0) (rowD r)) ++ ((rowsN i).map fun r => snocD (.int 1) (rowD r)) = (rowsN (i + 1)).map rowD := by
  simp [rowsN, Function.comp_def, rowD, snocD, bI]
theorem pow_le20 {i : Nat} (hi : i ≤ 20) : 2 ^ i ≤ 1048576 := by
  have := Nat.pow_le_pow_right (n := 2) (by omega) hi
  simpa using this
def isNW : Option W → Bool
  | some w => !isN w
  | none => false
theorem small_nat {m : Nat} (h : m ≤ 1048576) : small m := by
  unfold small
  have : (2 : Nat) ^ 21 ≤ 2 ^ 8000 := Nat.pow_le_pow_right (by omega) (by omega)
  have e : (2 : Nat) ^ 21 = 2097152 := by decide
  omega
theorem mis_bd (n : Nat) : mis a b l0 l1 n ≤ 2 ^ n := by
  unfold mis cN
  rw [← rowsN_len n]
  exact List.countP_le_length
theorem missed_ok (ha : sm a) (hb : sm b) (h0 : sm l0) (h1 : sm l1) {n : Nat} (hn : n ≤ 20) : m_l_missed [lim l0 l1, .int a, .int b, .int n] = some (.d (rat (mis a b l0 l1 n) (2 ^ n))) := by
  unfold m_l_missed B_l_missed
  have hr : rgB (n : Int) = true := rgB_nat (by omega)
  have loop := forL_ints (t := gN 5) (F := sKill [5] (sSet 4 (xAdd (xLc [7] (iB (xRd 4)) (gN 7) (pY) (xAdd (xRd 7) (xTup (aC (xC (.int 0)) (aN))))) (xLc [7] (iB (xRd 4)) (gN 7) (pY) (xAdd (xRd 7) (xTup (aC (xC (.int 1)) (aN)))))))) (lo := 0) (n := n)
    (fun i => [some (.d (lim l0 l1)), some (.d (.int a)), some (.d (.int b)), some (.d (.int n)), some (.o (.lst ((rowsN i).map rowD))), none, none, none]) fun i hi => by
      have L1 := rows_lc (i := i) (by omega) (.int 0) (f := xAdd (xRd 7) (xTup (aC (xC (.int 0)) (aN)))) (env := [some (.d (lim l0 l1)), some (.d (.int a)), some (.d (.int b)), some (.d (.int n)), some (.o (.lst ((rowsN i).map rowD))), some (.d (.int (0 + (i : Nat)))), none, none]) fun xs hx => by
        have : xs.length + 1 ≤ 16777216 := by omega
        simp [this]
      have L2 := rows_lc (i := i) (by omega) (.int 1) (f := xAdd (xRd 7) (xTup (aC (xC (.int 1)) (aN)))) (env := [some (.d (lim l0 l1)), some (.d (.int a)), some (.d (.int b)), some (.d (.int n)), some (.o (.lst ((rowsN i).map rowD))), some (.d (.int (0 + (i : Nat)))), none, none]) fun xs hx => by
        have : xs.length + 1 ≤ 16777216 := by omega
        simp [this]
      have hl : (rowsN i).length ≤ 16777216 := by rw [rowsN_len]; have := pow_le20 (i := i) (by omega); omega
      have hl2 : (rowsN i).length + (rowsN i).length ≤ 16777216 := by rw [rowsN_len]; have := pow_le20 (i := i) (by omega); omega
      have nx := rows_next i
      simp only [Int.zero_add] at L1 L2
      simp only [turn, s_kill, s_set, q_x2, s_lc, s_gN, q_iB, q_rd, s_wipeC, s_wipeN, List.set_cons_succ, List.set_cons_zero, List.getElem?_cons_succ, List.getElem?_cons_zero, Option.bind_some, Option.join_some, asS_o, List.length_map, if_pos hl, Int.zero_add, L1, L2, Option.map_some, v_addoo, if_pos hl2, nx, s_killC, s_killN]
  have hl : (rowsN n).length ≤ 16777216 := by rw [rowsN_len]; have := pow_le20 (i := n) (by omega); omega
  have flt := lcL_filter (t := gN 7) (p := tIsNot (xCall 4 m_l_reached (aC (xVar 0) (aC (xVar 1) (aC (xVar 2) (aC (xVar 7) (aN)))))) (xC .none)) (f := xVar 7) (env := [some (.d (lim l0 l1)), some (.d (.int a)), some (.d (.int b)), some (.d (.int n)), some (.o (.lst ((rowsN n).map rowD))), none, none, none]) id (fun d => isNW (m_l_reached [lim l0 l1, .int a, .int b, d])) ((rowsN n).map rowD) fun x hx => by
    obtain ⟨r, hr, rfl⟩ := List.mem_map.mp hx
    have h2 := rowsN_mem hr
    have h3 := reached_ok ha hb h0 h1 r (by omega)
    refine ⟨?_, fun _ => ?_⟩
    · simp [rowD]
      rw [h3]
      simp [isNW]
    · simp [rowD]
  have cnt : ((((rowsN n).map rowD).filter fun d => isNW (m_l_reached [lim l0 l1, .int a, .int b, d])).map id).length = mis a b l0 l1 n := by
    rw [List.map_id, ← List.countP_eq_length_filter, List.countP_map]
    unfold mis
    refine cN_congr (n := n) fun r hr => ?_
    have h3 := reached_ok ha hb h0 h1 r (by omega)
    show isNW (m_l_reached [lim l0 l1, .int a, .int b, rowD r]) = _
    unfold rowD unr
    rw [h3]
    cases fh a b l0 l1 1 1 0 r <;> simp [isNW, optD]
  have hp := pow_le20 hn
  have rt := ratio_ok (a := (mis a b l0 l1 n : Nat)) (b := ((2 ^ n : Nat) : Int)) (small_nat (by have := mis_bd (a := a) (b := b) (l0 := l0) (l1 := l1) n; omega)) (small_nat hp) (by have := Nat.two_pow_pos n; omega)
  simp only [s_run, List.map_cons, List.map_nil, List.length_cons, List.length_nil]
  simp only [show rowsN 0 = [[]] from rfl, List.map_cons, List.map_nil, rowD] at loop
  simp only [s_seq, s_set, q_lst, q_aC, q_tup, q_aN]
  simp [hr]
  rw [loop]
  generalize hN : ((2 ^ n : Nat) : Int) = N at rt
  have hrl : ((rowsN n).length : Int) = N := by rw [rowsN_len]; exact hN
  obtain ⟨ds, flt, cnt⟩ : ∃ ds : List D, lcL (gN 7) (tIsNot (xCall 4 m_l_reached (aC (xVar 0) (aC (xVar 1) (aC (xVar 2) (aC (xVar 7) (aN)))))) (xC .none)) (xVar 7) ((rowsN n).map rowD) [some (.d (lim l0 l1)), some (.d (.int a)), some (.d (.int b)), some (.d (.int n)), some (.o (.lst ((rowsN n).map rowD))), none, none, none] = some ds ∧ ds.length = mis a b l0 l1 n := ⟨_, flt, cnt⟩
  have h2 : (2 : Int) ^ n = N := by rw [← hN]; exact (Int.natCast_pow 2 n).symm
  simp [hl, flt, cnt, hrl, e_ratio, rt, h2]
end
end L

set_option Elab.async false
set_option linter.all false
set_option maxRecDepth 100000
set_option maxHeartbeats 1000000
set_option exponentiation.threshold 2000000
namespace L
open PySem L2 EV
theorem ixN_nat {n k : Nat} (h : k < n) : ixN n (k : Int) = some k := by
  unfold ixN
  simp [h]
theorem map_set {α : Type} (f : Nat → α) (m j : Nat) (v : α) : ((List.range m).map f).set j v = (List.range m).map fun k => if k = j then v else f k := by
  refine List.ext_getElem (by simp) fun i h1 h2 => ?_
  simp only [List.getElem_set, List.getElem_map, List.getElem_range]
  by_cases e : j = i
  · subst e; simp
  · rw [if_neg e, if_neg (fun q => e q.symm)]
theorem zpD_map (f g : Nat → D) : ∀ (l : List Nat), zpD (l.map f) (l.map g) = l.map fun k => .tuple [f k, g k]
  | [] => rfl
  | x :: l => by simp [zpD, zpD_map f g l]
theorem enD_map (f : Nat → D) (m : Nat) : enD ((List.range m).map f) = (List.range m).map fun j => .tuple [.int (j : Nat), f j] := by
  refine List.ext_getElem (by simp [enD]) fun i h1 h2 => ?_
  simp [enD]
section
variable {a b l0 l1 : Int}
def wayL (a b l0 l1 : Int) (i : Nat) : List D := (List.range (i + 1)).map fun j => .int (way a b l0 l1 i j)
def abL (a b : Int) (i : Nat) : List D := (List.range (i + 1)).map fun j => .int (pr a b (i - j) j)
def way2L (a b l0 l1 : Int) (i : Nat) : List D := (List.range (i + 2)).map fun j => .int (way2 a b l0 l1 i j)
def wayM (a b l0 l1 : Int) (i j : Nat) : List D := (List.range (i + 2)).map fun k => .int (if k < j ∧ hitN a b l0 l1 (i + 1) k = true then (0 : Nat) else way2 a b l0 l1 i k)
def wayP (a b l0 l1 : Int) (i : Nat) : Nat → Nat
  | 0 => 0
  | j + 1 => way a b l0 l1 i j
theorem way2_P (i j : Nat) : way2 a b l0 l1 i j = way a b l0 l1 i j + wayP a b l0 l1 i j := by
  cases j <;> rfl
def addP : D → D
  | .tuple [.int x, .int y] => .int (x + y)
  | d => d
theorem zip_eq (i : Nat) : (zpD (wayL a b l0 l1 i ++ [.int 0]) (.int 0 :: wayL a b l0 l1 i)).map addP = way2L a b l0 l1 i := by
  have e1 : wayL a b l0 l1 i ++ [.int 0] = (List.range (i + 2)).map fun j => .int (way a b l0 l1 i j) := by
    rw [List.range_succ, List.map_append, List.map_singleton, way_top]
    rfl
  have e2 : PyData.int 0 :: wayL a b l0 l1 i = (List.range (i + 2)).map fun j => .int (wayP a b l0 l1 i j) := by
    rw [List.range_succ_eq_map, List.map_cons, List.map_map]
    rfl
  rw [e1, e2, zpD_map, List.map_map]
  unfold way2L
  refine List.map_congr_left fun j _ => ?_
  simp [addP, way2_P]
def dblA (a : Int) : D → D
  | .int x => .int (x * 2 * a)
  | d => d
theorem ab_eq (i : Nat) : (abL a b i).map (dblA a) ++ [.int (pr a b 0 i * 2 * b)] = abL a b (i + 1) := by
  unfold abL
  rw [List.range_succ (n := i + 1), List.map_append, List.map_map, List.map_singleton]
  congr 1
  · refine List.map_congr_left fun j hj => ?_
    have := List.mem_range.mp hj
    show PyData.int (pr a b (i - j) j * 2 * a) = _
    rw [show i + 1 - j = (i - j) + 1 by omega, pr_z]
  · rw [show i + 1 - (i + 1) = 0 by omega, pr_o]
theorem ab_last (i : Nat) : atI (abL a b i) (-1) = some (.int (pr a b 0 i)) := by
  unfold abL
  rw [List.range_succ, List.map_append, List.map_singleton, atI_neg1, Nat.sub_self]
theorem wayM_zero (i : Nat) : wayM a b l0 l1 i 0 = way2L a b l0 l1 i := by
  simp [wayM, way2L]
theorem wayM_top (i : Nat) : wayM a b l0 l1 i (i + 2) = wayL a b l0 l1 (i + 1) := by
  unfold wayM wayL
  refine List.map_congr_left fun k hk => ?_
  have := List.mem_range.mp hk
  rw [way_succ]
  cases hitN a b l0 l1 (i + 1) k <;> simp [this]
theorem wayM_no (i j : Nat) (h : hitN a b l0 l1 (i + 1) j = false) : wayM a b l0 l1 i (j + 1) = wayM a b l0 l1 i j := by
  unfold wayM
  refine List.map_congr_left fun k hk => ?_
  by_cases e : k = j
  · subst e; simp [h]
  · have : (k < j + 1) = (k < j) := by apply propext; omega
    simp only [this]
theorem wayM_yes (i j : Nat) (h : hitN a b l0 l1 (i + 1) j = true) : (wayM a b l0 l1 i j).set j (.int 0) = wayM a b l0 l1 i (j + 1) := by
  unfold wayM
  rw [map_set]
  refine List.map_congr_left fun k hk => ?_
  by_cases e : k = j
  · subst e; simp [h]
  · have : (k < j + 1) = (k < j) := by apply propext; omega
    simp only [if_neg e, this]
theorem wayM_get (i j : Nat) (h : j < i + 2) : (wayM a b l0 l1 i j)[j]? = some (.int (way2 a b l0 l1 i j)) := by
  simp [wayM, h]
@[simp] theorem wayM_len (i j : Nat) : (wayM a b l0 l1 i j).length = i + 2 := by simp [wayM]
@[simp] theorem wayL_len (i : Nat) : (wayL a b l0 l1 i).length = i + 1 := by simp [wayL]
@[simp] theorem way2L_len (i : Nat) : (way2L a b l0 l1 i).length = i + 2 := by simp [way2L]
@[simp] theorem abL_len (i : Nat) : (abL a b i).length = i + 1 := by simp [abL]
/-- one slot holds the list, owned or frozen -/
def isL (w : W) (xs : List D) : Prop := w = .o (.lst xs) ∨ w = .d (.list xs)
theorem inner (ha : sm a) (hb : sm b) (h0 : sm l0) (h1 : sm l1) (i : Nat) (x3 x6 x8 : W) (hx6 : x6 = .d (.int ((a + b) ^ (i + 1)))) :
    forL (gT 2 (gsC (gN 9) (gsC (gN 10) (gsN)))) (sKill [9, 10] (sIf (tV (xCall 3 m_is_reached (aC (xVar 0) (aC (xVar 10) (aC (xVar 6) (aN)))))) (sSeq (sAug 7 wAddA (x2 wIx (xRd 4) (xRd 9))) (sStore 4 (xC (.int 0)) (xRd 9))) (sNil))) (enD (abL a b (i + 1)))
      [some (.d (lim l0 l1)), some (.d (.int a)), some (.d (.int b)), some x3, some (.o (.lst (way2L a b l0 l1 i))), some (.d (.list (abL a b (i + 1)))), some x6, some (.d (.int (mis a b l0 l1 i * 2 : Nat))), some x8, none, none, none, none] =
    some (.nx, [some (.d (lim l0 l1)), some (.d (.int a)), some (.d (.int b)), some x3, some (.o (.lst (wayL a b l0 l1 (i + 1)))), some (.d (.list (abL a b (i + 1)))), some x6, some (.d (.int (mis a b l0 l1 (i + 1)))), some x8, none, none, none, none]) := by
  have L := forL_all (t := gT 2 (gsC (gN 9) (gsC (gN 10) (gsN)))) (F := sKill [9, 10] (sIf (tV (xCall 3 m_is_reached (aC (xVar 0) (aC (xVar 10) (aC (xVar 6) (aN)))))) (sSeq (sAug 7 wAddA (x2 wIx (xRd 4) (xRd 9))) (sStore 4 (xC (.int 0)) (xRd 9))) (sNil))) (enD (abL a b (i + 1)))
    (fun j => [some (.d (lim l0 l1)), some (.d (.int a)), some (.d (.int b)), some x3, some (.o (.lst (wayM a b l0 l1 i j))), some (.d (.list (abL a b (i + 1)))), some x6, some (.d (.int (misJ a b l0 l1 i j))), some x8, none, none, none, none]) fun j x hx => by
      have hx2 : j < i + 2 ∧ x = .tuple [.int (j : Nat), .int (pr a b (i + 1 - j) j)] := by
        unfold abL at hx
        rw [enD_map, List.getElem?_map] at hx
        obtain ⟨k, e1, e2⟩ := Option.map_eq_some_iff.mp hx
        have hk := List.getElem?_eq_some_iff.mp e1
        obtain ⟨hk1, hk2⟩ := hk
        rw [List.getElem_range] at hk2
        subst hk2
        exact ⟨by simpa using hk1, e2.symm⟩
      obtain ⟨hj, rfl⟩ := hx2
      have hh := is_reached_ok h0 h1 (pr a b (i + 1 - j) j) ((a + b) ^ (i + 1))
      rw [show hitB l0 l1 (pr a b (i + 1 - j) j) ((a + b) ^ (i + 1)) = hitN a b l0 l1 (i + 1) j from rfl] at hh
      generalize hp : pr a b (i + 1 - j) j = pv at *
      generalize (a + b) ^ (i + 1) = sv at *
      subst hx6
      have hg := wayM_get (a := a) (b := b) (l0 := l0) (l1 := l1) i j hj
      have hix : ixN (wayM a b l0 l1 i j).length (j : Int) = some j := ixN_nat (by simpa using hj)
      rw [misJ_succ]
      cases hq : hitN a b l0 l1 (i + 1) j with
      | true =>
        rw [hq] at hh
        have hy := wayM_yes i j hq
        generalize abL a b (i + 1) = al
        simp [turn, hh, hg, hix, hy, ixN_nat hj]
      | false =>
        rw [hq] at hh
        have hy := wayM_no i j hq
        generalize abL a b (i + 1) = al
        simp [turn, hh, hy]
  rw [show (enD (abL a b (i + 1))).length = i + 2 by simp [enD]] at L
  simp only [wayM_zero, misJ_zero, wayM_top, misJ_top] at L
  exact L
theorem seq1 {F G : SF} {e e1 : En} (h : F e = some (.nx, e1)) : sSeq F G e = G e1 := by rw [s_seq, h]; rfl
def F8 : SF := sKill [8, 9, 10] (sSeq (sSet 4 (xLc [11, 12] (iZp (xAdd (xRd 4) (xLst (aC (xC (.int 0)) (aN)))) (xAdd (xLst (aC (xC (.int 0)) (aN))) (xRd 4))) (gT 2 (gsC (gN 11) (gsC (gN 12) (gsN)))) (pY) (xAdd (xRd 11) (xRd 12)))) (sSeq (sSet 5 (xAdd (xLc [10] (iB (xRd 5)) (gN 10) (pY) (xMul (xMul (xRd 10) (xC (.int 2))) (xRd 1))) (xLst (aC (xMul (xMul (x2 wIx (xRd 5) (x1 wNeg (xC (.int 1)))) (xC (.int 2))) (xRd 2)) (aN))))) (sSeq (sSet 6 (xMul (xRd 6) (xAdd (xRd 1) (xRd 2)))) (sSeq (sSet 7 (xMul (xRd 7) (xC (.int 2)))) (sFrz 5 (sKill [9, 10] (sFor (iEn (xVar 5)) (gT 2 (gsC (gN 9) (gsC (gN 10) (gsN)))) (sKill [9, 10] (sIf (tV (xCall 3 m_is_reached (aC (xVar 0) (aC (xVar 10) (aC (xVar 6) (aN)))))) (sSeq (sAug 7 wAddA (x2 wIx (xRd 4) (xRd 9))) (sStore 4 (xC (.int 0)) (xRd 9))) (sNil))))))))))
theorem outer (ha : sm a) (hb : sm b) (h0 : sm l0) (h1 : sm l1) (i : Nat) (hi : i ≤ 1000) (x3 x5 : W) (h5 : isL x5 (abL a b i)) :
    turn (gN 8) F8 (.int (0 + (i : Nat))) [some (.d (lim l0 l1)), some (.d (.int a)), some (.d (.int b)), some x3, some (.o (.lst (wayL a b l0 l1 i))), some x5, some (.d (.int ((a + b) ^ i))), some (.d (.int (mis a b l0 l1 i))), none, none, none, none, none] =
    some (.nx, [some (.d (lim l0 l1)), some (.d (.int a)), some (.d (.int b)), some x3, some (.o (.lst (wayL a b l0 l1 (i + 1)))), some (.d (.list (abL a b (i + 1)))), some (.d (.int ((a + b) ^ (i + 1)))), some (.d (.int (mis a b l0 l1 (i + 1)))), none, none, none, none, none]) := by
  have m1 : ∀ c : Int, mulOk c 2 = true := fun c => mulOk_r (by decide)
  have m2 : ∀ c : Int, mulOk c a = true := fun c => mulOk_r (by unfold sm at ha; omega)
  have m3 : ∀ c : Int, mulOk c b = true := fun c => mulOk_r (by unfold sm at hb; omega)
  have m6 : ∀ c : Int, mulOk c (a + b) = true := fun c => mulOk_r (by unfold sm at ha hb; omega)
  have I := inner ha hb h0 h1 i x3 (.d (.int ((a + b) ^ (i + 1)))) (.d (.int (0 + (i : Nat)))) rfl
  rw [Int.pow_succ] at I ⊢
  generalize (a + b) ^ i = sv at I ⊢
  have L1 : ∀ env : En, env.length = 13 → lcL (gT 2 (gsC (gN 11) (gsC (gN 12) (gsN)))) pY (xAdd (xRd 11) (xRd 12)) (zpD (wayL a b l0 l1 i ++ [.int 0]) (.int 0 :: wayL a b l0 l1 i)) env = some (way2L a b l0 l1 i) := fun env he => by
    rw [← zip_eq]
    refine lcL_all addP _ fun x hx => ?_
    have : ∃ p q : Int, x = .tuple [.int p, .int q] := by
      have e1 : wayL a b l0 l1 i ++ [.int 0] = (List.range (i + 2)).map fun j => .int (way a b l0 l1 i j) := by
        rw [List.range_succ, List.map_append, List.map_singleton, way_top]
        rfl
      have e2 : PyData.int 0 :: wayL a b l0 l1 i = (List.range (i + 2)).map fun j => .int (wayP a b l0 l1 i j) := by
        rw [List.range_succ_eq_map, List.map_cons, List.map_map]
        rfl
      rw [e1, e2, zpD_map] at hx
      obtain ⟨j, _, rfl⟩ := List.mem_map.mp hx
      exact ⟨_, _, rfl⟩
    obtain ⟨p, q, rfl⟩ := this
    simp [addP, he]
  have L2 : ∀ env : En, env.length = 13 → env[1]? = some (some (.d (.int a))) → lcL (gN 10) pY (xMul (xMul (xRd 10) (xC (.int 2))) (xRd 1)) (abL a b i) env = some ((abL a b i).map (dblA a)) := fun env he h1 => by
    refine lcL_all (dblA a) _ fun x hx => ?_
    unfold abL at hx
    obtain ⟨j, _, rfl⟩ := List.mem_map.mp hx
    have h1' : env[1]'(by omega) = some (.d (.int a)) := by
      rw [List.getElem?_eq_getElem (by omega)] at h1
      exact Option.some.inj h1
    simp [dblA, he, h1', m1, m2]
  have hz : (zpD (wayL a b l0 l1 i ++ [.int 0]) (.int 0 :: wayL a b l0 l1 i)).length ≤ 16777216 := by
    rw [zpD_len]; simp; omega
  have hl1 : i + 1 + 1 ≤ 16777216 := by omega
  have hl2 : i + 1 ≤ 16777216 := by omega
  have hl3 : 1 + (i + 1) ≤ 16777216 := by omega
  have ae := ab_eq (a := a) (b := b) i
  have al := ab_last (a := a) (b := b) i
  have c2 : (mis a b l0 l1 i : Int) * 2 = ((mis a b l0 l1 i * 2 : Nat) : Int) := by omega
  have A1 : ∀ x8 : W, (sSet 4 (xLc [11, 12] (iZp (xAdd (xRd 4) (xLst (aC (xC (.int 0)) (aN)))) (xAdd (xLst (aC (xC (.int 0)) (aN))) (xRd 4))) (gT 2 (gsC (gN 11) (gsC (gN 12) (gsN)))) (pY) (xAdd (xRd 11) (xRd 12)))) [some (.d (lim l0 l1)), some (.d (.int a)), some (.d (.int b)), some x3, some (.o (.lst (wayL a b l0 l1 i))), some x5, some (.d (.int sv)), some (.d (.int (mis a b l0 l1 i))), some x8, none, none, none, none] = some (.nx, [some (.d (lim l0 l1)), some (.d (.int a)), some (.d (.int b)), some x3, some (.o (.lst (way2L a b l0 l1 i))), some x5, some (.d (.int sv)), some (.d (.int (mis a b l0 l1 i))), some x8, none, none, none, none]) := fun x8 => by
    simp [hl1, hl2, hl3, hz, L1]
  have A2 : ∀ (x4 x8 : W), (sSet 5 (xAdd (xLc [10] (iB (xRd 5)) (gN 10) (pY) (xMul (xMul (xRd 10) (xC (.int 2))) (xRd 1))) (xLst (aC (xMul (xMul (x2 wIx (xRd 5) (x1 wNeg (xC (.int 1)))) (xC (.int 2))) (xRd 2)) (aN))))) [some (.d (lim l0 l1)), some (.d (.int a)), some (.d (.int b)), some x3, some x4, some x5, some (.d (.int sv)), some (.d (.int (mis a b l0 l1 i))), some x8, none, none, none, none] = some (.nx, [some (.d (lim l0 l1)), some (.d (.int a)), some (.d (.int b)), some x3, some x4, some (.o (.lst (abL a b (i + 1)))), some (.d (.int sv)), some (.d (.int (mis a b l0 l1 i))), some x8, none, none, none, none]) := fun x4 x8 => by
    rcases h5 with rfl | rfl
    · simp [hl1, hl2, hl3, L2, al, ae, m1, m3]
    · simp [hl1, hl2, hl3, L2, al, ae, m1, m3]
  unfold F8 turn
  rw [s_gN, Option.bind_some, s_kill]
  simp only [List.set_cons_succ, List.set_cons_zero]
  rw [seq1 (A1 _), seq1 (A2 _ _)]
  generalize abL a b (i + 1) = al at *
  simp only [s_seq, s_set, q_x2, q_rd, q_C, List.set_cons_succ, List.set_cons_zero, List.getElem?_cons_succ, List.getElem?_cons_zero, Option.bind_some, Option.join_some, v_add, v_mul, m6, m1, if_true, Option.map_some, s_frz, s_frzAt, s_kill, s_for, q_iEn, q_var, dat, seqD, c2, I, s_killC, s_killN]
end
end L

set_option Elab.async false
set_option linter.all false
set_option maxRecDepth 100000
set_option maxHeartbeats 1000000
set_option exponentiation.threshold 2000000
namespace L
open PySem L2 EV
section
variable {a b l0 l1 : Int}
theorem audit_miss_ok (ha : sm a) (hb : sm b) (h0 : sm l0) (h1 : sm l1) (hl : l0 < l1) {n : Nat} (hn : n ≤ 20) : m_audit_miss [lim l0 l1, .int a, .int b, .int n] = some (.d (rat (mis a b l0 l1 n) (2 ^ n))) := by
  have hh := is_reached_ok h0 h1 1 1
  have hnn : hitB l0 l1 1 1 = false := by
    unfold hitB
    simp
    exact hl
  rw [hnn] at hh
  have hr : rgB (n : Int) = true := rgB_nat (by omega)
  have hw : wayL a b l0 l1 0 = [.int 1] := by
    simp [wayL, way, cN, rowsN, unr, fh, ones]
  have hab : abL a b 0 = [.int 1] := by simp [abL, pr]
  have hm : mis a b l0 l1 0 = 0 := by simp [mis, cN, rowsN, unr, fh]
  obtain ⟨e, q1, x5, q2, rfl⟩ := forL_intsI (t := gN 8) (F := F8) (lo := 0) (n := n)
    (fun i env => ∃ x5 : W, isL x5 (abL a b i) ∧ env = [some (.d (lim l0 l1)), some (.d (.int a)), some (.d (.int b)), some (.d (.int n)), some (.o (.lst (wayL a b l0 l1 i))), some x5, some (.d (.int ((a + b) ^ i))), some (.d (.int (mis a b l0 l1 i))), none, none, none, none, none])
    [some (.d (lim l0 l1)), some (.d (.int a)), some (.d (.int b)), some (.d (.int n)), some (.o (.lst [.int 1])), some (.o (.lst [.int 1])), some (.d (.int 1)), some (.d (.int 0)), none, none, none, none, none]
    ⟨.o (.lst [.int 1]), by rw [hab]; exact .inl rfl, by rw [hw, hm]; simp⟩ fun i env hi ⟨x5, h5, e⟩ => by
      subst e
      exact ⟨_, outer ha hb h0 h1 i (by omega) _ x5 h5, _, .inr rfl, rfl⟩
  have hp := pow_le20 hn
  have hpow : powOk 1 n = true := by unfold powOk; simp; omega
  have e2 : (2 : Int) ^ n = ((2 ^ n : Nat) : Int) := (Int.natCast_pow 2 n).symm
  have rt := lowest_ok (a := (mis a b l0 l1 n : Nat)) (b := (2 : Int) ^ n) (small_nat (by have := mis_bd (a := a) (b := b) (l0 := l0) (l1 := l1) n; omega)) (by rw [e2]; exact small_nat hp) (Int.pow_pos (by omega))
  unfold m_audit_miss B_audit_miss
  rw [show sKill [8, 9, 10] _ = F8 from rfl]
  simp [hh, hr, q1, hpow, rt]
end
end L

set_option Elab.async false
set_option linter.all false
set_option maxRecDepth 100000
set_option maxHeartbeats 4000000
set_option exponentiation.threshold 2000000
namespace L
open PySem L2 EV
theorem stp {F G : SF} {e e1 : En} {w : W} (h : F e = some (.nx, e1)) (k : ∃ e', G e1 = some (.rt w, e')) : ∃ e', sSeq F G e = some (.rt w, e') := by
  obtain ⟨e', q⟩ := k
  exact ⟨e', by rw [seq1 h, q]⟩
theorem stpE {F G : SF} {e : En} {w : W} {α : Type} {Q : α → Prop} {E : α → En} (h : ∃ s, Q s ∧ F e = some (.nx, E s)) (k : ∀ s, Q s → ∃ e', G (E s) = some (.rt w, e')) : ∃ e', sSeq F G e = some (.rt w, e') := by
  obtain ⟨s, h1, h2⟩ := h
  exact stp h2 (k s h1)
theorem cut_take (xs : List D) (k : Nat) (h : k ≤ xs.length) : cutD xs none (some (k : Int)) = xs.take k := by
  unfold cutD
  rw [HT.sIx_none, HT.sIx_nat]
  simp [Nat.min_eq_left h]
/-- the remainder of a drawn number -/
theorem dr (v : Int) (m : Nat) (hm : 0 < m) : ∃ r : Nat, v.fmod m = (r : Int) ∧ r < m := by
  have := fmod_bd v (m := (m : Int)) (by omega)
  exact ⟨(v.fmod m).toNat, by omega, by omega⟩
theorem rat_lim {p q : Nat} (hp : 0 < p) (hq : p < q) : ∃ l0 l1 : Int, rat p q = lim l0 l1 ∧ 0 < l0 ∧ l0 < l1 ∧ l1 ≤ q := by
  refine ⟨_, _, rfl, ?_⟩
  obtain ⟨x, hx⟩ := Int.gcd_dvd_left (a := (p : Int)) (b := q)
  obtain ⟨y, hy⟩ := Int.gcd_dvd_right (a := (p : Int)) (b := q)
  have hg : (0 : Int) < Int.gcd (p : Int) q := by
    have := Int.gcd_pos_of_ne_zero_right (p : Int) (b := (q : Int)) (by omega)
    omega
  generalize (Int.gcd (p : Int) q : Int) = g at *
  rw [hx, hy, Int.mul_ediv_cancel_left _ (by omega), Int.mul_ediv_cancel_left _ (by omega)]
  have h1 : 0 < x := Int.pos_of_mul_pos_right (by rw [← hx]; omega) (by omega)
  have h2 : x < y := Int.lt_of_mul_lt_mul_left (a := g) (by rw [← hx, ← hy]; omega) (by omega)
  have h3 : 1 * y ≤ g * y := Int.mul_le_mul_of_nonneg_right (by omega) (by omega)
  exact ⟨h1, h2, by omega⟩
@[simp] theorem flat_opt (o : Option Nat) : flatD 12 (optD o) = true := by cases o <;> simp [optD, flatD]

theorem law_body (ns : List Int) (row : List D) (g : Nat → Int) (hrow : ∀ k, k < 30 → row[k]? = some (.int (g k))) (hc : m_l_row [.list (ns.map .int), .int 30] = some (.o (.lst row))) : ∃ e', B_law [some (.d (.list (ns.map .int))), none, none, none, none, none, none, none, none, none, none, none, none, none, none, none, none, none, none, none, none] = some (.rt (.d (.bool true)), e') := by
  have G := fun k (h : k < 30) => hrow k h
  unfold B_law
  refine stp (e1 := [some (.d (.list (ns.map .int))), some (.o (.lst row)), none, none, none, none, none, none, none, none, none, none, none, none, none, none, none, none, none, none, none]) (by simp [hc]) ?_
  obtain ⟨f', hf, hf1⟩ := dr (g 0) 60 (by omega)
  obtain ⟨s', hs, hs1⟩ := dr (g 1) 60 (by omega)
  obtain ⟨κ, hk, _⟩ := dr (g 2) 6 (by omega)
  obtain ⟨u', hu, hu1⟩ := dr (g 3) 40 (by omega)
  obtain ⟨p', hp, hp1⟩ := dr (g 4) 3 (by omega)
  obtain ⟨n', hn, hn1⟩ := dr (g 5) 40 (by omega)
  obtain ⟨t', ht, ht1⟩ := dr (g 6) (n' + 2) (by omega)
  obtain ⟨d', hd, hd1⟩ := dr (g 7) (n' + 2) (by omega)
  obtain ⟨a', ha, ha1⟩ := dr (g 8) 4 (by omega)
  obtain ⟨m', hm, hm1⟩ := dr (g 21) 13 (by omega)
  obtain ⟨z, hz, hz1⟩ := dr (g 22) 8 (by omega)
  have c0 := G 0 (by omega); have c1 := G 1 (by omega); have c2 := G 2 (by omega); have c3 := G 3 (by omega); have c4 := G 4 (by omega); have c5 := G 5 (by omega); have c6 := G 6 (by omega); have c7 := G 7 (by omega); have c8 := G 8 (by omega); have c21 := G 21 (by omega); have c22 := G 22 (by omega)
  simp only [show ((60 : Nat) : Int) = 60 from rfl, show ((6 : Nat) : Int) = 6 from rfl, show ((40 : Nat) : Int) = 40 from rfl, show ((3 : Nat) : Int) = 3 from rfl, show ((4 : Nat) : Int) = 4 from rfl, show ((13 : Nat) : Int) = 13 from rfl, show ((8 : Nat) : Int) = 8 from rfl] at hf hs hk hu hp hn ha hm hz
  obtain ⟨f, ef, hf2, hf3⟩ : ∃ f : Nat, 1 + (f' : Int) = f ∧ 1 ≤ f ∧ f ≤ 60 := ⟨1 + f', by omega, by omega, by omega⟩
  obtain ⟨n, en, hn2⟩ : ∃ n : Nat, 1 + (n' : Int) = n ∧ n = n' + 1 := ⟨1 + n', by omega, by omega⟩

  refine stp (e1 := [some (.d (.list (ns.map .int))), some (.o (.lst row)), some (.d (.int f)), some (.d (.int s')), none, none, none, none, none, none, none, none, none, none, none, none, none, none, none, none, none]) (by simp [c0, c1, hf, hs, ef]) ?_
  refine stp (e1 := [some (.d (.list (ns.map .int))), some (.o (.lst row)), some (.d (.int f)), some (.d (.int s')), some (.d (.int κ)), none, none, none, none, none, none, none, none, none, none, none, none, none, none, none, none]) (by simp [c2, hk]) ?_
  refine stpE (Q := fun s : Nat => s ≤ 60) (E := fun s => [some (.d (.list (ns.map .int))), some (.o (.lst row)), some (.d (.int f)), some (.d (.int s)), some (.d (.int κ)), none, none, none, none, none, none, none, none, none, none, none, none, none, none, none, none]) ?_ fun s0 hs0 => ?_
  · by_cases q : (κ : Int) = 0
    · exact ⟨0, by omega, by simp [q]⟩
    · exact ⟨s', by omega, by simp [q]; omega⟩
  refine stpE (Q := fun s : Nat => s ≤ 60) (E := fun s => [some (.d (.list (ns.map .int))), some (.o (.lst row)), some (.d (.int f)), some (.d (.int s)), some (.d (.int κ)), none, none, none, none, none, none, none, none, none, none, none, none, none, none, none, none]) ?_ fun s1 hs1' => ?_
  · by_cases q : (κ : Int) = 1
    · exact ⟨f, by omega, by simp [q]⟩
    · exact ⟨s0, by omega, by simp [q]⟩
  refine stpE (Q := fun s : Nat => s ≤ 60) (E := fun s => [some (.d (.list (ns.map .int))), some (.o (.lst row)), some (.d (.int f)), some (.d (.int s)), some (.d (.int κ)), none, none, none, none, none, none, none, none, none, none, none, none, none, none, none, none]) ?_ fun s hs2 => ?_
  · by_cases q : 3 < (κ : Int)
    · obtain ⟨r, hr, hr1⟩ := dr (g 1) (f + 1) (by omega)
      have hr : (g 1).fmod ((f : Int) + 1) = r := hr
      have hz0 : ¬ ((f : Int) + 1 = 0) := by omega
      exact ⟨r, by omega, by simp [q, c1, hr, hz0]⟩
    · exact ⟨s1, by omega, by simp [q]⟩
  obtain ⟨u, eu, hu2⟩ : ∃ u : Nat, 2 + (u' : Int) = u ∧ u = u' + 2 := ⟨2 + u', by omega, by omega⟩
  refine stp (e1 := [some (.d (.list (ns.map .int))), some (.o (.lst row)), some (.d (.int f)), some (.d (.int s)), some (.d (.int κ)), some (.d (.int u)), none, none, none, none, none, none, none, none, none, none, none, none, none, none, none]) (by simp [c3, hu, eu]) ?_
  obtain ⟨p, ep, hp2⟩ : ∃ p : Nat, 1 + (p' : Int) = p ∧ p = p' + 1 := ⟨1 + p', by omega, by omega⟩
  obtain ⟨q, eq, hq2⟩ : ∃ q : Nat, (u : Int) + 2 = q ∧ q = u + 2 := ⟨u + 2, by omega, by omega⟩
  obtain ⟨l0, l1, hl, h0, h1, h2⟩ := rat_lim (p := p) (q := q) (by omega) (by omega)
  have rt := ratio_ok (a := (p : Int)) (b := (q : Int)) (small_nat (by omega)) (small_nat (by omega)) (by omega)
  rw [hl, ← e_ratio] at rt
  refine stp (e1 := [some (.d (.list (ns.map .int))), some (.o (.lst row)), some (.d (.int f)), some (.d (.int s)), some (.d (.int κ)), some (.d (.int u)), some (.d (lim l0 l1)), none, none, none, none, none, none, none, none, none, none, none, none, none, none]) (by simp [c4, hp, ep, eq, rt]) ?_
  have sm0 : sm l0 := by unfold sm; omega
  have sm1 : sm l1 := by unfold sm; omega
  obtain ⟨all, eall, hall⟩ : ∃ all : Nat, (f : Int) + s = all ∧ all = f + s := ⟨f + s, by omega, rfl⟩
  obtain ⟨half, ehalf, hhalf⟩ : ∃ half : Nat, (all : Int).fdiv 2 = half ∧ 2 * half ≤ all := by
    refine ⟨all / 2, ?_, by omega⟩
    rw [Int.fdiv_eq_ediv_of_nonneg _ (by omega)]; omega
  have st := stop_ok (l0 := l0) (l1 := l1) (a := f) (b := s) (all := all) (half := half) (by omega) eall ehalf (by omega) (by omega) (by omega)
  obtain ⟨as1, as2⟩ := audit_stop_ok (l0 := l0) (l1 := l1) (a := f) (b := s) (all := all) (half := half) (by omega) eall ehalf hhalf h0 h1 (by omega)
  obtain ⟨k, hk1, hk2, hk3, hk4⟩ := as2 (by omega)
  rw [hk1] at st as1
  have as0 := (audit_stop_ok (l0 := l0) (l1 := l1) (a := 0) (b := 0) (all := 0) (half := 0) (by omega) rfl rfl (by omega) h0 h1 (by omega)).1
  have no : stopO l0 l1 0 0 = none := by
    have : ¬ l1 ≤ l0 := by omega
    simp [stopO, least, okA, fall, this]
  rw [no] at as0
  simp only [optD] at st as1 as0
  simp only [show ((0 : Nat) : Int) = 0 from rfl] at as0
  have lk : m_l_like [.int (k : Nat), .int (k : Nat)] = some (.d (.bool true)) := like1 (by simp [flatD])
  have hd2 : ∀ c : Int, fdOk c 2 = true := fun c => fdOk_lit (by decide) (by decide)
  have m1 : ∀ c : Int, mulOk c l1 = true := fun c => mulOk_r (by omega)
  have m2 : ∀ c : Int, mulOk l0 c = true := fun c => mulOk_l (by omega)
  refine stp (e1 := [some (.d (.list (ns.map .int))), some (.o (.lst row)), some (.d (.int f)), some (.d (.int s)), some (.d (.int κ)), some (.d (.int u)), some (.d (lim l0 l1)), some (.d (.int k)), none, none, none, none, none, none, none, none, none, none, none, none, none]) (by simp [st]) ?_
  refine stp (e1 := [some (.d (.list (ns.map .int))), some (.o (.lst row)), some (.d (.int f)), some (.d (.int s)), some (.d (.int κ)), some (.d (.int u)), some (.d (lim l0 l1)), some (.d (.int k)), none, none, none, none, none, none, none, none, none, none, none, none, none]) (by simp [as1, as0, lk]) ?_
  refine stp (e1 := [some (.d (.list (ns.map .int))), some (.o (.lst row)), some (.d (.int f)), some (.d (.int s)), some (.d (.int κ)), some (.d (.int u)), some (.d (lim l0 l1)), some (.d (.int k)), some (.d (.int half)), none, none, none, none, none, none, none, none, none, none, none, none]) (by simp [eall, ehalf, hd2]) ?_
  have lkc : ∀ x : Nat, m_l_like [chD all half x, chD all half x] = some (.d (.bool true)) := fun x => like1 (by simp [chD])
  refine stp (e1 := [some (.d (.list (ns.map .int))), some (.o (.lst row)), some (.d (.int f)), some (.d (.int s)), some (.d (.int κ)), some (.d (.int u)), some (.d (lim l0 l1)), some (.d (.int k)), some (.d (.int half)), none, none, none, none, none, none, none, none, none, none, none, none]) ?_ ?_
  · have T : ∀ x : Nat, x ≤ all → okA l0 l1 all half x = decide (x = k) → turn (gN 9) (sKill [9, 10] (sIf (EV.tGe (xRd 9) (xC (.int 0))) (sSeq (sSet 10 (xCall 3 m_audit_chance (aC (xAdd (xRd 2) (xRd 3)) (aC (xVar 8) (aC (xVar 9) (aN)))))) (sSeq (sIf (EV.tN (EV.tV (xCall 2 m_l_like (aC (xVar 10) (aC (xCall 3 m_l_chance (aC (xAdd (xRd 2) (xRd 3)) (aC (xVar 8) (aC (xVar 9) (aN))))) (aN)))))) (sRet (xC (.bool false))) (sNil)) (sIf (EV.tNe (xB (EV.tLe (xMul (x2 wIx (xRd 10) (xC (.int 0))) (x2 wIx (xRd 6) (xC (.int 1)))) (xMul (x2 wIx (xRd 6) (xC (.int 0))) (x2 wIx (xRd 10) (xC (.int 1)))))) (xB (EV.tEq (xRd 9) (xRd 7)))) (sRet (xC (.bool false))) (sNil)))) (sNil))) (.int x) [some (.d (.list (ns.map .int))), some (.o (.lst row)), some (.d (.int f)), some (.d (.int s)), some (.d (.int κ)), some (.d (.int u)), some (.d (lim l0 l1)), some (.d (.int k)), some (.d (.int half)), none, none, none, none, none, none, none, none, none, none, none, none] = some (.nx, [some (.d (.list (ns.map .int))), some (.o (.lst row)), some (.d (.int f)), some (.d (.int s)), some (.d (.int κ)), some (.d (.int u)), some (.d (lim l0 l1)), some (.d (.int k)), some (.d (.int half)), none, none, none, none, none, none, none, none, none, none, none, none]) := fun x hx ho => by
      have q1 := audit_chance_ok (all := all) (truly := half) (n := x) (by omega) (by omega) hx
      have q2 := chance_ok (all := all) (truly := half) (n := x) (by omega) (by omega) hx
      have q3 := lkc x
      have cmp := rat_cmp (a := fall half x) (b := fall all x) (c := l0) (d := l1) (fall_pos (by omega))
      have hx0 : (0 : Int) ≤ x := by omega
      have hxk : ((x : Int) == (k : Int)) = decide (x = k) := by
        by_cases e : x = k
        · subst e; simp
        · simp [e]; omega
      unfold chD rat at q1 q2 q3
      unfold okA at ho
      have ho2 := cmp.trans (decide_eq_decide.mp ho)
      clear cmp ho
      generalize fall half x / ((fall half x).gcd (fall all x) : Int) = A at *
      generalize fall all x / ((fall half x).gcd (fall all x) : Int) = B at *
      simp [turn, eall, q1, q2, q3, m1, m2, ho2, hxk]
    have T1 : ∀ x : Int, x < 0 → turn (gN 9) (sKill [9, 10] (sIf (EV.tGe (xRd 9) (xC (.int 0))) (sSeq (sSet 10 (xCall 3 m_audit_chance (aC (xAdd (xRd 2) (xRd 3)) (aC (xVar 8) (aC (xVar 9) (aN)))))) (sSeq (sIf (EV.tN (EV.tV (xCall 2 m_l_like (aC (xVar 10) (aC (xCall 3 m_l_chance (aC (xAdd (xRd 2) (xRd 3)) (aC (xVar 8) (aC (xVar 9) (aN))))) (aN)))))) (sRet (xC (.bool false))) (sNil)) (sIf (EV.tNe (xB (EV.tLe (xMul (x2 wIx (xRd 10) (xC (.int 0))) (x2 wIx (xRd 6) (xC (.int 1)))) (xMul (x2 wIx (xRd 6) (xC (.int 0))) (x2 wIx (xRd 10) (xC (.int 1)))))) (xB (EV.tEq (xRd 9) (xRd 7)))) (sRet (xC (.bool false))) (sNil)))) (sNil))) (.int x) [some (.d (.list (ns.map .int))), some (.o (.lst row)), some (.d (.int f)), some (.d (.int s)), some (.d (.int κ)), some (.d (.int u)), some (.d (lim l0 l1)), some (.d (.int k)), some (.d (.int half)), none, none, none, none, none, none, none, none, none, none, none, none] = some (.nx, [some (.d (.list (ns.map .int))), some (.o (.lst row)), some (.d (.int f)), some (.d (.int s)), some (.d (.int κ)), some (.d (.int u)), some (.d (lim l0 l1)), some (.d (.int k)), some (.d (.int half)), none, none, none, none, none, none, none, none, none, none, none, none]) := fun x hx => by
      have : ¬ (0 : Int) ≤ x := by omega
      simp [turn, this]
    have Tk := T k (by omega) (by rw [hk2]; simp)
    have Tj : turn (gN 9) (sKill [9, 10] (sIf (EV.tGe (xRd 9) (xC (.int 0))) (sSeq (sSet 10 (xCall 3 m_audit_chance (aC (xAdd (xRd 2) (xRd 3)) (aC (xVar 8) (aC (xVar 9) (aN)))))) (sSeq (sIf (EV.tN (EV.tV (xCall 2 m_l_like (aC (xVar 10) (aC (xCall 3 m_l_chance (aC (xAdd (xRd 2) (xRd 3)) (aC (xVar 8) (aC (xVar 9) (aN))))) (aN)))))) (sRet (xC (.bool false))) (sNil)) (sIf (EV.tNe (xB (EV.tLe (xMul (x2 wIx (xRd 10) (xC (.int 0))) (x2 wIx (xRd 6) (xC (.int 1)))) (xMul (x2 wIx (xRd 6) (xC (.int 0))) (x2 wIx (xRd 10) (xC (.int 1)))))) (xB (EV.tEq (xRd 9) (xRd 7)))) (sRet (xC (.bool false))) (sNil)))) (sNil))) (.int ((k : Int) - 1)) [some (.d (.list (ns.map .int))), some (.o (.lst row)), some (.d (.int f)), some (.d (.int s)), some (.d (.int κ)), some (.d (.int u)), some (.d (lim l0 l1)), some (.d (.int k)), some (.d (.int half)), none, none, none, none, none, none, none, none, none, none, none, none] = some (.nx, [some (.d (.list (ns.map .int))), some (.o (.lst row)), some (.d (.int f)), some (.d (.int s)), some (.d (.int κ)), some (.d (.int u)), some (.d (lim l0 l1)), some (.d (.int k)), some (.d (.int half)), none, none, none, none, none, none, none, none, none, none, none, none]) := by
      by_cases e : k = 0
      · exact T1 ((k : Int) - 1) (by omega)
      · obtain ⟨j, rfl⟩ : ∃ j, k = j + 1 := ⟨k - 1, by omega⟩
        have := T j (by omega) (by rw [hk4 j (by omega)]; simp)
        rw [show (((j + 1 : Nat) : Int) - 1) = (j : Int) by omega]
        exact this
    simp only [s_kill, s_for, q_iS, q_tup, q_aC, q_aN, q_x2, q_rd, q_var, q_C, List.getElem?_cons_succ, List.getElem?_cons_zero, Option.bind_some, Option.join_some, v_int, dat, Option.map_some, List.length_cons, List.length_nil, seqD]
    rw [if_pos (by decide)]
    simp only [Option.bind_some, seqD, forL_cons, Tj, Tk, forL_nil, Option.map_some, s_killC, s_killN, List.set_cons_succ, List.set_cons_zero]

  refine stp (e1 := [some (.d (.list (ns.map .int))), some (.o (.lst row)), some (.d (.int f)), some (.d (.int s)), some (.d (.int κ)), some (.d (.int u)), some (.d (lim l0 l1)), some (.d (.int k)), some (.d (.int half)), none, none, some (.d (.int n)), none, none, none, none, none, none, none, none, none]) (by simp [c5, hn, en]) ?_
  have nz : ¬ ((n : Int) + 1 = 0) := by omega
  have en2 : ((n' + 2 : Nat) : Int) = (n : Int) + 1 := by omega
  rw [en2] at ht hd
  refine stp (e1 := [some (.d (.list (ns.map .int))), some (.o (.lst row)), some (.d (.int f)), some (.d (.int s)), some (.d (.int κ)), some (.d (.int u)), some (.d (lim l0 l1)), some (.d (.int k)), some (.d (.int half)), some (.d (.int d')), none, some (.d (.int n)), some (.d (.int t')), none, none, none, none, none, none, none, none]) (by simp [c6, c7, ht, hd, nz]) ?_
  refine stp (e1 := [some (.d (.list (ns.map .int))), some (.o (.lst row)), some (.d (.int f)), some (.d (.int s)), some (.d (.int κ)), some (.d (.int u)), some (.d (lim l0 l1)), some (.d (.int k)), some (.d (.int half)), some (.d (.int d')), none, some (.d (.int n)), some (.d (.int t')), none, none, none, none, none, none, none, none]) ?_ ?_
  · have T : ∀ x : Nat, x ≤ n → turn (gN 13) (sKill [13] (sIf (EV.tN (EV.tV (xCall 2 m_l_like (aC (xCall 3 m_audit_chance (aC (xVar 11) (aC (xVar 12) (aC (xVar 13) (aN))))) (aC (xCall 3 m_l_chance (aC (xVar 11) (aC (xVar 12) (aC (xVar 13) (aN))))) (aN)))))) (sRet (xC (.bool false))) (sNil))) (.int x) [some (.d (.list (ns.map .int))), some (.o (.lst row)), some (.d (.int f)), some (.d (.int s)), some (.d (.int κ)), some (.d (.int u)), some (.d (lim l0 l1)), some (.d (.int k)), some (.d (.int half)), some (.d (.int d')), none, some (.d (.int n)), some (.d (.int t')), none, none, none, none, none, none, none, none] = some (.nx, [some (.d (.list (ns.map .int))), some (.o (.lst row)), some (.d (.int f)), some (.d (.int s)), some (.d (.int κ)), some (.d (.int u)), some (.d (lim l0 l1)), some (.d (.int k)), some (.d (.int half)), some (.d (.int d')), none, some (.d (.int n)), some (.d (.int t')), none, none, none, none, none, none, none, none]) := fun x hx => by
      have q1 := audit_chance_ok (all := n) (truly := t') (n := x) (by omega) (by omega) hx
      have q2 := chance_ok (all := n) (truly := t') (n := x) (by omega) (by omega) hx
      have q3 : m_l_like [chD n t' x, chD n t' x] = some (.d (.bool true)) := like1 (by simp [chD])
      simp [turn, q1, q2, q3]
    have Ta := T d' (by omega)
    have Tb := T t' (by omega)
    have Tc := T (min n (t' + 1)) (by omega)
    rw [show ((min n (t' + 1) : Nat) : Int) = min (n : Int) ((t' : Int) + 1) by omega] at Tc
    simp only [s_kill, s_for, q_iS, q_tup, q_aC, q_aN, q_x2, q_rd, q_var, q_C, List.getElem?_cons_succ, List.getElem?_cons_zero, Option.bind_some, Option.join_some, v_add, v_min2, dat, Option.map_some, List.length_cons, List.length_nil, seqD]
    rw [if_pos (by decide)]
    simp only [Option.bind_some, seqD, forL_cons, Ta, Tb, Tc, forL_nil, Option.map_some, s_killC, s_killN, List.set_cons_succ, List.set_cons_zero]
  obtain ⟨pt, ept, hpt⟩ : ∃ pt : Nat, 1 + (a' : Int) = pt ∧ pt = a' + 1 := ⟨1 + a', by omega, by omega⟩
  refine stp (e1 := [some (.d (.list (ns.map .int))), some (.o (.lst row)), some (.d (.int f)), some (.d (.int s)), some (.d (.int κ)), some (.d (.int u)), some (.d (lim l0 l1)), some (.d (.int k)), some (.d (.int half)), some (.d (.int d')), none, some (.d (.int n)), some (.d (.int t')), none, some (.d (.int pt)), none, none, none, none, none, none]) (by simp [c8, ha, ept]) ?_
  refine stpE (Q := fun pl : List Bool => pl.length ≤ 12) (E := fun pl => [some (.d (.list (ns.map .int))), some (.o (.lst row)), some (.d (.int f)), some (.d (.int s)), some (.d (.int κ)), some (.d (.int u)), some (.d (lim l0 l1)), some (.d (.int k)), some (.d (.int half)), some (.d (.int d')), none, some (.d (.int n)), some (.d (.int t')), none, some (.d (.int pt)), some (.d (.tuple (pl.map bI))), none, none, none, none, none]) ?_ fun pl hpl => ?_
  · have pz : ¬ ((pt : Int) + 1 = 0) := by omega
    have hmr : rgB (m' : Int) = true := rgB_nat (by omega)
    have hml : m' ≤ 16777216 := by omega
    refine ⟨(List.range m').map fun k => (g (9 + k)).fmod ((pt : Int) + 1) == 0, by simp; omega, ?_⟩
    have L := lcL_all (t := gN 20) (f := x1 wToI (xB (EV.tEq (xMod (x1 wToI (x2 wIx (xRd 1) (xAdd (xC (.int 9)) (xRd 20)))) (xAdd (xRd 14) (xC (.int 1)))) (xC (.int 0))))) (env := [some (.d (.list (ns.map .int))), some (.o (.lst row)), some (.d (.int f)), some (.d (.int s)), some (.d (.int κ)), some (.d (.int u)), some (.d (lim l0 l1)), some (.d (.int k)), some (.d (.int half)), some (.d (.int d')), none, some (.d (.int n)), some (.d (.int t')), none, some (.d (.int pt)), none, none, none, none, none, none]) (fun d => match d with | .int k => bI ((g (9 + k.toNat)).fmod ((pt : Int) + 1) == 0) | d => d) (intsD 0 m') fun x hx => by
      obtain ⟨i, hi⟩ := List.getElem?_of_mem hx
      obtain ⟨hi1, rfl⟩ := intsD_get hi
      have h9 := G (9 + i) (by omega)
      have e9 : (9 + (0 + (i : Int))) = ((9 + i : Nat) : Int) := by omega
      have a9 : atI row (9 + (i : Int)) = some (.int (g (9 + i))) := by
        rw [show (9 + (i : Int)) = ((9 + i : Nat) : Int) by omega, atI_cast]
        exact h9
      simp [a9, pz, bI]
    have e : (intsD 0 m').map (fun d => match d with | .int k => bI ((g (9 + k.toNat)).fmod ((pt : Int) + 1) == 0) | d => d) = ((List.range m').map fun k => (g (9 + k)).fmod ((pt : Int) + 1) == 0).map bI := by
      unfold intsD
      rw [List.map_map, List.map_map]
      refine List.map_congr_left fun k _ => ?_
      simp
    rw [e] at L
    generalize ((List.range m').map fun k => (g (9 + k)).fmod ((pt : Int) + 1) == 0).map bI = res at L
    simp [c21, hm, hmr, hml, L]
  refine stp (e1 := [some (.d (.list (ns.map .int))), some (.o (.lst row)), some (.d (.int f)), some (.d (.int s)), some (.d (.int κ)), some (.d (.int u)), some (.d (lim l0 l1)), some (.d (.int k)), some (.d (.int half)), some (.d (.int d')), none, some (.d (.int n)), some (.d (.int t')), none, some (.d (.int pt)), some (.d (.tuple (pl.map bI))), none, none, none, none, none]) ?_ ⟨_, by simp; rfl⟩
  · have T : ∀ A B : Nat, A ≤ 61 → B ≤ 61 → 0 < A + B → turn (gN 16) (sKill [16, 17, 18, 19] (sSeq (sKill [17, 18] (sFor (iR1 (xAdd (x1 wLen (xRd 15)) (xC (.int 1)))) (gN 17) (sKill [17, 18] (sSeq (sSet 18 (xCall 4 m_l_reached (aC (xVar 6) (aC (x2 wIx (xRd 16) (xC (.int 0))) (aC (x2 wIx (xRd 16) (xC (.int 1))) (aC (xSl (xRd 15) (pN) (pS (xRd 17))) (aN))))))) (sIf (EV.tN (EV.tV (xCall 2 m_l_like (aC (xCall 4 m_audit_row (aC (xVar 6) (aC (x2 wIx (xRd 16) (xC (.int 0))) (aC (x2 wIx (xRd 16) (xC (.int 1))) (aC (xSl (xRd 15) (pN) (pS (xRd 17))) (aN)))))) (aC (xVar 18) (aN)))))) (sRet (xC (.bool false))) (sNil)))))) (sSeq (sPar 19 18 (xCall 4 m_audit_miss (aC (xVar 6) (aC (x2 wIx (xRd 16) (xC (.int 0))) (aC (x2 wIx (xRd 16) (xC (.int 1))) (aC (xMod (x1 wToI (x2 wIx (xRd 1) (xC (.int 22)))) (xC (.int 8))) (aN)))))) (xC .none)) (sSeq (sSet 18 (xCall 4 m_l_missed (aC (xVar 6) (aC (x2 wIx (xRd 16) (xC (.int 0))) (aC (x2 wIx (xRd 16) (xC (.int 1))) (aC (xMod (x1 wToI (x2 wIx (xRd 1) (xC (.int 22)))) (xC (.int 8))) (aN))))))) (sIf (EV.tO (EV.tN (EV.tV (xCall 2 m_l_like (aC (xVar 19) (aC (xVar 18) (aN)))))) (EV.tGt (xMul (x2 wIx (xRd 19) (xC (.int 0))) (x2 wIx (xRd 6) (xC (.int 1)))) (xMul (x2 wIx (xRd 6) (xC (.int 0))) (x2 wIx (xRd 19) (xC (.int 1)))))) (sRet (xC (.bool false))) (sNil)))))) (.tuple [.int A, .int B]) [some (.d (.list (ns.map .int))), some (.o (.lst row)), some (.d (.int f)), some (.d (.int s)), some (.d (.int κ)), some (.d (.int u)), some (.d (lim l0 l1)), some (.d (.int k)), some (.d (.int half)), some (.d (.int d')), none, some (.d (.int n)), some (.d (.int t')), none, some (.d (.int pt)), some (.d (.tuple (pl.map bI))), none, none, none, none, none] = some (.nx, [some (.d (.list (ns.map .int))), some (.o (.lst row)), some (.d (.int f)), some (.d (.int s)), some (.d (.int κ)), some (.d (.int u)), some (.d (lim l0 l1)), some (.d (.int k)), some (.d (.int half)), some (.d (.int d')), none, some (.d (.int n)), some (.d (.int t')), none, some (.d (.int pt)), some (.d (.tuple (pl.map bI))), none, none, none, none, none]) := fun A B hA hB hAB => by
      have sA : sm (A : Int) := by unfold sm; omega
      have sB : sm (B : Int) := by unfold sm; omega
      have I := forL_ints (t := gN 17) (F := sKill [17, 18] (sSeq (sSet 18 (xCall 4 m_l_reached (aC (xVar 6) (aC (x2 wIx (xRd 16) (xC (.int 0))) (aC (x2 wIx (xRd 16) (xC (.int 1))) (aC (xSl (xRd 15) (pN) (pS (xRd 17))) (aN))))))) (sIf (EV.tN (EV.tV (xCall 2 m_l_like (aC (xCall 4 m_audit_row (aC (xVar 6) (aC (x2 wIx (xRd 16) (xC (.int 0))) (aC (x2 wIx (xRd 16) (xC (.int 1))) (aC (xSl (xRd 15) (pN) (pS (xRd 17))) (aN)))))) (aC (xVar 18) (aN)))))) (sRet (xC (.bool false))) (sNil)))) (lo := 0) (n := pl.length + 1) (fun _ => [some (.d (.list (ns.map .int))), some (.o (.lst row)), some (.d (.int f)), some (.d (.int s)), some (.d (.int κ)), some (.d (.int u)), some (.d (lim l0 l1)), some (.d (.int k)), some (.d (.int half)), some (.d (.int d')), none, some (.d (.int n)), some (.d (.int t')), none, some (.d (.int pt)), some (.d (.tuple (pl.map bI))), some (.d (.tuple [.int A, .int B])), none, none, none, none]) fun i hi => by
        have r1 := reached_ok sA sB sm0 sm1 (pl.take i) (by simp; omega)
        have r2 := audit_row_ok sA sB sm0 sm1 h1 (pl.take i) (by simp; omega)
        have r3 := cut_take (pl.map bI) i (by simp; omega)
        rw [← List.map_take] at r3
        have r4 : ∀ o : Option Nat, m_l_like [optD o, optD o] = some (.d (.bool true)) := fun o => like1 (by simp)
        generalize (pl.take i).map bI = tk at r1 r2 r3
        generalize pl.map bI = al at r3
        simp [turn, r1, r2, r3, r4]
      have hlr : rgB ((pl.length : Int) + 1) = true := rgB_of (by omega)
      have hln : ((pl.length : Int) + 1).toNat = pl.length + 1 := by omega
      have q1 := missed_ok sA sB sm0 sm1 (n := z) (by omega)
      have q2 := audit_miss_ok sA sB sm0 sm1 h1 (n := z) (by omega)
      have q3 : m_l_like [rat (mis A B l0 l1 z) (2 ^ z), rat (mis A B l0 l1 z) (2 ^ z)] = some (.d (.bool true)) := like1 (by simp)
      have cmp := (rat_cmp (a := (mis A B l0 l1 z : Nat)) (b := (2 : Int) ^ z) (c := l0) (d := l1) (Int.pow_pos (by omega))).mpr (mis_le (by omega) (by omega) (by omega) (by omega) (by omega) z)
      unfold rat at q1 q2 q3
      generalize (mis A B l0 l1 z : Int) / (((mis A B l0 l1 z : Nat) : Int).gcd (2 ^ z) : Int) = X at *
      generalize (2 : Int) ^ z / (((mis A B l0 l1 z : Nat) : Int).gcd (2 ^ z) : Int) = Y at *
      have cmp : ¬ l0 * Y < X * l1 := by omega
      generalize hB17 : sKill [17, 18] (sSeq (sSet 18 (xCall 4 m_l_reached (aC (xVar 6) (aC (x2 wIx (xRd 16) (xC (.int 0))) (aC (x2 wIx (xRd 16) (xC (.int 1))) (aC (xSl (xRd 15) (pN) (pS (xRd 17))) (aN))))))) (sIf (EV.tN (EV.tV (xCall 2 m_l_like (aC (xCall 4 m_audit_row (aC (xVar 6) (aC (x2 wIx (xRd 16) (xC (.int 0))) (aC (x2 wIx (xRd 16) (xC (.int 1))) (aC (xSl (xRd 15) (pN) (pS (xRd 17))) (aN)))))) (aC (xVar 18) (aN)))))) (sRet (xC (.bool false))) (sNil))) = B17 at *
      simp [turn, hlr, hln, I, c22, hz, q1, q2, q3, m1, m2, cmp]
    have T1 := T f s (by omega) (by omega) (by omega)
    have T2 := T (s + 1) f (by omega) (by omega) (by omega)
    have T3 := T pt 1 (by omega) (by omega) (by omega)
    rw [show ((s + 1 : Nat) : Int) = (s : Int) + 1 from rfl] at T2
    rw [show ((1 : Nat) : Int) = 1 from rfl] at T3
    simp only [s_kill, s_for, q_iS, q_tup, q_aC, q_aN, q_x2, q_rd, q_var, q_C, List.getElem?_cons_succ, List.getElem?_cons_zero, Option.bind_some, Option.join_some, v_add, dat, Option.map_some, List.length_cons, List.length_nil, seqD, show (0 + 1 + 1 ≤ 16777216) = True by simp, show (0 + 1 + 1 + 1 ≤ 16777216) = True by simp, if_true]
    simp only [Option.bind_some, seqD, forL_cons, T1, T2, T3, forL_nil, Option.map_some, s_killC, s_killN, List.set_cons_succ, List.set_cons_zero]
theorem law_true : ∀ ns : List Int, ns.length ≤ 63 → m_law [.list (ns.map .int)] = some (.d (.bool true)) := fun ns _ => by
  obtain ⟨vs, h1, h2, h3⟩ := row_ok ns 30 (by omega)
  obtain ⟨e', h4⟩ := law_body ns (vs.map .int) (fun k => vs.getD k 0) (fun k hk => by
    have : k < vs.length := by omega
    simp [this]) (by rw [e_row]; exact h1)
  unfold m_law
  rw [s_run]
  rw [show (List.map (fun d => some (W.d d)) [PyData.list (ns.map .int)] ++ List.replicate (21 - [PyData.list (ns.map .int)].length) none) = [some (.d (.list (ns.map .int))), none, none, none, none, none, none, none, none, none, none, none, none, none, none, none, none, none, none, none, none] from rfl, h4]
end L

open PySem PySem.W PyProof.Rows
set_option maxRecDepth 100000 in
set_option maxHeartbeats 0 in
theorem PySem.Challenge.cw_sealskept_k50_whole_audits_holds : PySem.Challenge.rw_sealskept_k50_whole_audits.Holds := by
  w_on; o_law; k_head; (case hw => w_witness2)
  k_fill
  refine L2.walk_of (l := PySem.Challenge.rw_sealskept_k50_whole_audits) (n := 63) (k := 15) (x := "script") (CX := fun _ => L2.CX0) (sp := fun w => EV.spF _ 1 L.m_law) rfl (by decide) rfl ⟨rfl, by decide, by decide⟩ (fun w h Y => PySem.W.kIn_of Y) ?F (fun _ H a ns hl _ hS => EV.law_sp L.law_true H a ns hl hS _) (fun _ _ _ _ _ h => h)
  case F =>
    intro w mg fa h KX G hmg
    refine' L.all_mk KX G hmg ?a0 ?l0 ?c0 ?k0 ?a1 ?l1 ?c1 ?k1 ?a2 ?l2 ?c2 ?k2 ?a3 ?l3 ?c3 ?k3 ?a4 ?l4 ?c4 ?k4 ?a5 ?l5 ?c5 ?k5 ?a6 ?l6 ?c6 ?k6 ?a7 ?l7 ?c7 ?k7 ?a8 ?l8 ?c8 ?k8 ?a9 ?l9 ?c9 ?k9 ?a10 ?l10 ?c10 ?k10 ?a11 ?l11 ?c11 ?k11 ?a12 ?l12 ?c12 ?k12 ?a13 ?l13 ?c13 ?k13 ?a14 ?l14 ?c14 ?k14 ?a15 ?l15 ?c15 ?k15 ?a16 ?l16 ?c16 ?k16 ?a17 ?l17 ?c17 ?k17 ?z0 ?z1 ?z2 ?z3 ?z4 ?z5 ?z6 ?z7 ?z8 ?z9 ?z10 ?z11 ?z12
    (case a0 => k_is); (case l0 => k_is); (case c0 => k_is); (case k0 => k_is)
    (case a1 => k_is); (case l1 => k_is); (case c1 => k_is); (case k1 => k_is)
    (case a2 => k_is); (case l2 => k_is); (case c2 => k_is); (case k2 => k_is)
    (case a3 => k_is); (case l3 => k_is); (case c3 => k_is); (case k3 => k_is)
    (case a4 => k_is); (case l4 => k_is); (case c4 => k_is); (case k4 => k_is)
    (case a5 => k_is); (case l5 => k_is); (case c5 => k_is); (case k5 => k_is)
    (case a6 => k_is); (case l6 => k_is); (case c6 => k_is); (case k6 => k_is)
    (case a7 => k_is); (case l7 => k_is); (case c7 => k_is); (case k7 => k_is)
    (case a8 => k_is); (case l8 => k_is); (case c8 => k_is); (case k8 => k_is)
    (case a9 => k_is); (case l9 => k_is); (case c9 => k_is); (case k9 => k_is)
    (case a10 => k_is); (case l10 => k_is); (case c10 => k_is); (case k10 => k_is)
    (case a11 => k_is); (case l11 => k_is); (case c11 => k_is); (case k11 => k_is)
    (case a12 => k_is); (case l12 => k_is); (case c12 => k_is); (case k12 => k_is)
    (case a13 => k_is); (case l13 => k_is); (case c13 => k_is); (case k13 => k_is)
    (case a14 => k_is); (case l14 => k_is); (case c14 => k_is); (case k14 => k_is)
    (case a15 => k_is); (case l15 => k_is); (case c15 => k_is); (case k15 => k_is)
    (case a16 => k_is); (case l16 => k_is); (case c16 => k_is); (case k16 => k_is)
    (case a17 => k_is); (case l17 => k_is); (case c17 => k_is); (case k17 => k_is)
    (case z0 => k_is)
    (case z1 => k_is)
    (case z2 => k_is)
    (case z3 => k_is)
    (case z4 => k_is)
    (case z5 => k_is)
    (case z6 => k_is)
    (case z7 => k_is)
    (case z8 => k_is)
    (case z9 => k_is)
    (case z10 => k_is)
    (case z11 => k_is)
    (case z12 => k_is)
