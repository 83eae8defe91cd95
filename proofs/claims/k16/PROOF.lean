import PyProof.Rows.All
import Wide.All
import OpenK.AllK
import Wide.FinOn
import HandS.ForMost
import HandS.Wide
import HandS.IsInst
import HandS.TupAny
import HandS.TupMul
import HandS.TupLe
import HandS.Deep
import HandS.Flow
import HandS.WideBits
import HandS.Style
import KE.SortData
import KE.DataMinMax
import KE.DataAny
import PyProof.Rows.SumAny
import PyProof.WalksMore
import HandS.Zip
import HandS.Rev
import KE.GoesMore
import PyProof.EnumMake
import PyProof.Draws
import PySem.Challenge.RW_sealskept_k16_whole_taken_names
set_option Elab.async false
set_option linter.all false
set_option maxRecDepth 100000
set_option maxHeartbeats 1000000
/-! the evaluator's values, how they stand in the heap, the readings -/
namespace EV
open PySem L2

abbrev D := PyData
/-- the heap without what stands at O -/
def cut (H : Hp) (O : List Addr) : Hp := fun a => if a ∈ O then none else H a
theorem cut_of {H : Hp} {O : List Addr} {a : Addr} {o : HO} (h : cut H O a = some o) : a ∉ O ∧ H a = some o := by
  unfold cut at h
  split at h
  · cases h
  · exact ⟨by assumption, h⟩
theorem cut_mk {H : Hp} {O : List Addr} {a : Addr} {o : HO} (n : a ∉ O) (h : H a = some o) : cut H O a = some o := by
  unfold cut
  rw [if_neg n]
  exact h
theorem cut_same {H H' : Hp} (h : Same H H') (O : List Addr) : Same (cut H O) (cut H' O) := fun b o e =>
  cut_mk (cut_of e).1 (h b o (cut_of e).2)
theorem cut_le {H : Hp} {O O' : List Addr} (h : ∀ a ∈ O, a ∈ O') : Same (cut H O') (cut H O) := fun b o e =>
  cut_mk (fun z => (cut_of e).1 (h b z)) (cut_of e).2
theorem cut_all (H : Hp) (O : List Addr) : Same (cut H O) H := fun b o e => (cut_of e).2
theorem cut_new {H H' : Hp} {O : List Addr} {p : Addr} (h : Same H H') (n : H p = none) : Same (cut H O) (cut H' (p :: O)) := fun b o e => by
  obtain ⟨e1, e2⟩ := cut_of e
  refine cut_mk (fun z => ?_) (h b o e2)
  rcases List.mem_cons.mp z with rfl | z
  · rw [n] at e2; cases e2
  · exact e1 z
theorem same_seqT {K : PySem.W.Frag} {H H' : Hp} {a : Addr} {xs : List V} (e : Same H H') (h : SqT K H a xs) : SqT K H' a xs := by
  rcases h with (h | ⟨o, h⟩) | h
  · exact .inl (.inl (e _ _ h))
  · exact .inl (.inr ⟨o, e _ _ h⟩)
  · exact .inr h
mutual
theorem dp_mono {K : PySem.W.Frag} {H H' : Hp} (m : Same H H') : ∀ {d : D} {v : V}, Dp K H v d → Dp K H' v d
  | .none, _, h => by cases h; exact .non
  | .bool b, _, h => by cases h; exact .bl b
  | .int i, _, h => by cases h; exact .int i
  | .str x, _, h => by cases h; exact .str x
  | .list ds, _, h => by
    cases h with
    | lst a b => exact .lst (m.seq a) (dpa_mono m b)
  | .tuple ds, _, h => by
    cases h with
    | tup a b => exact .tup (same_seqT m a) (dpa_mono m b)
  | .dict _, _, h => by cases h
theorem dpa_mono {K : PySem.W.Frag} {H H' : Hp} (m : Same H H') : ∀ {ds : List D} {vs : List V}, DpAll K H vs ds → DpAll K H' vs ds
  | [], _, h => by cases h; exact .nil
  | d :: ds, _, h => by
    cases h with
    | cons a b => exact .cons (dp_mono m a) (dpa_mono m b)
end
theorem dpa_len {K : PySem.W.Frag} {H : Hp} : ∀ {vs : List V} {ds : List D}, DpAll K H vs ds → vs.length = ds.length
  | _, _, .nil => rfl
  | _, _, .cons _ t => by simp [dpa_len t]
theorem dpa_append {K : PySem.W.Frag} {H : Hp} : ∀ {vs ws : List V} {ds es : List D}, DpAll K H vs ds → DpAll K H ws es → DpAll K H (vs ++ ws) (ds ++ es)
  | _, _, _, _, .nil, h => h
  | _, _, _, _, .cons a b, h => .cons a (dpa_append b h)
theorem dpa_get {K : PySem.W.Frag} {H : Hp} : ∀ {vs : List V} {ds : List D} {i : Nat} {d : D}, DpAll K H vs ds → ds[i]? = some d → ∃ v, vs[i]? = some v ∧ Dp K H v d
  | _, _, _, _, .nil, e => by simp at e
  | _, _, 0, _, .cons a b, e => by simp at e; subst e; exact ⟨_, rfl, a⟩
  | _, _, i + 1, _, .cons a b, e => by
    obtain ⟨v, h1, h2⟩ := dpa_get (i := i) b (by simpa using e)
    exact ⟨v, by simpa using h1, h2⟩
theorem dpa_getV {K : PySem.W.Frag} {H : Hp} : ∀ {vs : List V} {ds : List D} {i : Nat} {v : V}, DpAll K H vs ds → vs[i]? = some v → ∃ d, ds[i]? = some d ∧ Dp K H v d
  | _, _, _, _, .nil, e => by simp at e
  | _, _, 0, _, .cons a b, e => by simp at e; subst e; exact ⟨_, rfl, a⟩
  | _, _, i + 1, _, .cons a b, e => by
    obtain ⟨v, h1, h2⟩ := dpa_getV (i := i) b (by simpa using e)
    exact ⟨v, by simpa using h1, h2⟩
theorem dpa_set {K : PySem.W.Frag} {H : Hp} {x : V} {d : D} (r : Dp K H x d) : ∀ {vs : List V} {ds : List D} (i : Nat), DpAll K H vs ds → DpAll K H (vs.set i x) (ds.set i d)
  | _, _, _, .nil => .nil
  | _, _, 0, .cons _ t => .cons r t
  | _, _, i + 1, .cons q t => .cons q (dpa_set r i t)
theorem dpa_take {K : PySem.W.Frag} {H : Hp} : ∀ {vs : List V} {ds : List D} (n : Nat), DpAll K H vs ds → DpAll K H (vs.take n) (ds.take n)
  | _, _, 0, _ => .nil
  | _, _, _ + 1, .nil => .nil
  | _, _, n + 1, .cons r t => .cons r (dpa_take n t)
theorem dpa_drop {K : PySem.W.Frag} {H : Hp} : ∀ {vs : List V} {ds : List D} (n : Nat), DpAll K H vs ds → DpAll K H (vs.drop n) (ds.drop n)
  | _, _, 0, r => r
  | _, _, _ + 1, .nil => .nil
  | _, _, n + 1, .cons _ t => dpa_drop n t
theorem dpa_rev {K : PySem.W.Frag} {H : Hp} : ∀ {vs : List V} {ds : List D}, DpAll K H vs ds → DpAll K H vs.reverse ds.reverse
  | _, _, .nil => .nil
  | _, _, .cons a b => by
    rw [List.reverse_cons, List.reverse_cons]
    exact dpa_append (dpa_rev b) (.cons a .nil)

/-- what one holds alone: a list, a dict -/
inductive Ob where
  | lst (xs : List D)
  | dct (kvs : List (D × D))
  | set (xs : List D)
inductive W where
  | d (x : D)
  | o (b : Ob)
abbrev En := List (Option W)
/-- an owned thing as it stands; Hc the heap without what is owned -/
def ObRep (K : PySem.W.Frag) (Hc : Hp) : Ob → HO → Prop
  | .lst xs, o => ∃ vs, o = .lst vs ∧ DpAll K Hc vs xs
  | .dct _, _ => False
  | .set _, _ => False
theorem ob_mono {K : PySem.W.Frag} {H H' : Hp} (m : Same H H') : ∀ {b : Ob} {o : HO}, ObRep K H b o → ObRep K H' b o
  | .lst _, _, ⟨vs, e, h⟩ => ⟨vs, e, dpa_mono m h⟩
  | .dct _, _, h => h
  | .set _, _, h => h

/-- an expression's result: frozen, or new and one's own -/
def Res (K : PySem.W.Frag) (H H' : Hp) (O : List Addr) : W → V → Prop
  | .d x, u => Dp K (cut H' O) u x
  | .o b, u => ∃ p ho, u = .ref p ∧ p ∉ O ∧ H p = none ∧ H' p = some ho ∧ ObRep K (cut H' (p :: O)) b ho
/-- the same, only to be looked at -/
def BRes (K : PySem.W.Frag) (H' : Hp) (O : List Addr) : W → V → Prop
  | .d x, u => Dp K (cut H' O) u x
  | .o b, u => ∃ p ho, u = .ref p ∧ H' p = some ho ∧ ObRep K (cut H' O) b ho
/-- a slot's value -/
def Slot (K : PySem.W.Frag) (H : Hp) (O : List Addr) : W → V → Prop
  | .d x, u => Dp K (cut H O) u x
  | .o b, u => ∃ p ho, u = .ref p ∧ p ∈ O ∧ H p = some ho ∧ ObRep K (cut H O) b ho
/-- what is owned stands -/
def Has (H : Hp) (O : List Addr) : Prop := ∀ a ∈ O, ∃ o, H a = some o
theorem Has.mono {H H' : Hp} {O : List Addr} (h : Has H O) (m : Same H H') : Has H' O := fun a z => let ⟨o, e⟩ := h a z; ⟨o, m _ _ e⟩
theorem Has.not {H : Hp} {O : List Addr} {p : Addr} (h : Has H O) (n : H p = none) : p ∉ O := fun z => by
  obtain ⟨o, e⟩ := h p z
  rw [n] at e; cases e
structure EnvRep (K : PySem.W.Frag) (H : Hp) (O : List Addr) (env : En) (σ : St) : Prop where
  has : Has H O
  len : env.length = σ.length
  slot : ∀ (i : Nat) (w : W), env[i]? = some (some w) → ∃ u, σ[i]? = some (some u) ∧ Slot K H O w u
  apart : ∀ (i j : Nat) (b c : Ob) (p : Addr), env[i]? = some (some (.o b)) → env[j]? = some (some (.o c)) → σ[i]? = some (some (.ref p)) → σ[j]? = some (some (.ref p)) → i = j
section
variable {K : PySem.W.Frag} {H H' H1 H2 : Hp} {O O' : List Addr} {env : En} {σ : St} {w : W} {u : V}
theorem Slot.mono (m : Same H H') (h : Slot K H O w u) : Slot K H' O w u := by
  cases w with
  | d x => exact dp_mono (cut_same m O) h
  | o b =>
    obtain ⟨p, ho, e, hp, h1, h2⟩ := h
    exact ⟨p, ho, e, hp, m _ _ h1, ob_mono (cut_same m O) h2⟩
theorem EnvRep.mono (m : Same H H') (h : EnvRep K H O env σ) : EnvRep K H' O env σ :=
  ⟨h.has.mono m, h.len, fun i w e => let ⟨u, a, b⟩ := h.slot i w e; ⟨u, a, b.mono m⟩, h.apart⟩
theorem BRes.mono (m : Same H H') (h : BRes K H O w u) : BRes K H' O w u := by
  cases w with
  | d x => exact dp_mono (cut_same m O) h
  | o b =>
    obtain ⟨p, ho, e, h1, h2⟩ := h
    exact ⟨p, ho, e, m _ _ h1, ob_mono (cut_same m O) h2⟩
theorem Slot.b (h : Slot K H O w u) : BRes K H O w u := by
  cases w with
  | d x => exact h
  | o b =>
    obtain ⟨p, ho, e, hp, h1, h2⟩ := h
    exact ⟨p, ho, e, h1, h2⟩
theorem Res.b (h : Res K H H' O w u) : BRes K H' O w u := by
  cases w with
  | d x => exact h
  | o b =>
    obtain ⟨p, ho, e, hp, h0, h1, h2⟩ := h
    exact ⟨p, ho, e, h1, ob_mono (cut_le fun a z => List.mem_cons_of_mem _ z) h2⟩
/-- a new thing stays new, seen from before -/
theorem Res.back (m : Same H H1) (h : Res K H1 H' O w u) : Res K H H' O w u := by
  cases w with
  | d x => exact h
  | o b =>
    obtain ⟨p, ho, e, hp, h0, h1, h2⟩ := h
    exact ⟨p, ho, e, hp, m.free h0, h1, h2⟩
end

/-! ### readings -/
/-- an expression that gives a value f of the names' values -/
def rE (K : PySem.W.Frag) (f : En → Option W) : TE := fun σ H Q => ∃ O env w, EnvRep K H O env σ ∧ f env = some w ∧ ∀ H' u, Same H H' → Res K H H' O w u → Q u H'
/-- .. only looked at -/
def rB (K : PySem.W.Frag) (f : En → Option W) : TE := fun σ H Q => ∃ O env w, EnvRep K H O env σ ∧ f env = some w ∧ ∀ H' u, Same H H' → BRes K H' O w u → Q u H'
/-- a test -/
def rT (K : PySem.W.Frag) (f : En → Option Bool) : TT := fun σ H Q => ∃ O env b, EnvRep K H O env σ ∧ f env = some b ∧ ∀ H', Same H H' → Q b H'
theorem pe_imp {X : Cx} {e : Expr} {t t' : TE} (h : PE X e t) (i : ∀ σ H Q, t' σ H Q → t σ H Q) : PE X e t' := ⟨fun pins s σ H Q I q => h.run pins s σ H Q I (i σ H Q q)⟩
theorem pt_imp {X : Cx} {e : Expr} {t t' : TT} (h : PT X e t) (i : ∀ σ H Q, t' σ H Q → t σ H Q) : PT X e t' := ⟨fun pins s σ H Q I q => h.run pins s σ H Q I (i σ H Q q)⟩
theorem pw_imp {X : Cx} {e : Expr} {t t' : TT} (h : PW X e t) (i : ∀ σ H Q, t' σ H Q → t σ H Q) : PW X e t' := ⟨fun whole pins s σ H Q I q => h.run whole pins s σ H Q I (i σ H Q q)⟩
section
variable {X : Cx} {e a b : Expr} {f g : En → Option W}
theorem be (h : PE X e (rE X.K f)) : PE X e (rB X.K f) := pe_imp h fun σ H Q ⟨O, env, w, h1, h2, h3⟩ => ⟨O, env, w, h1, h2, fun H' u m r => h3 H' u m r.b⟩

/-! ### names, constants -/
def xVar (i : Nat) : En → Option W := fun env => match env[i]? with
  | some (some (.d x)) => some (.d x)
  | _ => none
def xRd (i : Nat) : En → Option W := fun env => (env[i]?).join
def xC (x : D) : En → Option W := fun _ => some (.d x)
theorem ev_var {i : Nat} {x : Str} {pos : Pos} (hN : X.N[i]? = some x) (hv : Vis X.env.scope x) (hd : (x == ("__debug__" : Str)) = false := by decide) (hcd : (x == ("__classdict__" : Str)) = false := by decide) : PE X (.Name x pos) (rE X.K (xVar i)) :=
  pe_imp (pe_var hN hv hd hcd) fun σ H Q ⟨O, env, w, h1, h2, h3⟩ => by
    unfold xVar at h2
    split at h2
    · rename_i y e
      cases h2
      obtain ⟨u, e1, e2⟩ := h1.slot i _ e
      exact ⟨u, e1, h3 H u (Same.refl _) e2⟩
    · cases h2
theorem ev_rd {i : Nat} {x : Str} {pos : Pos} (hN : X.N[i]? = some x) (hv : Vis X.env.scope x) (hd : (x == ("__debug__" : Str)) = false := by decide) (hcd : (x == ("__classdict__" : Str)) = false := by decide) : PE X (.Name x pos) (rB X.K (xRd i)) :=
  pe_imp (pe_var hN hv hd hcd) fun σ H Q ⟨O, env, w, h1, h2, h3⟩ => by
    unfold xRd at h2
    have e : env[i]? = some (some w) := Option.join_eq_some_iff.mp h2
    obtain ⟨u, e1, e2⟩ := h1.slot i _ e
    exact ⟨u, e1, h3 H u (Same.refl _) e2.b⟩
theorem ev_int {i j pos} : PE X (.Constant (.int i) j pos) (rE X.K (xC (.int i))) := pe_imp pe_int fun σ H Q ⟨O, env, w, h1, h2, h3⟩ => by
  cases h2; exact h3 H _ (Same.refl _) (Dp.int i)
theorem ev_bl {b j pos} : PE X (.Constant (.bool b) j pos) (rE X.K (xC (.bool b))) := pe_imp pe_bl fun σ H Q ⟨O, env, w, h1, h2, h3⟩ => by
  cases h2; exact h3 H _ (Same.refl _) (Dp.bl b)
theorem ev_non {j pos} : PE X (.Constant .none j pos) (rE X.K (xC .none)) := pe_imp pe_non fun σ H Q ⟨O, env, w, h1, h2, h3⟩ => by
  cases h2; exact h3 H _ (Same.refl _) Dp.non
theorem ev_str {x j pos} : PE X (.Constant (.str x) j pos) (rE X.K (xC (.str x))) := pe_imp pe_str fun σ H Q ⟨O, env, w, h1, h2, h3⟩ => by
  cases h2; exact h3 H _ (Same.refl _) (Dp.str x)

/-! ### operations by values -/
/-- what a value rule r must give: of looked-at operands a result comb -/
def Op1 (K : PySem.W.Frag) (comb : W → Option W) (r : V → Hp → VK → Prop) : Prop :=
  ∀ H O x wx w Q, Has H O → BRes K H O wx x → comb wx = some w → (∀ H' u, Same H H' → Res K H H' O w u → Q u H') → r x H Q
def Op2 (K : PySem.W.Frag) (comb : W → W → Option W) (r : R2) : Prop :=
  ∀ H O x y wx wy w Q, Has H O → BRes K H O wx x → BRes K H O wy y → comb wx wy = some w → (∀ H' u, Same H H' → Res K H H' O w u → Q u H') → r x y H Q
def x1 (comb : W → Option W) (f : En → Option W) : En → Option W := fun env => (f env).bind comb
def x2 (comb : W → W → Option W) (f g : En → Option W) : En → Option W := fun env => (f env).bind fun x => (g env).bind fun y => comb x y
theorem rd1 {comb : W → Option W} {r : V → Hp → VK → Prop} (h : Op1 X.K comb r) {σ H Q} (q : rE X.K (x1 comb f) σ H Q) : tUn r (rB X.K f) σ H Q := by
  obtain ⟨O, env, w, h1, h2, h3⟩ := q
  unfold x1 at h2
  obtain ⟨wx, e1, e2⟩ := Option.bind_eq_some_iff.mp h2
  exact ⟨O, env, wx, h1, e1, fun H1 x m1 r1 => h H1 O x wx w Q (h1.has.mono m1) r1 e2 fun H' u m2 r2 => h3 H' u (m1.trans m2) (r2.back m1)⟩
theorem rd2 {comb : W → W → Option W} {r : R2} (h : Op2 X.K comb r) {σ H Q} (q : rE X.K (x2 comb f g) σ H Q) : tOp r (rB X.K f) (rB X.K g) σ H Q := by
  obtain ⟨O, env, w, h1, h2, h3⟩ := q
  unfold x2 at h2
  obtain ⟨wx, e1, e2⟩ := Option.bind_eq_some_iff.mp h2
  obtain ⟨wy, e3, e4⟩ := Option.bind_eq_some_iff.mp e2
  refine ⟨O, env, wx, h1, e1, fun H1 x m1 r1 => ⟨O, env, wy, h1.mono m1, e3, fun H2 y m2 r2 => ?_⟩⟩
  exact h H2 O x y wx wy w Q (h1.has.mono (m1.trans m2)) (r1.mono m2) r2 e4 fun H' u m3 r3 => h3 H' u ((m1.trans m2).trans m3) (r3.back (m1.trans m2))
theorem ev_bin {op : Operator} {pos : Pos} {comb : W → W → Option W} {r : R2} (ho : OpR X (binaryOp op) r) (h : Op2 X.K comb r) (ha : PE X a (rB X.K f)) (hb : PE X b (rB X.K g)) : PE X (.BinOp a op b pos) (rE X.K (x2 comb f g)) :=
  pe_imp (pe_op ho ha hb) fun _ _ _ q => rd2 h q
theorem ev_un {op : UnaryOp} {pos : Pos} {comb : W → Option W} {r : V → Hp → VK → Prop} (ho : UnR X (unaryOp op) r) (h : Op1 X.K comb r) (ha : PE X a (rB X.K f)) : PE X (.UnaryOp op a pos) (rE X.K (x1 comb f)) :=
  pe_imp (pe_un ho ha) fun _ _ _ q => rd1 h q
theorem opr_or {fn : Value → Value → Sem Value} {r r' : R2} (h : OpR X fn r) (h' : OpR X fn r') : OpR X fn (fun x y H Q => r x y H Q ∨ r' x y H Q) := by
  intro pins s σ H x y v u Q I rx ry q
  rcases q with q | q
  · exact h pins s σ H x y v u Q I rx ry q
  · exact h' pins s σ H x y v u Q I rx ry q
end
end EV

set_option Elab.async false
set_option linter.all false
set_option maxRecDepth 100000
set_option maxHeartbeats 1000000
/-! operators, comparisons, tests, displays, subscripts -/
namespace EV
open PySem L2
@[simp] theorem sizeLine_val : sizeLine = 16777216 := sizeLine_eq

/-! ### looking at an operand -/
theorem bres_dp {K : PySem.W.Frag} {H : Hp} {O : List Addr} {x : D} {u : V} (h : BRes K H O (.d x) u) : Dp K H u x := dp_mono (cut_all H O) h
theorem bres_int {K : PySem.W.Frag} {H : Hp} {O : List Addr} {i : Int} {u : V} (h : BRes K H O (.d (.int i)) u) : u = .int i := by
  have h : Dp K (cut H O) u (.int i) := h
  cases h; rfl
theorem bres_bool {K : PySem.W.Frag} {H : Hp} {O : List Addr} {b : Bool} {u : V} (h : BRes K H O (.d (.bool b)) u) : u = .bl b := by
  have h : Dp K (cut H O) u (.bool b) := h
  cases h; rfl
theorem bres_str {K : PySem.W.Frag} {H : Hp} {O : List Addr} {b : Str} {u : V} (h : BRes K H O (.d (.str b)) u) : u = .str b := by
  have h : Dp K (cut H O) u (.str b) := h
  cases h; rfl
theorem bres_none {K : PySem.W.Frag} {H : Hp} {O : List Addr} {u : V} (h : BRes K H O (.d .none) u) : u = .non := by
  have h : Dp K (cut H O) u .none := h
  cases h; rfl
theorem bres_tup {K : PySem.W.Frag} {H : Hp} {O : List Addr} {xs : List D} {u : V} (h : BRes K H O (.d (.tuple xs)) u) : ∃ p vs, u = .ref p ∧ SqT K H p vs ∧ DpAll K (cut H O) vs xs := by
  have h : Dp K (cut H O) u (.tuple xs) := h
  cases h with
  | tup a b => exact ⟨_, _, rfl, same_seqT (cut_all H O) a, b⟩
/-- a list, frozen or one's own -/
def asL : W → Option (List D)
  | .d (.list xs) => some xs
  | .o (.lst xs) => some xs
  | _ => none
@[simp] theorem asL_d (xs : List D) : asL (.d (.list xs)) = some xs := rfl
@[simp] theorem asL_o (xs : List D) : asL (.o (.lst xs)) = some xs := rfl
/-- a list or a tuple -/
def asS : W → Option (List D)
  | .d (.tuple xs) => some xs
  | .d (.list xs) => some xs
  | .o (.lst xs) => some xs
  | _ => none
@[simp] theorem asS_t (xs : List D) : asS (.d (.tuple xs)) = some xs := rfl
@[simp] theorem asS_d (xs : List D) : asS (.d (.list xs)) = some xs := rfl
@[simp] theorem asS_o (xs : List D) : asS (.o (.lst xs)) = some xs := rfl
/-- as data -/
def dat : W → Option D
  | .d x => some x
  | .o (.lst xs) => some (.list xs)
  | _ => none
@[simp] theorem dat_d (x : D) : dat (.d x) = some x := rfl
@[simp] theorem dat_o (xs : List D) : dat (.o (.lst xs)) = some (.list xs) := rfl
section
variable {K : PySem.W.Frag} {H H' : Hp} {O : List Addr} {w : W} {u : V} {xs : List D} {x : D}
theorem bres_lst (h : BRes K H O w u) (e : asL w = some xs) : ∃ p vs, u = .ref p ∧ SqL K H p vs ∧ DpAll K (cut H O) vs xs := by
  unfold asL at e
  split at e
  · cases e
    have h : Dp K (cut H O) u (.list xs) := h
    cases h with
    | lst a b => exact ⟨_, _, rfl, (cut_all H O).seq a, b⟩
  · cases e
    obtain ⟨p, ho, e, h1, vs, rfl, h2⟩ := h
    exact ⟨p, vs, e, .inl (.inl h1), h2⟩
  · cases e
theorem bres_seq (h : BRes K H O w u) (e : asS w = some xs) : ∃ p vs, u = .ref p ∧ (SqL K H p vs ∨ SqT K H p vs) ∧ DpAll K (cut H O) vs xs := by
  unfold asS at e
  split at e
  · cases e
    obtain ⟨p, vs, a, b, c⟩ := bres_tup h
    exact ⟨p, vs, a, .inr b, c⟩
  · obtain ⟨p, vs, a, b, c⟩ := bres_lst (w := .d (.list _)) h e
    exact ⟨p, vs, a, .inl b, c⟩
  · obtain ⟨p, vs, a, b, c⟩ := bres_lst (w := .o (.lst _)) h e
    exact ⟨p, vs, a, .inl b, c⟩
  · cases e
theorem bres_dat (h : BRes K H O w u) (e : dat w = some x) : Dp K H u x := by
  unfold dat at e
  split at e
  · cases e; exact bres_dp h
  · cases e
    obtain ⟨p, ho, rfl, h1, vs, rfl, h2⟩ := h
    exact .lst (.inl (.inl h1)) (dpa_mono (cut_all H O) h2)
  · cases e
/-- a result made data: a new list is frozen -/
theorem res_dat (h : Res K H H' O w u) (e : dat w = some x) : Dp K (cut H' O) u x := by
  unfold dat at e
  split at e
  · cases e; exact h
  · cases e
    obtain ⟨p, ho, rfl, hp, h0, h1, vs, rfl, h2⟩ := h
    exact .lst (.inl (.inl (cut_mk hp h1))) (dpa_mono (cut_le fun a z => List.mem_cons_of_mem _ z) h2)
  · cases e
/-- a new list -/
theorem res_new_lst {p : Addr} {vs : List V} (hO : Has H O) (n : H p = none) (h : DpAll K (cut H O) vs xs) : Res K H (upd H p (.lst vs)) O (.o (.lst xs)) (.ref p) := by
  have np : p ∉ O := hO.not n
  refine ⟨p, _, rfl, np, n, upd_same, vs, rfl, dpa_mono (cut_new (fun b o e => ?_) n) h⟩
  rw [upd_ne (ne_of_none e n)]; exact e
theorem same_upd {p : Addr} {o : HO} (n : H p = none) : Same H (upd H p o) := fun b u e => by
  rw [upd_ne (ne_of_none e n)]; exact e
theorem res_new_tup {p : Addr} {vs : List V} (hO : Has H O) (n : H p = none) (h : DpAll K (cut H O) vs xs) : Res K H (upd H p (.tup vs)) O (.d (.tuple xs)) (.ref p) := by
  have np : p ∉ O := hO.not n
  exact Dp.tup (.inl (.inl (cut_mk np upd_same))) (dpa_mono (cut_same (same_upd n) O) h)
theorem res_d {x : D} (h : Dp K (cut H O) u x) : Res K H H O (.d x) u := h
end

/-! ### ints -/
section
variable {X : Cx} {a b : Expr} {f g : En → Option W} {pos : Pos}
def wInt (F : Int → Int → Int) : W → W → Option W
  | .d (.int i), .d (.int j) => some (.d (.int (F i j)))
  | _, _ => none
def wIntC (C : Int → Int → Bool) (F : Int → Int → Int) : W → W → Option W
  | .d (.int i), .d (.int j) => if C i j then some (.d (.int (F i j))) else none
  | _, _ => none
theorem op2_int {F : Int → Int → Int} : Op2 X.K (wInt F) (rI0 fun i j => .int (F i j)) := fun H O x y wx wy w Q hO hx hy e q => by
  unfold wInt at e
  split at e
  · cases e
    exact ⟨_, _, bres_int hx, bres_int hy, q H _ (Same.refl _) (Dp.int _)⟩
  · cases e
theorem op2_intC {C : Int → Int → Bool} {P : Int → Int → Prop} {F : Int → Int → Int} (hC : ∀ i j, C i j = true → P i j) : Op2 X.K (wIntC C F) (rI P fun i j => .int (F i j)) := fun H O x y wx wy w Q hO hx hy e q => by
  unfold wIntC at e
  split at e
  · split at e
    · cases e
      exact ⟨_, _, bres_int hx, bres_int hy, hC _ _ (by assumption), q H _ (Same.refl _) (Dp.int _)⟩
    · cases e
  · cases e
def mulOk (i j : Int) : Bool := decide (i.natAbs.log2 + j.natAbs.log2 < 1000000) || (decide (i.natAbs < 2 ^ 64) || decide (j.natAbs < 2 ^ 64))
def CMulA (i j : Int) : Prop := CMulW i j ∨ CMul i j
theorem mulOk_ok {i j : Int} (h : mulOk i j = true) : CMulA i j := by
  unfold mulOk at h
  simp only [Bool.or_eq_true, decide_eq_true_eq] at h
  rcases h with h | h | h
  · exact .inl h
  · exact .inr (.inl ⟨by omega, by omega⟩)
  · exact .inr (.inr ⟨by omega, by omega⟩)
theorem op_mulA : OpR X (binaryOp .Mult) (rI CMulA fun i j => .int (i * j)) := opI fun _ _ _ _ _ _ _ hc q => PyProof.Rows.mul_int q (hc.elim CMulW.ok CMul.ok)
theorem iop_mulA : OpR X (inplaceOp .Mult) (rI CMulA fun i j => .int (i * j)) := opI fun _ _ _ _ _ _ _ hc q => PyProof.Rows.imul_int q (hc.elim CMulW.ok CMul.ok)
/-! ### + -/
def rCatL (K : PySem.W.Frag) : R2 := fun x y H Q => ∃ l b xs zs, x = .ref l ∧ y = .ref b ∧ SqL K H l xs ∧ SqL K H b zs ∧ xs.length + zs.length ≤ sizeLine ∧ ∀ p, H p = none → Q (.ref p) (upd H p (.lst (xs ++ zs)))
theorem op_catL : OpR X (binaryOp .Add) (rCatL X.K) := by
  intro pins s σ H x y v u Q I rx ry h
  obtain ⟨l, b, xs, zs, rfl, rfl, hl, hb, hz, q⟩ := h
  cases rx
  cases ry
  obtain ⟨its, r1, ⟨⟨cls, dd, data, sl⟩, n, ho, hc, hd, hdt⟩, _⟩ := I.list hl
  obtain ⟨its2, r2, ⟨⟨cls2, dd2, data2, sl2⟩, n2, ho2, hc2, hd2, hdt2⟩, _⟩ := I.list hb
  simp only at hc hd hdt hc2 hd2 hdt2
  subst hc hd hdt hc2 hd2 hdt2
  have e : its.toArray ++ its2.toArray = (its ++ its2).toArray := by simp
  have z1 := r1.length
  have z2 := r2.length
  refine PySem.concat_meets ⟨_, ho, rfl⟩ ⟨_, ho2, rfl⟩ noFill_list_add seq_list_add F.slot_list_add F.entry_list_add (F.args_list_add_2 _ _)
    (PyProof.Rows.list_addW l b its.toArray its2.toArray n n2 none none sl sl2 (by rw [List.size_toArray, List.size_toArray]; omega)) ⟨ho, ho2, ?_⟩
  rw [e]
  refine ⟨.ref s.heap.objs.size, _, I.laid (t' := s.toks) (o := .lst (xs ++ zs)) (fun b ob q => Heap.get?_push_of_some _ q) (Nat.le_refl _) ?_, rfl, q _ (I.hok.fresh (Nat.le_refl _))⟩
  exact ⟨by rw [List.length_append]; exact hz, _, _, r1.append r2, Heap.get?_push_size _ rfl⟩
def wAdd : W → W → Option W
  | .d (.int i), .d (.int j) => some (.d (.int (i + j)))
  | .d (.str i), .d (.str j) => if i.length + j.length ≤ 16777216 then some (.d (.str (i ++ j))) else none
  | .d (.tuple xs), .d (.tuple ys) => if xs.length + ys.length ≤ 16777216 then some (.d (.tuple (xs ++ ys))) else none
  | x, y => match asL x, asL y with
    | some xs, some ys => if xs.length + ys.length ≤ 16777216 then some (.o (.lst (xs ++ ys))) else none
    | _, _ => none
theorem op2_add : Op2 X.K wAdd (fun x y H Q => rI0 (fun i j => .int (i + j)) x y H Q ∨ ((fun x y H Q => ∃ i j, x = .str i ∧ y = .str j ∧ i.length + j.length ≤ sizeLine ∧ Q (.str (i ++ j)) H) x y H Q ∨ (rCatA X.K x y H Q ∨ rCatL X.K x y H Q))) := fun H O x y wx wy w Q hO hx hy e q => by
  unfold wAdd at e
  split at e
  · cases e
    exact .inl ⟨_, _, bres_int hx, bres_int hy, q H _ (Same.refl _) (Dp.int _)⟩
  · split at e
    · cases e
      exact .inr (.inl ⟨_, _, bres_str hx, bres_str hy, by rw [sizeLine_val]; assumption, q H _ (Same.refl _) (Dp.str _)⟩)
    · cases e
  · split at e
    · cases e
      obtain ⟨p, vs, rfl, h1, h2⟩ := bres_tup hx
      obtain ⟨p2, vs2, rfl, h3, h4⟩ := bres_tup hy
      have l1 := dpa_len h2
      have l2 := dpa_len h4
      refine .inr (.inr (.inl ⟨p, p2, vs, vs2, rfl, rfl, h1, h3, by rw [sizeLine_val]; omega, fun z => ?_, fun _ z => ?_, fun _ _ r n => ?_⟩))
      · subst z
        cases h2
        exact q H _ (Same.refl _) hy
      · subst z
        cases h4
        rw [List.append_nil] at q
        exact q H _ (Same.refl _) hx
      · exact q _ _ (same_upd n) (res_new_tup hO n (dpa_append h2 h4))
    · cases e
  · split at e
    · rename_i e1 e2
      split at e
      · cases e
        obtain ⟨p, vs, rfl, h1, h2⟩ := bres_lst hx e1
        obtain ⟨p2, vs2, rfl, h3, h4⟩ := bres_lst hy e2
        have l1 := dpa_len h2
        have l2 := dpa_len h4
        refine .inr (.inr (.inr ⟨p, p2, vs, vs2, rfl, rfl, h1, h3, by rw [sizeLine_val]; omega, fun r n => ?_⟩))
        exact q _ _ (same_upd n) (res_new_lst hO n (dpa_append h2 h4))
      · cases e
    · cases e
theorem ev_add (ha : PE X a (rB X.K f)) (hb : PE X b (rB X.K g)) : PE X (.BinOp a .Add b pos) (rE X.K (x2 wAdd f g)) :=
  ev_bin (opr_or op_add (opr_or op_add_str (opr_or op_catA op_catL))) op2_add ha hb
theorem ev_sub (ha : PE X a (rB X.K f)) (hb : PE X b (rB X.K g)) : PE X (.BinOp a .Sub b pos) (rE X.K (x2 (wInt fun i j => i - j) f g)) := ev_bin op_sub op2_int ha hb
/-! ### * -/
def rRepL (K : PySem.W.Frag) : R2 := fun x y H Q => ∃ l k xs, x = .ref l ∧ y = .int k ∧ Rd H l (.lst xs) ∧ -(2 ^ 63) ≤ k ∧ k < 2 ^ 63 ∧ xs.length * k.toNat ≤ sizeLine ∧
  ∀ p, H p = none → Q (.ref p) (upd H p (.lst (List.replicate k.toNat xs).flatten))
/-- what * can do: ints; a new list times an int -/
def wMul : W → W → Option W
  | .d (.int i), .d (.int j) => if mulOk i j then some (.d (.int (i * j))) else none
  | .o (.lst xs), .d (.int k) => if k < 2 ^ 24 ∧ -(2 ^ 24) ≤ k ∧ xs.length * k.toNat ≤ 16777216 then some (.o (.lst (List.replicate k.toNat xs).flatten)) else none
  | _, _ => none
theorem dpa_rep {K : PySem.W.Frag} {H : Hp} {vs : List V} {xs : List D} (h : DpAll K H vs xs) : ∀ n : Nat, DpAll K H (List.replicate n vs).flatten (List.replicate n xs).flatten
  | 0 => .nil
  | n + 1 => by
    rw [List.replicate_succ, List.replicate_succ, List.flatten_cons, List.flatten_cons]
    exact dpa_append h (dpa_rep h n)
theorem op2_mul : Op2 X.K wMul (fun x y H Q => rI CMulA (fun i j => .int (i * j)) x y H Q ∨ rRep x y H Q) := fun H O x y wx wy w Q hO hx hy e q => by
  unfold wMul at e
  split at e
  · split at e
    · cases e
      exact .inl ⟨_, _, bres_int hx, bres_int hy, mulOk_ok (by assumption), q H _ (Same.refl _) (Dp.int _)⟩
    · cases e
  · split at e
    · cases e
      rename_i hk
      obtain ⟨p, ho, rfl, h1, vs, rfl, h2⟩ := hx
      have l1 := dpa_len h2
      exact .inr ⟨p, _, vs, rfl, bres_int hy, h1, by omega, by omega, by rw [sizeLine_val, l1]; exact hk.2.2, fun r n => q _ _ (same_upd n) (res_new_lst hO n (dpa_rep h2 _))⟩
    · cases e
  · cases e
theorem ev_mul (ha : PE X a (rB X.K f)) (hb : PE X b (rB X.K g)) : PE X (.BinOp a .Mult b pos) (rE X.K (x2 wMul f g)) := ev_bin (opr_or op_mulA op_rep) op2_mul ha hb
/-! ### //, %, ** and bits -/
def fdOk (i j : Int) : Bool := (decide (0 < j) && decide (j.natAbs.log2 < 9000)) || (decide (j < 0) && decide (j.natAbs < 1073741824))
def CDivA (i j : Int) : Prop := CDivW i j ∨ CDivN i j
theorem op_fdivA : OpR X (binaryOp .FloorDiv) (rI CDivA fun i j => .int (i.fdiv j)) := opI fun i j _ _ _ _ _ hc q => by
  rcases hc with hc | hc
  · have h1 : (0 : Int) < j := hc.1
    exact PyProof.Rows.floordiv_int (by omega) q (.inl (PyProof.noPylong_of_log2 hc.2))
  · exact PyProof.Rows.floordiv_int hc.1 q (.inl (PyProof.noPylong_small hc.2))
theorem fdOk_ok (i j : Int) (h : fdOk i j = true) : CDivA i j := by
  unfold fdOk at h
  simp only [Bool.or_eq_true, Bool.and_eq_true, decide_eq_true_eq] at h
  rcases h with h | h
  · exact .inl h
  · exact .inr ⟨by omega, h.2⟩
theorem ev_fdiv (ha : PE X a (rB X.K f)) (hb : PE X b (rB X.K g)) : PE X (.BinOp a .FloorDiv b pos) (rE X.K (x2 (wIntC fdOk Int.fdiv) f g)) := ev_bin op_fdivA (op2_intC fdOk_ok) ha hb
theorem ev_mod (ha : PE X a (rB X.K f)) (hb : PE X b (rB X.K g)) : PE X (.BinOp a .Mod b pos) (rE X.K (x2 (wIntC (fun _ j => decide (j ≠ 0)) Int.fmod) f g)) :=
  ev_bin op_modN (op2_intC fun i j h => of_decide_eq_true h) ha hb
def powOk (i j : Int) : Bool := decide (0 ≤ j ∧ j ≤ 1000000 ∧ i.natAbs < 2 ^ 64)
theorem powOk_ok (i j : Int) (h : powOk i j = true) : CPow i j := by
  unfold powOk at h
  have h2 := of_decide_eq_true h
  exact h2
theorem ev_pow (ha : PE X a (rB X.K f)) (hb : PE X b (rB X.K g)) : PE X (.BinOp a .Pow b pos) (rE X.K (x2 (wIntC powOk fun i j => i ^ j.toNat) f g)) := ev_bin op_pow (op2_intC powOk_ok) ha hb
theorem ev_shl (ha : PE X a (rB X.K f)) (hb : PE X b (rB X.K g)) : PE X (.BinOp a .LShift b pos) (rE X.K (x2 (wIntC powOk fun i j => i * 2 ^ j.toNat) f g)) := ev_bin op_shl (op2_intC powOk_ok) ha hb
theorem ev_shr (ha : PE X a (rB X.K f)) (hb : PE X b (rB X.K g)) : PE X (.BinOp a .RShift b pos) (rE X.K (x2 (wIntC (fun _ j => decide (0 ≤ j)) fun i j => i / 2 ^ j.toNat) f g)) :=
  ev_bin op_shr (op2_intC fun i j h => of_decide_eq_true h) ha hb
theorem ev_and (ha : PE X a (rB X.K f)) (hb : PE X b (rB X.K g)) : PE X (.BinOp a .BitAnd b pos) (rE X.K (x2 (wInt Builtin.bitAnd) f g)) := ev_bin op_and op2_int ha hb
theorem ev_or (ha : PE X a (rB X.K f)) (hb : PE X b (rB X.K g)) : PE X (.BinOp a .BitOr b pos) (rE X.K (x2 (wInt Builtin.bitOr) f g)) := ev_bin op_or op2_int ha hb
theorem ev_xor (ha : PE X a (rB X.K f)) (hb : PE X b (rB X.K g)) : PE X (.BinOp a .BitXor b pos) (rE X.K (x2 (wInt Builtin.bitXor) f g)) := ev_bin op_xor op2_int ha hb
def wNeg : W → Option W
  | .d (.int i) => some (.d (.int (-i)))
  | _ => none
theorem op1_neg : Op1 X.K wNeg (rU fun i => .int (-i)) := fun H O x wx w Q hO hx e q => by
  unfold wNeg at e
  split at e
  · cases e
    exact ⟨_, bres_int hx, q H _ (Same.refl _) (Dp.int _)⟩
  · cases e
theorem ev_neg (ha : PE X a (rB X.K f)) : PE X (.UnaryOp .USub a pos) (rE X.K (x1 wNeg f)) := ev_un un_neg op1_neg ha
def wInv : W → Option W
  | .d (.int i) => some (.d (.int (Builtin.bitNot i)))
  | _ => none
theorem op1_inv : Op1 X.K wInv (rU fun i => .int (Builtin.bitNot i)) := fun H O x wx w Q hO hx e q => by
  unfold wInv at e
  split at e
  · cases e
    exact ⟨_, bres_int hx, q H _ (Same.refl _) (Dp.int _)⟩
  · cases e
theorem ev_inv (ha : PE X a (rB X.K f)) : PE X (.UnaryOp .Invert a pos) (rE X.K (x1 wInv f)) := ev_un un_inv op1_inv ha
end
end EV

set_option Elab.async false
set_option linter.all false
set_option maxRecDepth 100000
set_option maxHeartbeats 1000000
/-! comparisons, tests, and | or, displays, subscripts -/
namespace EV
open PySem L2
section
variable {X : Cx} {e a b c : Expr} {f g h : En → Option W} {pos : Pos}

/-! ### comparisons -/
def Op2B (K : PySem.W.Frag) (comb : W → W → Option Bool) (r : R2) : Prop :=
  ∀ H O x y wx wy c Q, Has H O → BRes K H O wx x → BRes K H O wy y → comb wx wy = some c → Q (.bl c) H → r x y H Q
def t2 (comb : W → W → Option Bool) (f g : En → Option W) : En → Option Bool := fun env => (f env).bind fun x => (g env).bind fun y => comb x y
/-- a truth value as a value -/
def bw (c : Bool) : W := .d (.bool c)
def xB (f : En → Option Bool) : En → Option W := fun env => (f env).map bw
theorem rd2B {comb : W → W → Option Bool} {r : R2} (hr : Op2B X.K comb r) {σ H Q} (q : rE X.K (xB (t2 comb f g)) σ H Q) : tOp r (rB X.K f) (rB X.K g) σ H Q := by
  obtain ⟨O, env, w, h1, h2, h3⟩ := q
  unfold xB t2 at h2
  obtain ⟨cc, e0, rfl⟩ := Option.map_eq_some_iff.mp h2
  obtain ⟨wx, e1, e2⟩ := Option.bind_eq_some_iff.mp e0
  obtain ⟨wy, e3, e4⟩ := Option.bind_eq_some_iff.mp e2
  refine ⟨O, env, wx, h1, e1, fun H1 x m1 r1 => ⟨O, env, wy, h1.mono m1, e3, fun H2 y m2 r2 => ?_⟩⟩
  exact hr H2 O x y wx wy cc Q (h1.has.mono (m1.trans m2)) (r1.mono m2) r2 e4 (h3 H2 _ (m1.trans m2) (Dp.bl cc))
theorem rd2T {comb : W → W → Option Bool} {r : R2} (hr : Op2B X.K comb r) {σ H Q} (q : rT X.K (t2 comb f g) σ H Q) : tTest (tOp r (rB X.K f) (rB X.K g)) σ H Q := by
  obtain ⟨O, env, cc, h1, e0, h3⟩ := q
  unfold t2 at e0
  obtain ⟨wx, e1, e2⟩ := Option.bind_eq_some_iff.mp e0
  obtain ⟨wy, e3, e4⟩ := Option.bind_eq_some_iff.mp e2
  refine ⟨O, env, wx, h1, e1, fun H1 x m1 r1 => ⟨O, env, wy, h1.mono m1, e3, fun H2 y m2 r2 => ?_⟩⟩
  exact hr H2 O x y wx wy cc _ (h1.has.mono (m1.trans m2)) (r1.mono m2) r2 e4 ⟨cc, rfl, h3 H2 (m1.trans m2)⟩
theorem ev_cmp {op : CmpOp} {comb : W → W → Option Bool} {r : R2} (ho : OpR X (compareOp op) r) (hr : Op2B X.K comb r) (ha : PE X a (rB X.K f)) (hb : PE X b (rB X.K g)) (hm : behindInMarks op b = false) : PE X (.Compare a [op] [b] pos) (rE X.K (xB (t2 comb f g))) :=
  pe_imp (pe_cmpR ho ha hb hm) fun _ _ _ q => rd2B hr q
theorem et_cmp {op : CmpOp} {comb : W → W → Option Bool} {r : R2} (ho : OpR X (compareOp op) r) (hr : Op2B X.K comb r) (ha : PE X a (rB X.K f)) (hb : PE X b (rB X.K g)) (hm : behindInMarks op b = false) : PT X (.Compare a [op] [b] pos) (rT X.K (t2 comb f g)) :=
  pt_imp (pt_cmpR ho ha hb hm) fun _ _ _ q => rd2T hr q
def cInt (F : Int → Int → Bool) : W → W → Option Bool
  | .d (.int i), .d (.int j) => some (F i j)
  | _, _ => none
theorem op2b_int {F : Int → Int → Bool} : Op2B X.K (cInt F) (rI0 fun i j => .bl (F i j)) := fun H O x y wx wy cc Q hO hx hy e q => by
  unfold cInt at e
  split at e
  · cases e
    exact ⟨_, _, bres_int hx, bres_int hy, q⟩
  · cases e
/-- tuples of ints -/
def asInts : List D → Option (List Int)
  | [] => some []
  | .int i :: r => (asInts r).map (i :: ·)
  | _ => none
theorem asInts_dp {K : PySem.W.Frag} {H : Hp} : ∀ {xs : List D} {vs : List V} {ns : List Int}, asInts xs = some ns → DpAll K H vs xs → vs = ns.map V.int
  | [], _, _, e, .nil => by cases e; rfl
  | .int i :: r, _, _, e, .cons a b => by
    unfold asInts at e
    obtain ⟨ns, e1, rfl⟩ := Option.map_eq_some_iff.mp e
    cases a
    rw [asInts_dp e1 b]; rfl
  | .none :: _, _, _, e, _ => by cases e
  | .bool _ :: _, _, _, e, _ => by cases e
  | .str _ :: _, _, _, e, _ => by cases e
  | .list _ :: _, _, _, e, _ => by cases e
  | .tuple _ :: _, _, _, e, _ => by cases e
  | .dict _ :: _, _, _, e, _ => by cases e
def cLt : W → W → Option Bool
  | .d (.int i), .d (.int j) => some (decide (i < j))
  | .d (.tuple xs), .d (.tuple ys) => match asInts xs, asInts ys with
    | some ns, some ms => some (HT.lexLt ns ms)
    | _, _ => none
  | _, _ => none
theorem op2b_lt : Op2B X.K cLt (fun x y H Q => rI0 (fun i j => .bl (decide (i < j))) x y H Q ∨ rLtT X.K x y H Q) := fun H O x y wx wy cc Q hO hx hy e q => by
  unfold cLt at e
  split at e
  · cases e
    exact .inl ⟨_, _, bres_int hx, bres_int hy, q⟩
  · split at e
    · cases e
      rename_i e1 e2
      obtain ⟨p, vs, rfl, h1, h2⟩ := bres_tup hx
      obtain ⟨p2, vs2, rfl, h3, h4⟩ := bres_tup hy
      have z1 := asInts_dp e1 h2
      have z2 := asInts_dp e2 h4
      subst z1 z2
      exact .inr ⟨_, _, _, _, rfl, rfl, h1, h3, q⟩
    · cases e
  · cases e
theorem ev_lt {k : Nat} (hr : Room k X.A) (ha : PE X a (rB X.K f)) (hb : PE X b (rB X.K g)) : PE X (.Compare a [.Lt] [b] pos) (rE X.K (xB (t2 cLt f g))) := ev_cmp (opr_or op_lt (op_ltT hr.units0)) op2b_lt ha hb (nomark b)
theorem et_lt {k : Nat} (hr : Room k X.A) (ha : PE X a (rB X.K f)) (hb : PE X b (rB X.K g)) : PT X (.Compare a [.Lt] [b] pos) (rT X.K (t2 cLt f g)) := et_cmp (opr_or op_lt (op_ltT hr.units0)) op2b_lt ha hb (nomark b)
theorem ev_le (ha : PE X a (rB X.K f)) (hb : PE X b (rB X.K g)) : PE X (.Compare a [.LtE] [b] pos) (rE X.K (xB (t2 (cInt fun i j => decide (i ≤ j)) f g))) := ev_cmp op_le op2b_int ha hb (nomark b)
theorem et_le (ha : PE X a (rB X.K f)) (hb : PE X b (rB X.K g)) : PT X (.Compare a [.LtE] [b] pos) (rT X.K (t2 (cInt fun i j => decide (i ≤ j)) f g)) := et_cmp op_le op2b_int ha hb (nomark b)
theorem ev_gt (ha : PE X a (rB X.K f)) (hb : PE X b (rB X.K g)) : PE X (.Compare a [.Gt] [b] pos) (rE X.K (xB (t2 (cInt fun i j => decide (j < i)) f g))) := ev_cmp op_gt op2b_int ha hb (nomark b)
theorem et_gt (ha : PE X a (rB X.K f)) (hb : PE X b (rB X.K g)) : PT X (.Compare a [.Gt] [b] pos) (rT X.K (t2 (cInt fun i j => decide (j < i)) f g)) := et_cmp op_gt op2b_int ha hb (nomark b)
theorem ev_ge (ha : PE X a (rB X.K f)) (hb : PE X b (rB X.K g)) : PE X (.Compare a [.GtE] [b] pos) (rE X.K (xB (t2 (cInt fun i j => decide (j ≤ i)) f g))) := ev_cmp op_ge op2b_int ha hb (nomark b)
theorem et_ge (ha : PE X a (rB X.K f)) (hb : PE X b (rB X.K g)) : PT X (.Compare a [.GtE] [b] pos) (rT X.K (t2 (cInt fun i j => decide (j ≤ i)) f g)) := et_cmp op_ge op2b_int ha hb (nomark b)
/-- == of data -/
def cEq : W → W → Option Bool
  | .d (.int i), .d (.int j) => some (i == j)
  | x, y => match dat x, dat y with
    | some u, some v => if SeqAt.shaped u && SeqAt.shaped v then some (PyData.eqv u v) else none
    | _, _ => none
def cNe (x y : W) : Option Bool := (cEq x y).map (!·)
theorem cEq_dat {x y : W} {cc : Bool} (e : cEq x y = some cc) : ∃ u v, dat x = some u ∧ dat y = some v ∧ SeqAt.shaped u = true ∧ SeqAt.shaped v = true ∧ cc = PyData.eqv u v := by
  unfold cEq at e
  split at e
  · cases e
    exact ⟨_, _, rfl, rfl, rfl, rfl, by simp [PyData.eqv]⟩
  · split at e
    · split at e
      · cases e
        rename_i h1 h2 h3
        rw [Bool.and_eq_true] at h3
        exact ⟨_, _, h1, h2, h3.1, h3.2, rfl⟩
      · cases e
    · cases e
theorem op2b_eq : Op2B X.K cEq (rEqD X.K) := fun H O x y wx wy cc Q hO hx hy e q => by
  obtain ⟨u, v, e1, e2, s1, s2, rfl⟩ := cEq_dat e
  exact ⟨u, v, bres_dat hx e1, bres_dat hy e2, s1, s2, q⟩
theorem op2b_ne : Op2B X.K cNe (rNeD X.K) := fun H O x y wx wy cc Q hO hx hy e q => by
  unfold cNe at e
  obtain ⟨c0, e0, rfl⟩ := Option.map_eq_some_iff.mp e
  obtain ⟨u, v, e1, e2, s1, s2, rfl⟩ := cEq_dat e0
  exact ⟨u, v, bres_dat hx e1, bres_dat hy e2, s1, s2, q⟩
theorem ev_eq {k : Nat} (hr : Room k X.A) (ha : PE X a (rB X.K f)) (hb : PE X b (rB X.K g)) : PE X (.Compare a [.Eq] [b] pos) (rE X.K (xB (t2 cEq f g))) := ev_cmp (op_eqD hr.units) op2b_eq ha hb (nomark b)
theorem et_eq {k : Nat} (hr : Room k X.A) (ha : PE X a (rB X.K f)) (hb : PE X b (rB X.K g)) : PT X (.Compare a [.Eq] [b] pos) (rT X.K (t2 cEq f g)) := et_cmp (op_eqD hr.units) op2b_eq ha hb (nomark b)
theorem ev_ne {k : Nat} (hr : Room k X.A) (ha : PE X a (rB X.K f)) (hb : PE X b (rB X.K g)) : PE X (.Compare a [.NotEq] [b] pos) (rE X.K (xB (t2 cNe f g))) := ev_cmp (op_neD hr.units) op2b_ne ha hb (nomark b)
theorem et_ne {k : Nat} (hr : Room k X.A) (ha : PE X a (rB X.K f)) (hb : PE X b (rB X.K g)) : PT X (.Compare a [.NotEq] [b] pos) (rT X.K (t2 cNe f g)) := et_cmp (op_neD hr.units) op2b_ne ha hb (nomark b)
/-- x is None -/
def isN : W → Bool
  | .d .none => true
  | _ => false
theorem bres_isN {K : PySem.W.Frag} {H : Hp} {O : List Addr} {w : W} {u : V} (h : BRes K H O w u) : decide (u = .non) = isN w := by
  cases w with
  | d x =>
    have h : Dp K (cut H O) u x := h
    cases h <;> simp [isN]
  | o bb =>
    obtain ⟨p, ho, rfl, _⟩ := h
    simp [isN]
def cIs : W → W → Option Bool
  | x, .d .none => some (isN x)
  | .d (.bool i), .d (.bool j) => some (decide (i = j))
  | _, _ => none
def cIsNot (x y : W) : Option Bool := (cIs x y).map (!·)
theorem op2b_is : Op2B X.K cIs (fun x y H Q => (y = .non ∧ Q (.bl (decide (x = .non))) H) ∨ ∃ i j, x = .bl i ∧ y = .bl j ∧ Q (.bl (decide (i = j))) H) := fun H O x y wx wy cc Q hO hx hy e q => by
  unfold cIs at e
  split at e
  · cases e
    exact .inl ⟨bres_none hy, by rw [bres_isN hx]; exact q⟩
  · cases e
    exact .inr ⟨_, _, bres_bool hx, bres_bool hy, q⟩
  · cases e
theorem op2b_isnot : Op2B X.K cIsNot (fun x y H Q => (y = .non ∧ Q (.bl (!decide (x = .non))) H) ∨ ∃ i j, x = .bl i ∧ y = .bl j ∧ Q (.bl (!decide (i = j))) H) := fun H O x y wx wy cc Q hO hx hy e q => by
  unfold cIsNot at e
  obtain ⟨c0, e0, rfl⟩ := Option.map_eq_some_iff.mp e
  unfold cIs at e0
  split at e0
  · cases e0
    exact .inl ⟨bres_none hy, by rw [bres_isN hx]; exact q⟩
  · cases e0
    exact .inr ⟨_, _, bres_bool hx, bres_bool hy, q⟩
  · cases e0
theorem ev_is (ha : PE X a (rB X.K f)) (hb : PE X b (rB X.K g)) : PE X (.Compare a [.Is] [b] pos) (rE X.K (xB (t2 cIs f g))) := ev_cmp (opr_or op_isN op_is_bl) op2b_is ha hb (nomark b)
theorem et_is (ha : PE X a (rB X.K f)) (hb : PE X b (rB X.K g)) : PT X (.Compare a [.Is] [b] pos) (rT X.K (t2 cIs f g)) := et_cmp (opr_or op_isN op_is_bl) op2b_is ha hb (nomark b)
theorem ev_isnot (ha : PE X a (rB X.K f)) (hb : PE X b (rB X.K g)) : PE X (.Compare a [.IsNot] [b] pos) (rE X.K (xB (t2 cIsNot f g))) := ev_cmp (opr_or op_notN op_isnot_bl) op2b_isnot ha hb (nomark b)
theorem et_isnot (ha : PE X a (rB X.K f)) (hb : PE X b (rB X.K g)) : PT X (.Compare a [.IsNot] [b] pos) (rT X.K (t2 cIsNot f g)) := et_cmp (opr_or op_notN op_isnot_bl) op2b_isnot ha hb (nomark b)
/-- x in a list or tuple -/
def rInDT (K : PySem.W.Frag) (neg : Bool) : R2 := fun x y H Q => ∃ d ds, Dp K H x d ∧ (Dp K H y (.list ds) ∨ Dp K H y (.tuple ds)) ∧ SeqAt.shaped d = true ∧ SeqAt.shaped (.list ds) = true ∧ Q (.bl (if neg then !(ds.any fun z => PyData.eqv z d) else (ds.any fun z => PyData.eqv z d))) H
theorem op_inDT (hu : X.A.units + 65 < cLine) : OpR X (compareOp .In) (rInDT X.K false) := by
  intro pins s σ H x y v u Q I rx ry h
  obtain ⟨d, ds, hd, he, sd, se, q⟩ := h
  obtain ⟨as, r1⟩ := Dp.reads I d x v hd rx
  rcases he with he | he
  · obtain ⟨bs, r2⟩ := Dp.reads I (.list ds) y u he ry
    exact SeqAt.in_list_reads r2 r1 (SeqAt.canLay_of_shaped se) (SeqAt.canLay_of_shaped sd) (PyProof.Rows.room_in_shaped sd hu) ⟨.bl _, H, I, rfl, q⟩
  · obtain ⟨bs, r2⟩ := Dp.reads I (.tuple ds) y u he ry
    exact SeqAt.in_tuple_reads r2 r1 (SeqAt.canLay_of_shaped se) (SeqAt.canLay_of_shaped sd) (PyProof.Rows.room_in_shaped sd hu) ⟨.bl _, H, I, rfl, q⟩
theorem op_notInDT (hu : X.A.units + 65 < cLine) : OpR X (compareOp .NotIn) (rInDT X.K true) := by
  intro pins s σ H x y v u Q I rx ry h
  obtain ⟨d, ds, hd, he, sd, se, q⟩ := h
  obtain ⟨as, r1⟩ := Dp.reads I d x v hd rx
  rcases he with he | he
  · obtain ⟨bs, r2⟩ := Dp.reads I (.list ds) y u he ry
    exact SeqAt.notIn_list_reads r2 r1 (SeqAt.canLay_of_shaped se) (SeqAt.canLay_of_shaped sd) (PyProof.Rows.room_in_shaped sd hu) ⟨.bl _, H, I, rfl, q⟩
  · obtain ⟨bs, r2⟩ := Dp.reads I (.tuple ds) y u he ry
    exact SeqAt.notIn_tuple_reads r2 r1 (SeqAt.canLay_of_shaped se) (SeqAt.canLay_of_shaped sd) (PyProof.Rows.room_in_shaped sd hu) ⟨.bl _, H, I, rfl, q⟩
def cIn (x y : W) : Option Bool := match dat x, asS y with
  | some d, some ds => if SeqAt.shaped d && SeqAt.shaped (.list ds) then some (ds.any fun z => PyData.eqv z d) else none
  | _, _ => none
def cNotIn (x y : W) : Option Bool := (cIn x y).map (!·)
theorem bres_seqD {K : PySem.W.Frag} {H : Hp} {O : List Addr} {w : W} {u : V} {xs : List D} (h : BRes K H O w u) (e : asS w = some xs) : Dp K H u (.list xs) ∨ Dp K H u (.tuple xs) := by
  obtain ⟨p, vs, rfl, a, b⟩ := bres_seq h e
  rcases a with a | a
  · exact .inl (.lst a (dpa_mono (cut_all H O) b))
  · exact .inr (.tup a (dpa_mono (cut_all H O) b))
theorem op2b_in : Op2B X.K cIn (rInDT X.K false) := fun H O x y wx wy cc Q hO hx hy e q => by
  unfold cIn at e
  split at e
  · rename_i d ds e1 e2
    split at e
    · cases e
      rename_i h3
      rw [Bool.and_eq_true] at h3
      exact ⟨d, ds, bres_dat hx e1, bres_seqD hy e2, h3.1, h3.2, q⟩
    · cases e
  · cases e
theorem op2b_notin : Op2B X.K cNotIn (rInDT X.K true) := fun H O x y wx wy cc Q hO hx hy e q => by
  unfold cNotIn at e
  obtain ⟨c0, e0, rfl⟩ := Option.map_eq_some_iff.mp e
  unfold cIn at e0
  split at e0
  · rename_i d ds e1 e2
    split at e0
    · cases e0
      rename_i h3
      rw [Bool.and_eq_true] at h3
      exact ⟨d, ds, bres_dat hx e1, bres_seqD hy e2, h3.1, h3.2, q⟩
    · cases e0
  · cases e0
theorem Room.units65 {k : Nat} {A : Around} (r : Room k A) : A.units + 65 < cLine := by have := r.un; omega
theorem ev_in {k : Nat} (hr : Room k X.A) (ha : PE X a (rB X.K f)) (hb : PE X b (rB X.K g)) (hm : behindInMarks .In b = false) : PE X (.Compare a [.In] [b] pos) (rE X.K (xB (t2 cIn f g))) := ev_cmp (op_inDT (Room.units65 hr)) op2b_in ha hb hm
theorem et_in {k : Nat} (hr : Room k X.A) (ha : PE X a (rB X.K f)) (hb : PE X b (rB X.K g)) (hm : behindInMarks .In b = false) : PT X (.Compare a [.In] [b] pos) (rT X.K (t2 cIn f g)) := et_cmp (op_inDT (Room.units65 hr)) op2b_in ha hb hm
theorem ev_notin {k : Nat} (hr : Room k X.A) (ha : PE X a (rB X.K f)) (hb : PE X b (rB X.K g)) (hm : behindInMarks .NotIn b = false) : PE X (.Compare a [.NotIn] [b] pos) (rE X.K (xB (t2 cNotIn f g))) := ev_cmp (op_notInDT (Room.units65 hr)) op2b_notin ha hb hm
theorem et_notin {k : Nat} (hr : Room k X.A) (ha : PE X a (rB X.K f)) (hb : PE X b (rB X.K g)) (hm : behindInMarks .NotIn b = false) : PT X (.Compare a [.NotIn] [b] pos) (rT X.K (t2 cNotIn f g)) := et_cmp (op_notInDT (Room.units65 hr)) op2b_notin ha hb hm

/-! ### tests -/
def truD : D → Option Bool
  | .none => some false
  | .bool b => some b
  | .int i => some (i != 0)
  | .str y => if y.length ≤ 16777216 then some ((y.length : Int) != 0) else none
  | .list xs => some (!xs.isEmpty)
  | .tuple xs => some (!xs.isEmpty)
  | .dict _ => none
def tru : W → Option Bool
  | .d x => truD x
  | .o (.lst xs) => some (!xs.isEmpty)
  | _ => none
theorem dpa_empty {K : PySem.W.Frag} {H : Hp} {vs : List V} {ds : List D} (h : DpAll K H vs ds) : ds.isEmpty = vs.isEmpty := by cases h <;> rfl
theorem tru_ok2 {K : PySem.W.Frag} {H : Hp} {O : List Addr} {w : W} {u : V} {k : Bool} (h : BRes K H O w u) (e : tru w = some k) : TruV K u H k := by
  cases w with
  | d x =>
    have h : Dp K (cut H O) u x := h
    have e : truD x = some k := e
    cases h with
    | non => cases e; rfl
    | bl b => cases e; rfl
    | int i => cases e; rfl
    | str y =>
      have e : (if y.length ≤ 16777216 then some ((y.length : Int) != 0) else none) = some k := e
      split at e
      · cases e; exact ⟨by rw [sizeLine_val]; assumption, rfl⟩
      · cases e
    | lst a b => cases e; exact .inl ⟨_, (cut_all H O).seq a, by rw [dpa_empty b]⟩
    | tup a b => cases e; exact .inr (.inl ⟨_, same_seqT (cut_all H O) a, by rw [dpa_empty b]⟩)
  | o bb =>
    obtain ⟨p, ho, rfl, h1, h2⟩ := h
    cases bb with
    | lst xs =>
      obtain ⟨vs, rfl, h2⟩ := h2
      cases e
      exact .inl ⟨_, .inl (.inl h1), by rw [dpa_empty h2]⟩
    | dct _ => cases e
    | set _ => cases e
def tV (f : En → Option W) : En → Option Bool := fun env => (f env).bind tru
/-- any value as a test -/
theorem et_val (ha : PE X a (rB X.K f)) (he : ∀ whole, isTrue a X.env whole = (do let v ← whole; standAt a.pos; holding [v] (truthy v))) : PT X a (rT X.K (tV f)) :=
  pt_imp (pt_truth ha he) fun σ H Q ⟨O, env, k, h1, h2, h3⟩ => by
    unfold tV at h2
    obtain ⟨w, e1, e2⟩ := Option.bind_eq_some_iff.mp h2
    exact ⟨O, env, w, h1, e1, fun H' u m r => ⟨k, tru_ok2 r e2, h3 H' m⟩⟩
def tN (f : En → Option Bool) : En → Option Bool := fun env => (f env).map (!·)
theorem et_not {p : En → Option Bool} (ha : PT X a (rT X.K p)) : PT X (.UnaryOp .Not a pos) (rT X.K (tN p)) :=
  pt_imp (pt_not ha) fun σ H Q ⟨O, env, k, h1, h2, h3⟩ => by
    unfold tN at h2
    obtain ⟨c0, e0, rfl⟩ := Option.map_eq_some_iff.mp h2
    exact ⟨O, env, c0, h1, e0, h3⟩
def tA (p q : En → Option Bool) : En → Option Bool := fun env => (p env).bind fun c => if c then q env else some false
def tO (p q : En → Option Bool) : En → Option Bool := fun env => (p env).bind fun c => if c then some true else q env
theorem ew_and1 {p : En → Option Bool} (ha : PT X a (rT X.K p)) : PW X (.BoolOp .And [a] pos) (rT X.K p) := pw_and1 ha
theorem ew_or1 {p : En → Option Bool} (ha : PT X a (rT X.K p)) : PW X (.BoolOp .Or [a] pos) (rT X.K p) := pw_or1 ha
theorem ew_and {rest : List Expr} {p q : En → Option Bool} (ha : PT X a (rT X.K p)) (hb : PW X (.BoolOp .And (b :: rest) pos) (rT X.K q)) : PW X (.BoolOp .And (a :: b :: rest) pos) (rT X.K (tA p q)) :=
  pw_imp (pw_and ha hb) fun σ H Q ⟨O, env, k, h1, h2, h3⟩ => by
    unfold tA at h2
    obtain ⟨c0, e0, e1⟩ := Option.bind_eq_some_iff.mp h2
    refine ⟨O, env, c0, h1, e0, fun H' m => ?_⟩
    cases c0 with
    | true => exact ⟨O, env, k, h1.mono m, e1, fun H2 m2 => h3 H2 (m.trans m2)⟩
    | false => cases e1; exact h3 H' m
theorem ew_or {rest : List Expr} {p q : En → Option Bool} (ha : PT X a (rT X.K p)) (hb : PW X (.BoolOp .Or (b :: rest) pos) (rT X.K q)) : PW X (.BoolOp .Or (a :: b :: rest) pos) (rT X.K (tO p q)) :=
  pw_imp (pw_or ha hb) fun σ H Q ⟨O, env, k, h1, h2, h3⟩ => by
    unfold tO at h2
    obtain ⟨c0, e0, e1⟩ := Option.bind_eq_some_iff.mp h2
    refine ⟨O, env, c0, h1, e0, fun H' m => ?_⟩
    cases c0 with
    | true => cases e1; exact h3 H' m
    | false => exact ⟨O, env, k, h1.mono m, e1, fun H2 m2 => h3 H2 (m.trans m2)⟩

/-! ### and | or | not | if else as values -/
/-- the first operands frozen data by their truth -/
def xA (f g : En → Option W) : En → Option W := fun env => (f env).bind fun x => (tru x).bind fun c => if c then g env else match x with | .d d => some (.d d) | _ => none
def xO (f g : En → Option W) : En → Option W := fun env => (f env).bind fun x => (tru x).bind fun c => if c then (match x with | .d d => some (.d d) | _ => none) else g env
theorem ev_one {op} (ha : PE X a (rE X.K f)) : PE X (.BoolOp op [a] pos) (rE X.K f) := pe_one ha
theorem ev_andV {rest : List Expr} (ha : PE X a (rE X.K f)) (hb : PE X (.BoolOp .And (b :: rest) pos) (rE X.K g)) : PE X (.BoolOp .And (a :: b :: rest) pos) (rE X.K (xA f g)) :=
  pe_imp (pe_andT ha hb) fun σ H Q ⟨O, env, w, h1, h2, h3⟩ => by
    unfold xA at h2
    obtain ⟨x, e0, e1⟩ := Option.bind_eq_some_iff.mp h2
    obtain ⟨c0, e2, e3⟩ := Option.bind_eq_some_iff.mp e1
    refine ⟨O, env, x, h1, e0, fun H' u m r => ⟨c0, tru_ok2 r.b e2, ?_⟩⟩
    cases c0 with
    | true => exact ⟨O, env, w, h1.mono m, e3, fun H2 u2 m2 r2 => h3 H2 u2 (m.trans m2) (r2.back m)⟩
    | false =>
      cases x with
      | d d => cases e3; exact h3 H' u m r
      | o _ => cases e3
theorem ev_orV {rest : List Expr} (ha : PE X a (rE X.K f)) (hb : PE X (.BoolOp .Or (b :: rest) pos) (rE X.K g)) : PE X (.BoolOp .Or (a :: b :: rest) pos) (rE X.K (xO f g)) :=
  pe_imp (pe_orT ha hb) fun σ H Q ⟨O, env, w, h1, h2, h3⟩ => by
    unfold xO at h2
    obtain ⟨x, e0, e1⟩ := Option.bind_eq_some_iff.mp h2
    obtain ⟨c0, e2, e3⟩ := Option.bind_eq_some_iff.mp e1
    refine ⟨O, env, x, h1, e0, fun H' u m r => ⟨c0, tru_ok2 r.b e2, ?_⟩⟩
    cases c0 with
    | false => exact ⟨O, env, w, h1.mono m, e3, fun H2 u2 m2 r2 => h3 H2 u2 (m.trans m2) (r2.back m)⟩
    | true =>
      cases x with
      | d d => cases e3; exact h3 H' u m r
      | o _ => cases e3
theorem ev_notV (ha : PE X a (rB X.K f)) : PE X (.UnaryOp .Not a pos) (rE X.K (xB (tN (tV f)))) :=
  pe_imp (pe_notT ha) fun σ H Q ⟨O, env, w, h1, h2, h3⟩ => by
    unfold xB tN tV at h2
    obtain ⟨c0, e0, rfl⟩ := Option.map_eq_some_iff.mp h2
    obtain ⟨c1, e1, rfl⟩ := Option.map_eq_some_iff.mp e0
    obtain ⟨x, e2, e3⟩ := Option.bind_eq_some_iff.mp e1
    exact ⟨O, env, x, h1, e2, fun H' u m r => ⟨c1, tru_ok2 r e3, h3 H' _ m (Dp.bl _)⟩⟩
def xIf (p : En → Option Bool) (f g : En → Option W) : En → Option W := fun env => (p env).bind fun c => if c then f env else g env
theorem ev_if {p : En → Option Bool} (hc : PT X c (rT X.K p)) (ha : PE X a (rE X.K f)) (hb : PE X b (rE X.K g)) : PE X (.IfExp c a b pos) (rE X.K (xIf p f g)) :=
  pe_imp (pe_ifExp hc ha hb) fun σ H Q ⟨O, env, w, h1, h2, h3⟩ => by
    unfold xIf at h2
    obtain ⟨c0, e0, e1⟩ := Option.bind_eq_some_iff.mp h2
    refine ⟨O, env, c0, h1, e0, fun H' m => ?_⟩
    cases c0 with
    | true => exact ⟨O, env, w, h1.mono m, e1, fun H2 u2 m2 r2 => h3 H2 u2 (m.trans m2) (r2.back m)⟩
    | false => exact ⟨O, env, w, h1.mono m, e1, fun H2 u2 m2 r2 => h3 H2 u2 (m.trans m2) (r2.back m)⟩
end
end EV

set_option Elab.async false
set_option linter.all false
set_option maxRecDepth 100000
set_option maxHeartbeats 1000000
/-! displays, subscripts, slices, built-in calls -/
namespace EV
open PySem L2
section
variable {X : Cx} {e a b c : Expr} {es : List Expr} {f g h : En → Option W} {fs : En → Option (List D)} {pos : Pos}

/-! ### argument lists as data -/
def rAD (K : PySem.W.Frag) (f : En → Option (List D)) : TA := fun σ H Q => ∃ O env ds, EnvRep K H O env σ ∧ f env = some ds ∧ ∀ H' vs, Same H H' → DpAll K (cut H' O) vs ds → Q vs H'
def aN : En → Option (List D) := fun _ => some []
def aC (f : En → Option W) (fs : En → Option (List D)) : En → Option (List D) := fun env => (f env).bind fun w => (dat w).bind fun d => (fs env).map (d :: ·)
theorem pa_imp {t t' : TA} (h : PA X es t) (i : ∀ σ H Q, t' σ H Q → t σ H Q) : PA X es t' := ⟨fun pos pins s σ H Q I q => h.run pos pins s σ H Q I (i σ H Q q)⟩
theorem ea_nil : PA X [] (rAD X.K aN) := pa_imp pa_nil fun σ H Q ⟨O, env, ds, h1, h2, h3⟩ => by
  cases h2; exact h3 H [] (Same.refl _) .nil
theorem ea_cons (ha : PE X e (rE X.K f)) (hr : PA X es (rAD X.K fs)) (hs : starEach (e :: es) X.env = (false, eval e X.env) :: starEach es X.env := by rfl) : PA X (e :: es) (rAD X.K (aC f fs)) :=
  pa_imp (pa_cons ha hr hs) fun σ H Q ⟨O, env, ds, h1, h2, h3⟩ => by
    unfold aC at h2
    obtain ⟨w, e1, e2⟩ := Option.bind_eq_some_iff.mp h2
    obtain ⟨d, e3, e4⟩ := Option.bind_eq_some_iff.mp e2
    obtain ⟨dr, e5, rfl⟩ := Option.map_eq_some_iff.mp e4
    refine ⟨O, env, w, h1, e1, fun H1 u m1 r1 => ⟨O, env, dr, h1.mono m1, e5, fun H2 vs m2 r2 => ?_⟩⟩
    exact h3 H2 _ (m1.trans m2) (.cons (dp_mono (cut_same m2 O) (res_dat r1 e3)) r2)
def xTup (fs : En → Option (List D)) : En → Option W := fun env => (fs env).bind fun ds => if ds.length ≤ 16777216 then some (.d (.tuple ds)) else none
def xLst (fs : En → Option (List D)) : En → Option W := fun env => (fs env).bind fun ds => if ds.length ≤ 16777216 then some (.o (.lst ds)) else none
theorem ev_tup {x1} (ha : PA X es (rAD X.K fs)) : PE X (.Tuple es x1 pos) (rE X.K (xTup fs)) :=
  pe_imp (pe_tup ha) fun σ H Q ⟨O, env, w, h1, h2, h3⟩ => by
    unfold xTup at h2
    obtain ⟨ds, e1, e2⟩ := Option.bind_eq_some_iff.mp h2
    split at e2
    · cases e2
      refine ⟨O, env, ds, h1, e1, fun H1 vs m1 r1 => ⟨by rw [sizeLine_val, dpa_len r1]; assumption, fun p n => ?_⟩⟩
      exact h3 _ _ (m1.trans (same_upd n)) (res_new_tup (h1.has.mono m1) n r1)
    · cases e2
theorem ev_lst (ha : PA X es (rAD X.K fs)) : PE X (.List es pos) (rE X.K (xLst fs)) :=
  pe_imp (pe_lst ha) fun σ H Q ⟨O, env, w, h1, h2, h3⟩ => by
    unfold xLst at h2
    obtain ⟨ds, e1, e2⟩ := Option.bind_eq_some_iff.mp h2
    split at e2
    · cases e2
      refine ⟨O, env, ds, h1, e1, fun H1 vs m1 r1 => ⟨by rw [sizeLine_val, dpa_len r1]; assumption, fun p n => ?_⟩⟩
      exact h3 _ _ (m1.trans (same_upd n)) ((res_new_lst (h1.has.mono m1) n r1).back m1)
    · cases e2

/-! ### subscripts -/
def wIx : W → W → Option W
  | .d (.str z), .d (.int i) => if z.length ≤ 16777216 then (atI z.cps.toList i).map fun c => .d (.str ⟨#[c]⟩) else none
  | x, .d (.int i) => (asS x).bind fun xs => (atI xs i).map .d
  | _, _ => none
theorem atI_dp {K : PySem.W.Frag} {H : Hp} {vs : List V} {ds : List D} {i : Int} {d : D} (h : DpAll K H vs ds) (e : atI ds i = some d) : ∃ v, atI vs i = some v ∧ Dp K H v d := by
  unfold atI at e ⊢
  rw [dpa_len h]
  obtain ⟨j, e1, e2⟩ := Option.bind_eq_some_iff.mp e
  obtain ⟨v, e3, e4⟩ := dpa_get h e2
  exact ⟨v, by rw [e1]; exact e3, e4⟩
theorem op2_ix : Op2 X.K wIx (rIx X.K) := fun H O x y wx wy w Q hO hx hy e q => by
  unfold wIx at e
  split at e
  · split at e
    · obtain ⟨cc, e1, rfl⟩ := Option.map_eq_some_iff.mp e
      exact .inr (.inr ⟨_, _, cc, bres_str hx, bres_int hy, by rw [sizeLine_val]; assumption, e1, q H _ (Same.refl _) (Dp.str _)⟩)
    · cases e
  · obtain ⟨xs, e1, e2⟩ := Option.bind_eq_some_iff.mp e
    obtain ⟨d, e3, rfl⟩ := Option.map_eq_some_iff.mp e2
    obtain ⟨p, vs, rfl, h1, h2⟩ := bres_seq hx e1
    obtain ⟨v, e4, e5⟩ := atI_dp h2 e3
    rcases h1 with h1 | h1
    · exact .inl ⟨p, vs, _, v, rfl, bres_int hy, h1, e4, q H _ (Same.refl _) e5⟩
    · exact .inr (.inl ⟨p, vs, _, v, rfl, bres_int hy, h1, e4, q H _ (Same.refl _) e5⟩)
  · cases e
theorem ev_ix (ha : PE X a (rB X.K f)) (hb : PE X b (rB X.K g)) (hs : PlainIx b) : PE X (.Subscript a b pos) (rE X.K (x2 wIx f g)) := pe_imp (pe_ix ix_seq ha hb hs) fun _ _ _ q => rd2 op2_ix q

/-! ### slices -/
def rO (K : PySem.W.Frag) (f : En → Option (Option Int)) : TO := fun σ H Q => ∃ O env l, EnvRep K H O env σ ∧ f env = some l ∧ ∀ H', Same H H' → Q l H'
def pN : En → Option (Option Int) := fun _ => some none
def wI : W → Option Int
  | .d (.int i) => some i
  | _ => none
def pS (f : En → Option W) : En → Option (Option Int) := fun env => (f env).bind fun w => (wI w).map some
theorem po_imp {o : Option Expr} {t t' : TO} (h : PO X o t) (i : ∀ σ H Q, t' σ H Q → t σ H Q) : PO X o t' := ⟨fun pins s σ H Q I q => h.run pins s σ H Q I (i σ H Q q)⟩
theorem eo_none : PO X none (rO X.K pN) := po_imp po_none fun σ H Q ⟨O, env, l, h1, h2, h3⟩ => by
  cases h2; exact h3 H (Same.refl _)
theorem eo_some (ha : PE X e (rB X.K f)) : PO X (some e) (rO X.K (pS f)) := po_imp (po_some ha) fun σ H Q ⟨O, env, l, h1, h2, h3⟩ => by
  unfold pS at h2
  obtain ⟨w, e1, e2⟩ := Option.bind_eq_some_iff.mp h2
  obtain ⟨i, e3, rfl⟩ := Option.map_eq_some_iff.mp e2
  refine ⟨O, env, w, h1, e1, fun H1 u m r => ?_⟩
  unfold wI at e3
  split at e3
  · cases e3
    exact ⟨_, bres_int r, h3 H1 m⟩
  · cases e3
def cutD (xs : List D) (lo hi : Option Int) : List D := (xs.drop (HT.sIx xs.length 0 lo)).take (HT.sIx xs.length xs.length hi - HT.sIx xs.length 0 lo)
theorem dpa_cut {K : PySem.W.Frag} {H : Hp} {vs : List V} {ds : List D} (lo hi : Option Int) (h : DpAll K H vs ds) : DpAll K H (cutV vs lo hi) (cutD ds lo hi) := by
  unfold cutV cutD
  rw [dpa_len h]
  exact dpa_take _ (dpa_drop _ h)
theorem cutV_whole {xs : List V} {lo hi : Option Int} (h : HT.sIx xs.length 0 lo = 0 ∧ HT.sIx xs.length xs.length hi = xs.length) : cutV xs lo hi = xs := by
  unfold cutV
  rw [h.1, h.2]
  simp
theorem cutD_whole {xs : List D} {lo hi : Option Int} (h : HT.sIx xs.length 0 lo = 0) (h' : HT.sIx xs.length xs.length hi = xs.length) : cutD xs lo hi = xs := by
  unfold cutD
  rw [h, h', List.drop_zero, Nat.sub_zero, List.take_length]
def wSl (w : W) (lo hi : Option Int) : Option W := match w with
  | .d (.str z) => if z.length ≤ 16777216 then some (.d (.str (cutS z lo hi))) else none
  | .d (.tuple xs) => some (.d (.tuple (cutD xs lo hi)))
  | x => (asL x).map fun xs => .o (.lst (cutD xs lo hi))
def xSl (f : En → Option W) (l h : En → Option (Option Int)) : En → Option W := fun env => (f env).bind fun w => (l env).bind fun lo => (h env).bind fun hi => wSl w lo hi
theorem ev_slice {lo hi : Option Expr} {l h : En → Option (Option Int)} {p2 : Pos} (ha : PE X e (rB X.K f)) (hl : PO X lo (rO X.K l)) (hh : PO X hi (rO X.K h)) : PE X (.Subscript e (.Slice lo hi none p2) pos) (rE X.K (xSl f l h)) :=
  pe_imp (pe_slice (SlR.or sl_str (SlR.or sl_tupA sl_list)) ha hl hh) fun σ H Q ⟨O, env, w, h1, h2, h3⟩ => by
    unfold xSl at h2
    obtain ⟨x, e1, e2⟩ := Option.bind_eq_some_iff.mp h2
    obtain ⟨lo', e3, e4⟩ := Option.bind_eq_some_iff.mp e2
    obtain ⟨hi', e5, e6⟩ := Option.bind_eq_some_iff.mp e4
    refine ⟨O, env, x, h1, e1, fun H1 u m1 r1 => ⟨O, env, lo', h1.mono m1, e3, fun H2 m2 => ⟨O, env, hi', h1.mono (m1.trans m2), e5, fun H3 m3 => ?_⟩⟩⟩
    have m := (m1.trans m2).trans m3
    have r3 : BRes X.K H3 O x u := r1.mono (m2.trans m3)
    have hO : Has H3 O := h1.has.mono m
    unfold wSl at e6
    split at e6
    · split at e6
      · cases e6
        exact .inl ⟨_, bres_str r3, by rw [sizeLine_val]; assumption, h3 H3 _ m (Dp.str _)⟩
      · cases e6
    · cases e6
      obtain ⟨p, vs, rfl, q1, q2⟩ := bres_tup r3
      refine .inr (.inl ⟨p, vs, rfl, q1, fun z => ?_, fun z r n => ?_⟩)
      · have t4 := dpa_len q2
        have t5 := z.1
        have t6 := z.2
        rw [t4] at t5 t6
        refine h3 H3 _ m ?_
        rw [cutD_whole t5 t6]
        exact r3
      · exact h3 _ _ (m.trans (same_upd n)) (res_new_tup hO n (dpa_cut lo' hi' q2))
    · obtain ⟨xs, e7, rfl⟩ := Option.map_eq_some_iff.mp e6
      obtain ⟨p, vs, rfl, q1, q2⟩ := bres_lst r3 e7
      exact .inr (.inr ⟨p, vs, rfl, q1, fun r n => h3 _ _ (m.trans (same_upd n)) ((res_new_lst hO n (dpa_cut lo' hi' q2)).back m)⟩)

/-! ### built-in calls by values -/
def C1 (K : PySem.W.Frag) (comb : W → Option W) (r : List V → Hp → VK → Prop) : Prop :=
  ∀ H O x wx w Q, Has H O → BRes K H O wx x → comb wx = some w → (∀ H' u, Same H H' → Res K H H' O w u → Q u H') → r [x] H Q
def C2 (K : PySem.W.Frag) (comb : W → W → Option W) (r : List V → Hp → VK → Prop) : Prop :=
  ∀ H O x y wx wy w Q, Has H O → BRes K H O wx x → BRes K H O wy y → comb wx wy = some w → (∀ H' u, Same H H' → Res K H H' O w u → Q u H') → r [x, y] H Q
theorem rc1 {comb : W → Option W} {r : List V → Hp → VK → Prop} (hc : C1 X.K comb r) {σ H Q} (q : rE X.K (x1 comb f) σ H Q) : tCB r (tCons (rB X.K f) tNil) σ H Q := by
  obtain ⟨O, env, w, h1, h2, h3⟩ := q
  unfold x1 at h2
  obtain ⟨wx, e1, e2⟩ := Option.bind_eq_some_iff.mp h2
  exact ⟨O, env, wx, h1, e1, fun H1 x m1 r1 => hc H1 O x wx w Q (h1.has.mono m1) r1 e2 fun H' u m2 r2 => h3 H' u (m1.trans m2) (r2.back m1)⟩
theorem rc2 {comb : W → W → Option W} {r : List V → Hp → VK → Prop} (hc : C2 X.K comb r) {σ H Q} (q : rE X.K (x2 comb f g) σ H Q) : tCB r (tCons (rB X.K f) (tCons (rB X.K g) tNil)) σ H Q := by
  obtain ⟨O, env, w, h1, h2, h3⟩ := q
  unfold x2 at h2
  obtain ⟨wx, e1, e2⟩ := Option.bind_eq_some_iff.mp h2
  obtain ⟨wy, e3, e4⟩ := Option.bind_eq_some_iff.mp e2
  refine ⟨O, env, wx, h1, e1, fun H1 x m1 r1 => ⟨O, env, wy, h1.mono m1, e3, fun H2 y m2 r2 => ?_⟩⟩
  exact hc H2 O x y wx wy w Q (h1.has.mono (m1.trans m2)) (r1.mono m2) r2 e4 fun H' u m3 r3 => h3 H' u ((m1.trans m2).trans m3) (r3.back (m1.trans m2))
theorem ev_c1 {id : String} {x : Str} {p : Pos} {comb : W → Option W} {r : List V → Hp → VK → Prop} (ho : CallR X (.builtin id) r) (hc : C1 X.K comb r) (hv : bootBuiltins x = some (.builtin id)) (hn : x ≠ "__name__") (hdb : (x == ("__debug__" : Str)) = false) (hg : Gl X x) (hm : X.mg x = none) (ha : PE X e (rB X.K f))
    (he : starEach [e] X.env = (false, eval e X.env) :: starEach [] X.env) (hpl : (backTo pos (starEach [] X.env)).any (·.1) = false) : PE X (.Call (.Name x p) [e] [] pos) (rE X.K (x1 comb f)) :=
  pe_imp (pe_callB ho hg hm hv (pa_cons ha pa_nil he) hn hdb he hpl) fun _ _ _ q => rc1 hc q
theorem ev_t1 {id : String} {x : Str} {p : Pos} {comb : W → Option W} {r : List V → Hp → VK → Prop} (ho : CallR X (.type id) r) (hc : C1 X.K comb r) (hv : bootBuiltins x = some (.type id)) (hn : x ≠ "__name__") (hdb : (x == ("__debug__" : Str)) = false) (hg : Gl X x) (hm : X.mg x = none) (ha : PE X e (rB X.K f))
    (he : starEach [e] X.env = (false, eval e X.env) :: starEach [] X.env) (hpl : (backTo pos (starEach [] X.env)).any (·.1) = false) : PE X (.Call (.Name x p) [e] [] pos) (rE X.K (x1 comb f)) :=
  pe_imp (pe_callTy ho hg hm hv (pa_cons ha pa_nil he) hn hdb he hpl) fun _ _ _ q => rc1 hc q
theorem ev_c2 {id : String} {x : Str} {p : Pos} {comb : W → W → Option W} {r : List V → Hp → VK → Prop} (ho : CallR X (.builtin id) r) (hc : C2 X.K comb r) (hv : bootBuiltins x = some (.builtin id)) (hn : x ≠ "__name__") (hdb : (x == ("__debug__" : Str)) = false) (hg : Gl X x) (hm : X.mg x = none) (ha : PE X a (rB X.K f)) (hb : PE X b (rB X.K g))
    (he : starEach [a, b] X.env = (false, eval a X.env) :: starEach [b] X.env) (he2 : starEach [b] X.env = (false, eval b X.env) :: starEach [] X.env) (hpl : (backTo pos (starEach [b] X.env)).any (·.1) = false) : PE X (.Call (.Name x p) [a, b] [] pos) (rE X.K (x2 comb f g)) :=
  pe_imp (pe_callB ho hg hm hv (pa_cons ha (pa_cons hb pa_nil he2) he) hn hdb he hpl) fun _ _ _ q => rc2 hc q
theorem bb_len : bootBuiltins "len" = some (.builtin "len") := by decide +kernel
theorem bb_abs : bootBuiltins "abs" = some (.builtin "abs") := by decide +kernel
theorem bb_max : bootBuiltins "max" = some (.builtin "max") := by decide +kernel
theorem bb_min : bootBuiltins "min" = some (.builtin "min") := by decide +kernel
theorem bb_sum : bootBuiltins "sum" = some (.builtin "sum") := by decide +kernel
theorem bb_sorted : bootBuiltins "sorted" = some (.builtin "sorted") := by decide +kernel
theorem bb_any : bootBuiltins "any" = some (.builtin "any") := by decide +kernel
theorem bb_all : bootBuiltins "all" = some (.builtin "all") := by decide +kernel
theorem bb_isinstance : bootBuiltins "isinstance" = some (.builtin "isinstance") := by decide +kernel
theorem bb_int : bootBuiltins "int" = some (.type "int") := by decide +kernel
theorem bb_bool : bootBuiltins "bool" = some (.type "bool") := by decide +kernel
theorem bb_str : bootBuiltins "str" = some (.type "str") := by decide +kernel
theorem bb_list : bootBuiltins "list" = some (.type "list") := by decide +kernel
theorem bb_tuple : bootBuiltins "tuple" = some (.type "tuple") := by decide +kernel
theorem bb_set : bootBuiltins "set" = some (.type "set") := by decide +kernel
/-- len -/
def wLen : W → Option W
  | .d (.str z) => if z.length ≤ 16777216 then some (.d (.int z.length)) else none
  | x => (asS x).map fun xs => .d (.int xs.length)
theorem c1_len : C1 X.K wLen (fun xs H Q => ∃ x n, xs = [x] ∧ LenV X.K x H n ∧ Q (.int n) H) := fun H O x wx w Q hO hx e q => by
  unfold wLen at e
  split at e
  · split at e
    · cases e
      have := bres_str hx
      subst this
      exact ⟨_, _, rfl, ⟨by rw [sizeLine_val]; assumption, rfl⟩, q H _ (Same.refl _) (Dp.int _)⟩
    · cases e
  · obtain ⟨xs, e1, rfl⟩ := Option.map_eq_some_iff.mp e
    obtain ⟨p, vs, rfl, h1, h2⟩ := bres_seq hx e1
    refine ⟨_, vs.length, rfl, ?_, ?_⟩
    · rcases h1 with h1 | h1
      · exact .inl ⟨_, h1, rfl⟩
      · exact .inr ⟨_, h1, rfl⟩
    · rw [dpa_len h2]
      exact q H _ (Same.refl _) (Dp.int _)
end
end EV

set_option Elab.async false
set_option linter.all false
set_option maxRecDepth 100000
set_option maxHeartbeats 1000000
/-! built-in calls -/
namespace EV
open PySem L2
section
variable {X : Cx} {e a b c : Expr} {es : List Expr} {f g h : En → Option W} {pos p : Pos}
/-! ### of one value -/
def wAbs : W → Option W
  | .d (.int i) => some (.d (.int i.natAbs))
  | _ => none
theorem c1_abs : C1 X.K wAbs (fun xs H Q => ∃ i, xs = [.int i] ∧ Q (.int (if i < 0 then -i else i)) H) := fun H O x wx w Q hO hx e q => by
  unfold wAbs at e
  split at e
  · cases e
    have := bres_int hx
    subst this
    refine ⟨_, rfl, ?_⟩
    rename_i i
    have : (if i < 0 then -i else i) = (i.natAbs : Int) := by split <;> omega
    rw [this]
    exact q H _ (Same.refl _) (Dp.int _)
  · cases e
def wToI : W → Option W
  | .d (.int i) => some (.d (.int i))
  | .d (.bool k) => some (.d (.int (if k then 1 else 0)))
  | _ => none
theorem c1_int : C1 X.K wToI (fun xs H Q => (∃ i, xs = [.int i] ∧ Q (.int i) H) ∨ ∃ k, xs = [.bl k] ∧ Q (.int (if k then 1 else 0)) H) := fun H O x wx w Q hO hx e q => by
  unfold wToI at e
  split at e
  · cases e
    have := bres_int hx
    subst this
    exact .inl ⟨_, rfl, q H _ (Same.refl _) (Dp.int _)⟩
  · cases e
    have := bres_bool hx
    subst this
    exact .inr ⟨_, rfl, q H _ (Same.refl _) (Dp.int _)⟩
  · cases e
def wToB : W → Option W
  | .d (.int i) => some (.d (.bool (i != 0)))
  | .d (.bool k) => some (.d (.bool k))
  | _ => none
theorem c1_bool : C1 X.K wToB (fun xs H Q => (∃ i, xs = [.int i] ∧ Q (.bl (i != 0)) H) ∨ ∃ k, xs = [.bl k] ∧ Q (.bl k) H) := fun H O x wx w Q hO hx e q => by
  unfold wToB at e
  split at e
  · cases e
    have := bres_int hx
    subst this
    exact .inl ⟨_, rfl, q H _ (Same.refl _) (Dp.bl _)⟩
  · cases e
    have := bres_bool hx
    subst this
    exact .inr ⟨_, rfl, q H _ (Same.refl _) (Dp.bl _)⟩
  · cases e
def wToL (w : W) : Option W := (asS w).map fun xs => .o (.lst xs)
theorem c1_list : C1 X.K wToL (fun xs H Q => ∃ p ys, xs = [.ref p] ∧ (SqL X.K H p ys ∨ SqT X.K H p ys) ∧ ∀ l, H l = none → Q (.ref l) (upd H l (.lst ys))) := fun H O x wx w Q hO hx e q => by
  unfold wToL at e
  obtain ⟨xs, e1, rfl⟩ := Option.map_eq_some_iff.mp e
  obtain ⟨p, vs, rfl, h1, h2⟩ := bres_seq hx e1
  exact ⟨p, vs, rfl, h1, fun l n => q _ _ (same_upd n) (res_new_lst hO n h2)⟩
def wToT (w : W) : Option W := (asS w).map fun xs => .d (.tuple xs)
theorem c1_tuple : C1 X.K wToT (fun xs H Q => ∃ p ys, xs = [.ref p] ∧ ((SqL X.K H p ys ∧ ∀ l, H l = none → Q (.ref l) (upd H l (.tup ys))) ∨ (SqT X.K H p ys ∧ Q (.ref p) H))) := fun H O x wx w Q hO hx e q => by
  unfold wToT at e
  obtain ⟨xs, e1, rfl⟩ := Option.map_eq_some_iff.mp e
  cases wx with
  | d y =>
    cases y with
    | tuple zs =>
      cases e1
      obtain ⟨p, vs, rfl, h1, h2⟩ := bres_tup hx
      exact ⟨p, vs, rfl, .inr ⟨h1, q H _ (Same.refl _) hx⟩⟩
    | list zs =>
      cases e1
      obtain ⟨p, vs, rfl, h1, h2⟩ := bres_lst (w := .d (.list _)) hx rfl
      exact ⟨p, vs, rfl, .inl ⟨h1, fun l n => q _ _ (same_upd n) (res_new_tup hO n h2)⟩⟩
    | _ => cases e1
  | o b =>
    cases b with
    | lst zs =>
      cases e1
      obtain ⟨p, vs, rfl, h1, h2⟩ := bres_lst (w := .o (.lst _)) hx rfl
      exact ⟨p, vs, rfl, .inl ⟨h1, fun l n => q _ _ (same_upd n) (res_new_tup hO n h2)⟩⟩
    | _ => cases e1
/-! ### sum -/
theorem sum_tupleG {prog : Program} {w : World} {A : Around} {E : Value → Shared → Prop} {s : Shared} {l : Addr} {xs : Array (Int × Tok)} {Q : Value → Shared → Prop} (hh : A.handled = none) (hl : s.heap.IsTuple l (intItems xs))
    (h : ∀ h' tk t', (∀ b o, s.heap.get? b = some o → h'.get? b = some o) → Q (.int (preSum (numAt xs) xs.size) t') { s with heap := h', toks := tk }) :
    wpAny (model prog w) A (call (.builtin "sum") [.ref l]) Q E s := by
  have hlt : l < s.heap.objs.size := by obtain ⟨_, e, _⟩ := hl; exact Heap.lt_size e
  refine call_sum_walkG (wpAny_pyIter_tuple hl ?_)
  refine ⟨_, _, _, _, _, _, numAt xs, rfl, Walks.tuple (A := A.in1) hh _ l (Nat.ne_of_lt hlt) (intItems xs), ⟨⟨_, Heap.get?_push_size _ rfl, rfl, rfl⟩, hl.push _⟩, fun b hb => ?_, (fun _ _ => intItems_at), fun h' tk t' hk => ?_⟩
  · show b < (s.heap.push _).objs.size
    rw [Heap.size_push]
    rcases List.mem_cons.mp hb with rfl | hb
    · exact Nat.lt_succ_self _
    · rcases List.mem_cons.mp hb with rfl | hb
      · exact Nat.lt_succ_of_lt hlt
      · cases hb
  · have q := h h' tk t' fun b o eo => hk b o (fun hmem => by
      rcases List.mem_cons.mp hmem with e1 | hmem
      · exact absurd (e1 ▸ Heap.lt_size eo) (Nat.lt_irrefl _)
      · cases hmem) (Heap.get?_push_of_some _ eo)
    simpa [intItems] using q
def rSumT (K : PySem.W.Frag) : List V → Hp → VK → Prop := fun vs H Q => ∃ (a : Addr) (ns : List Int), vs = [V.ref a] ∧ SqT K H a (ns.map V.int) ∧ Q (.int ns.sum) H
theorem cr_sumT (hc : X.calm = true) : CallR X (.builtin "sum") (rSumT X.K) := by
  intro pins s σ H vs us Q I r h
  obtain ⟨a, ns, rfl, hs, q⟩ := h
  obtain ⟨its, rv, hl, _⟩ := I.tuple hs
  rw [Vals.ref1 r]
  obtain ⟨xs, e⟩ := rv.ints.allInts.items
  have hn : numsOf (intItems xs).toList = ns := by rw [← e]; exact rv.ints.numsOf
  rw [nums_intItems] at hn
  rw [e] at hl
  refine sum_tupleG (I.ok.hd hc) hl fun h' tk t' hk => ⟨.int _, H, I.kept hk, ⟨t', ?_⟩, q⟩
  rw [preSum_eq, List.take_of_length_le (by simp), hn]
theorem callR_or {fv : Value} {r r' : List V → Hp → VK → Prop} (h : CallR X fv r) (h' : CallR X fv r') : CallR X fv (fun xs H Q => r xs H Q ∨ r' xs H Q) := by
  intro pins s σ H xs us Q I rs q
  rcases q with q | q
  · exact h pins s σ H xs us Q I rs q
  · exact h' pins s σ H xs us Q I rs q
def wSum (w : W) : Option W := (asS w).bind fun xs => (asInts xs).map fun ns => .d (.int ns.sum)
theorem c1_sum : C1 X.K wSum (fun xs H Q => rSum X.K xs H Q ∨ rSumT X.K xs H Q) := fun H O x wx w Q hO hx e q => by
  unfold wSum at e
  obtain ⟨xs, e1, e2⟩ := Option.bind_eq_some_iff.mp e
  obtain ⟨ns, e3, rfl⟩ := Option.map_eq_some_iff.mp e2
  obtain ⟨p, vs, rfl, h1, h2⟩ := bres_seq hx e1
  have := asInts_dp e3 h2
  subst this
  rcases h1 with h1 | h1
  · exact .inl ⟨p, ns, rfl, h1, q H _ (Same.refl _) (Dp.int _)⟩
  · exact .inr ⟨p, ns, rfl, h1, q H _ (Same.refl _) (Dp.int _)⟩
/-! ### any, all of a list of truth values -/
def asBls : List D → Option (List Bool)
  | [] => some []
  | .bool i :: r => (asBls r).map (i :: ·)
  | _ => none
theorem asBls_dp {K : PySem.W.Frag} {H : Hp} : ∀ {xs : List D} {vs : List V} {ns : List Bool}, asBls xs = some ns → DpAll K H vs xs → vs = ns.map V.bl
  | [], _, _, e, .nil => by cases e; rfl
  | .bool i :: r, _, _, e, .cons a b => by
    unfold asBls at e
    obtain ⟨ns, e1, rfl⟩ := Option.map_eq_some_iff.mp e
    cases a
    rw [asBls_dp e1 b]; rfl
  | .none :: _, _, _, e, _ => by cases e
  | .int _ :: _, _, _, e, _ => by cases e
  | .str _ :: _, _, _, e, _ => by cases e
  | .list _ :: _, _, _, e, _ => by cases e
  | .tuple _ :: _, _, _, e, _ => by cases e
  | .dict _ :: _, _, _, e, _ => by cases e
def wAny (w : W) : Option W := (asL w).bind fun xs => (asBls xs).map fun ns => .d (.bool (ns.any id))
def wAll (w : W) : Option W := (asL w).bind fun xs => (asBls xs).map fun ns => .d (.bool (ns.all id))
theorem c1_any : C1 X.K wAny (rAny X.K) := fun H O x wx w Q hO hx e q => by
  unfold wAny at e
  obtain ⟨xs, e1, e2⟩ := Option.bind_eq_some_iff.mp e
  obtain ⟨ns, e3, rfl⟩ := Option.map_eq_some_iff.mp e2
  obtain ⟨p, vs, rfl, h1, h2⟩ := bres_lst hx e1
  have := asBls_dp e3 h2
  subst this
  exact ⟨p, ns, rfl, h1, q H _ (Same.refl _) (Dp.bl _)⟩
theorem c1_all : C1 X.K wAll (rAll X.K) := fun H O x wx w Q hO hx e q => by
  unfold wAll at e
  obtain ⟨xs, e1, e2⟩ := Option.bind_eq_some_iff.mp e
  obtain ⟨ns, e3, rfl⟩ := Option.map_eq_some_iff.mp e2
  obtain ⟨p, vs, rfl, h1, h2⟩ := bres_lst hx e1
  have := asBls_dp e3 h2
  subst this
  exact ⟨p, ns, rfl, h1, q H _ (Same.refl _) (Dp.bl _)⟩
/-! ### min, max of two -/
def wMax2 : W → W → Option W
  | .d (.int i), .d (.int j) => some (.d (.int (max i j)))
  | _, _ => none
def wMin2 : W → W → Option W
  | .d (.int i), .d (.int j) => some (.d (.int (min i j)))
  | _, _ => none
theorem c2_max : C2 X.K wMax2 (fun xs H Q => ∃ i j, xs = [.int i, .int j] ∧ Q (.int (if j > i then j else i)) H) := fun H O x y wx wy w Q hO hx hy e q => by
  unfold wMax2 at e
  split at e
  · cases e
    have := bres_int hx
    subst this
    have := bres_int hy
    subst this
    rename_i i j
    refine ⟨i, j, rfl, ?_⟩
    rw [show (if j > i then j else i) = max i j by split <;> omega]
    exact q H _ (Same.refl _) (Dp.int _)
  · cases e
theorem c2_min : C2 X.K wMin2 (fun xs H Q => ∃ i j, xs = [.int i, .int j] ∧ Q (.int (if j < i then j else i)) H) := fun H O x y wx wy w Q hO hx hy e q => by
  unfold wMin2 at e
  split at e
  · cases e
    have := bres_int hx
    subst this
    have := bres_int hy
    subst this
    rename_i i j
    refine ⟨i, j, rfl, ?_⟩
    rw [show (if j < i then j else i) = min i j by split <;> omega]
    exact q H _ (Same.refl _) (Dp.int _)
  · cases e
/-! ### min, max, sorted of data -/
def alikeB (xs : List D) : Bool := (xs.all fun x => xs.all fun y => PySem.W.alike x y) && xs.all fun x => match x with | .none => false | _ => true
theorem alikeB_ok {xs : List D} (h : alikeB xs = true) : (∀ x ∈ xs, ∀ y ∈ xs, PySem.W.alike x y = true) ∧ ∀ x ∈ xs, x ≠ .none := by
  unfold alikeB at h
  rw [Bool.and_eq_true, List.all_eq_true, List.all_eq_true] at h
  refine ⟨fun x hx => List.all_eq_true.mp (h.1 x hx), fun x hx z => ?_⟩
  have := h.2 x hx
  rw [z] at this
  cases this
end
end EV

set_option Elab.async false
set_option linter.all false
set_option maxRecDepth 100000
set_option maxHeartbeats 1000000
/-! statements -/
namespace EV
open PySem L2

inductive Fl where
  | nx | bk | ct
  | rt (w : W)
/-- what a statement may change: what is owned -/
structure Ext (H H' : Hp) (O O' : List Addr) : Prop where
  keep : ∀ b o, b ∉ O → H b = some o → H' b = some o
  new : ∀ a ∈ O', a ∈ O ∨ H a = none
theorem Ext.of_same {H H' : Hp} (m : Same H H') (O : List Addr) : Ext H H' O O := ⟨fun b o _ e => m b o e, fun a z => .inl z⟩
theorem Ext.trans {H H1 H2 : Hp} {O O1 O2 : List Addr} (x : Ext H H1 O O1) (y : Ext H1 H2 O1 O2) : Ext H H2 O O2 := by
  refine ⟨fun b o n e => y.keep b o (fun z => ?_) (x.keep b o n e), fun a z => ?_⟩
  · rcases x.new b z with q | q
    · exact n q
    · rw [q] at e; cases e
  · rcases y.new a z with q | q
    · exact x.new a q
    · by_cases h : a ∈ O
      · exact .inl h
      · cases e : H a with
        | none => exact .inr rfl
        | some o =>
          have := x.keep a o h e
          rw [q] at this; cases this
/-- the same for all that is not to be leant on -/
theorem Ext.tot {H H' : Hp} {O O' : List Addr} (x : Ext H H' O O') (Ex : List Addr) : Ext H H' (Ex ++ O) (Ex ++ O') :=
  ⟨fun b o n e => x.keep b o (fun z => n (List.mem_append_right _ z)) e, fun a z => (List.mem_append.mp z).elim (fun q => .inl (List.mem_append_left _ q)) fun q => (x.new a q).elim (fun r => .inl (List.mem_append_right _ r)) .inr⟩
theorem Ext.cut {H H' : Hp} {T T' : List Addr} (x : Ext H H' T T') : Same (cut H T) (cut H' T') := fun b o e => by
  obtain ⟨n, e⟩ := cut_of e
  refine cut_mk (fun z => ?_) (x.keep b o n e)
  rcases x.new b z with q | q
  · exact n q
  · rw [q] at e; cases e
/-- the names: what they own is in O, not in Ex -/
structure SRep (K : PySem.W.Frag) (H : Hp) (Ex O : List Addr) (env : En) (σ : L2.St) : Prop where
  er : EnvRep K H (Ex ++ O) env σ
  own : ∀ (i : Nat) (b : Ob) (p : Addr), env[i]? = some (some (.o b)) → σ[i]? = some (some (.ref p)) → p ∈ O
  dis : ∀ a ∈ O, a ∉ Ex
/-- a returned value -/
def RRes (K : PySem.W.Frag) (H H' : Hp) (Ex O : List Addr) : W → V → Prop
  | .d x, u => Dp K (cut H' Ex) u x
  | .o b, u => ∃ p ho, u = .ref p ∧ p ∉ Ex ∧ (p ∈ O ∨ H p = none) ∧ H' p = some ho ∧ ObRep K (cut H' (p :: Ex)) b ho
def EndOk (K : PySem.W.Frag) (D : Ends) (H : Hp) (Ex O : List Addr) : Fl → En → Prop
  | .nx, env => ∀ H' O' σ', Ext H H' O O' → SRep K H' Ex O' env σ' → D.nx σ' H'
  | .bk, env => ∀ H' O' σ', Ext H H' O O' → SRep K H' Ex O' env σ' → D.bk σ' H'
  | .ct, env => ∀ H' O' σ', Ext H H' O O' → SRep K H' Ex O' env σ' → D.ct σ' H'
  | .rt w, _ => ∀ H' u, (∀ b o, b ∉ O → H b = some o → H' b = some o) → RRes K H H' Ex O w u → D.rt u H'
abbrev SF := En → Option (Fl × En)
def rS (K : PySem.W.Frag) (f : SF) : TS := fun D σ H => ∃ Ex O env fl env', SRep K H Ex O env σ ∧ f env = some (fl, env') ∧ EndOk K D H Ex O fl env'
theorem EndOk.ext {K : PySem.W.Frag} {D : Ends} {H H1 : Hp} {Ex O O1 : List Addr} {fl : Fl} {env : En} (x : Ext H H1 O O1) (h : EndOk K D H Ex O fl env) : EndOk K D H1 Ex O1 fl env := by
  cases fl with
  | nx => exact fun H' O' σ' y r => h H' O' σ' (x.trans y) r
  | bk => exact fun H' O' σ' y r => h H' O' σ' (x.trans y) r
  | ct => exact fun H' O' σ' y r => h H' O' σ' (x.trans y) r
  | rt w =>
    refine fun H' u k r => h H' u (fun b o n e => ?_) ?_
    · refine k b o (fun z => ?_) (x.keep b o n e)
      rcases x.new b z with q | q
      · exact n q
      · rw [q] at e; cases e
    · cases w with
      | d y => exact r
      | o b =>
        obtain ⟨p, ho, e, n, q, e2, r2⟩ := r
        refine ⟨p, ho, e, n, ?_, e2, r2⟩
        rcases q with q | q
        · exact x.new p q
        · by_cases hh : p ∈ O
          · exact .inl hh
          · cases e3 : H p with
            | none => exact .inr rfl
            | some oo =>
              have := x.keep p oo hh e3
              rw [q] at this; cases this
section
variable {K : PySem.W.Frag} {H H' H1 : Hp} {Ex O O' : List Addr} {env : En} {σ : L2.St} {i : Nat} {u : V} {w : W}
theorem SRep.same (m : Same H H') (h : SRep K H Ex O env σ) : SRep K H' Ex O env σ := ⟨h.er.mono m, h.own, h.dis⟩
/-- a frozen value put into a slot -/
theorem EnvRep.put_d {T : List Addr} {x : D} (h : EnvRep K H T env σ) (r : Dp K (cut H T) u x) : EnvRep K H T (env.set i (some (.d x))) (σ.set i (some u)) := by
  refine ⟨h.has, by simp [h.len], fun j w e => ?_, fun j l b c p e1 e2 e3 e4 => ?_⟩
  · by_cases hj : i = j
    · subst hj
      have hi : i < env.length := by
        have := (List.getElem?_eq_some_iff.mp e).1
        simpa using this
      rw [List.getElem?_set_self hi] at e
      cases e
      exact ⟨u, List.getElem?_set_self (by rw [← h.len]; exact hi), r⟩
    · rw [List.getElem?_set_ne hj] at e
      obtain ⟨v, a, b⟩ := h.slot j w e
      exact ⟨v, by rw [List.getElem?_set_ne hj]; exact a, b⟩
  · have dj : ∀ {j : Nat} {b : Ob}, (env.set i (some (.d x)))[j]? = some (some (W.o b)) → i ≠ j ∧ env[j]? = some (some (W.o b)) := fun {j b} e => by
      by_cases hj : i = j
      · subst hj
        have hi : i < env.length := by
          have := (List.getElem?_eq_some_iff.mp e).1
          simpa using this
        rw [List.getElem?_set_self hi] at e
        cases e
      · rw [List.getElem?_set_ne hj] at e
        exact ⟨hj, e⟩
    obtain ⟨n1, f1⟩ := dj e1
    obtain ⟨n2, f2⟩ := dj e2
    rw [List.getElem?_set_ne n1] at e3
    rw [List.getElem?_set_ne n2] at e4
    exact h.apart j l b c p f1 f2 e3 e4
theorem own_put_d {x : D} {j : Nat} {b : Ob} {p : Addr} (e : (env.set i (some (.d x)))[j]? = some (some (W.o b))) (e2 : (σ.set i (some u))[j]? = some (some (.ref p))) : env[j]? = some (some (W.o b)) ∧ σ[j]? = some (some (.ref p)) := by
  by_cases hj : i = j
  · subst hj
    have hi : i < env.length := by
      have := (List.getElem?_eq_some_iff.mp e).1
      simpa using this
    rw [List.getElem?_set_self hi] at e
    cases e
  · rw [List.getElem?_set_ne hj] at e e2
    exact ⟨e, e2⟩
theorem SRep.put_d {x : D} (h : SRep K H Ex O env σ) (r : Dp K (cut H (Ex ++ O)) u x) : SRep K H Ex O (env.set i (some (.d x))) (σ.set i (some u)) :=
  ⟨h.er.put_d r, fun j b p e e2 => let q := own_put_d e e2; h.own j b p q.1 q.2, h.dis⟩
theorem mem_mid {Ex O : List Addr} {p a : Addr} : a ∈ Ex ++ p :: O ↔ a ∈ p :: (Ex ++ O) := by simp; exact ⟨fun h => by rcases h with h | h | h <;> simp [h], fun h => by rcases h with h | h | h <;> simp [h]⟩
/-- a new thing of one's own put into a slot -/
theorem SRep.put_o {b : Ob} {p : Addr} {ho : HO} (h : SRep K H Ex O env σ) (m : Same H H') (np : p ∉ Ex ++ O) (n : H p = none) (e : H' p = some ho) (r : ObRep K (cut H' (p :: (Ex ++ O))) b ho) :
    SRep K H' Ex (p :: O) (env.set i (some (.o b))) (σ.set i (some (.ref p))) := by
  have c1 : Same (cut H (Ex ++ O)) (cut H' (Ex ++ p :: O)) := fun b o z => cut_le (fun a q => mem_mid.mp q) b o (cut_new m n b o z)
  have c2 : Same (cut H' (p :: (Ex ++ O))) (cut H' (Ex ++ p :: O)) := cut_le fun a q => mem_mid.mp q
  have old : ∀ {j : Nat} {c : Ob} {q : Addr}, env[j]? = some (some (W.o c)) → σ[j]? = some (some (.ref q)) → q ≠ p := fun {j c q} e1 e2 z => by
    subst z
    exact np (List.mem_append_right _ (h.own j c q e1 e2))
  refine ⟨⟨fun a z => ?_, by simp [h.er.len], fun j w z => ?_, fun j l b1 c1' q e1 e2 e3 e4 => ?_⟩, fun j b1 q e1 e2 => ?_, fun a z => ?_⟩
  · rcases List.mem_cons.mp (mem_mid.mp z) with rfl | z
    · exact ⟨ho, e⟩
    · exact (h.er.has.mono m) a z
  · by_cases hj : i = j
    · subst hj
      have hi : i < env.length := by
        have := (List.getElem?_eq_some_iff.mp z).1
        simpa using this
      rw [List.getElem?_set_self hi] at z
      cases z
      exact ⟨.ref p, List.getElem?_set_self (by rw [← h.er.len]; exact hi), p, ho, rfl, by simp, e, ob_mono c2 r⟩
    · rw [List.getElem?_set_ne hj] at z
      obtain ⟨v, a, bb⟩ := h.er.slot j w z
      refine ⟨v, by rw [List.getElem?_set_ne hj]; exact a, ?_⟩
      cases w with
      | d x => exact dp_mono c1 bb
      | o b1 =>
        obtain ⟨q, hq, e1, e2, e3, e4⟩ := bb
        exact ⟨q, hq, e1, mem_mid.mpr (List.mem_cons_of_mem _ e2), m _ _ e3, ob_mono c1 e4⟩
  · by_cases hj : i = j
    · by_cases hl : i = l
      · exact hj.symm.trans hl
      · exfalso
        subst hj
        have hi : i < σ.length := by
          have := (List.getElem?_eq_some_iff.mp e3).1
          simpa using this
        rw [List.getElem?_set_self hi] at e3
        rw [List.getElem?_set_ne hl] at e2 e4
        cases e3
        exact old e2 e4 rfl
    · by_cases hl : i = l
      · exfalso
        subst hl
        have hi : i < σ.length := by
          have := (List.getElem?_eq_some_iff.mp e4).1
          simpa using this
        rw [List.getElem?_set_self hi] at e4
        rw [List.getElem?_set_ne hj] at e1 e3
        cases e4
        exact old e1 e3 rfl
      · rw [List.getElem?_set_ne hj] at e1 e3
        rw [List.getElem?_set_ne hl] at e2 e4
        exact h.er.apart j l b1 c1' q e1 e2 e3 e4
  · by_cases hj : i = j
    · subst hj
      have hi : i < σ.length := by
        have := (List.getElem?_eq_some_iff.mp e2).1
        simpa using this
      rw [List.getElem?_set_self hi] at e2
      cases e2
      simp
    · rw [List.getElem?_set_ne hj] at e1 e2
      exact List.mem_cons_of_mem _ (h.own j b1 q e1 e2)
  · rcases List.mem_cons.mp z with rfl | z
    · exact fun q => np (List.mem_append_left _ q)
    · exact h.dis a z
/-- a result put into a slot -/
theorem SRep.put (h : SRep K H Ex O env σ) (m : Same H H') (r : Res K H H' (Ex ++ O) w u) : ∃ O', Ext H H' O O' ∧ SRep K H' Ex O' (env.set i (some w)) (σ.set i (some u)) := by
  cases w with
  | d x => exact ⟨O, Ext.of_same m O, (h.same m).put_d r⟩
  | o b =>
    obtain ⟨p, ho, rfl, np, n, e, r⟩ := r
    exact ⟨p :: O, ⟨fun b o _ q => m b o q, fun a z => (List.mem_cons.mp z).elim (fun q => .inr (q ▸ n)) .inl⟩, h.put_o m np n e r⟩
end

/-! ### blocks -/
theorem ps_imp {X : Cx} {st : Stmt} {t t' : TS} (h : PS X st t) (i : ∀ D σ H, t' D σ H → t D σ H) : PS X st t' := ⟨fun pins s σ H D I q => h.run pins s σ H D I (i D σ H q)⟩
theorem pss_imp {X : Cx} {st : List Stmt} {t t' : TS} (h : PSs X st t) (i : ∀ D σ H, t' D σ H → t D σ H) : PSs X st t' := ⟨fun pins s σ H D I q => h.run pins s σ H D I (i D σ H q)⟩
section
variable {X : Cx} {e a b c : Expr} {f g h : En → Option W} {pos : Pos} {st : Stmt} {rest : List Stmt} {F G : SF}
def sNil : SF := fun env => some (.nx, env)
def sSeq (F G : SF) : SF := fun env => (F env).bind fun r => match r with
  | (.nx, e1) => G e1
  | r => some r
theorem es_nil : PSs X [] (rS X.K sNil) := pss_imp pss_nil fun D σ H ⟨Ex, O, env, fl, env', h1, h2, h3⟩ => by
  cases h2
  exact h3 H O σ (Ext.of_same (Same.refl _) O) h1
theorem rs_seq {D : Ends} {σ : L2.St} {H : Hp} (q : rS X.K (sSeq F G) D σ H) : tSeq (rS X.K F) (rS X.K G) D σ H := by
  obtain ⟨Ex, O, env, fl, env', h1, h2, h3⟩ := q
  unfold sSeq at h2
  obtain ⟨⟨f1, e1⟩, q1, q2⟩ := Option.bind_eq_some_iff.mp h2
  refine ⟨Ex, O, env, f1, e1, h1, q1, ?_⟩
  cases f1 with
  | nx => exact fun H' O' σ' x r => ⟨Ex, O', e1, fl, env', r, q2, h3.ext x⟩
  | bk => cases q2; exact h3
  | ct => cases q2; exact h3
  | rt w => cases q2; exact h3
theorem es_cons (h1 : PS X st (rS X.K F)) (h2 : PSs X rest (rS X.K G)) : PSs X (st :: rest) (rS X.K (sSeq F G)) := pss_imp (pss_cons h1 h2) fun _ _ _ q => rs_seq q
theorem es_one (h1 : PS X st (rS X.K F)) : PSs X [st] (rS X.K F) := pss_one h1
/-- ghost: a name's list is from now on shared, never changed -/
def frzAt (i : Nat) (env : En) : En := match env[i]? with
  | some (some (.o (.lst xs))) => env.set i (some (.d (.list xs)))
  | _ => env
theorem frz_rep {K : PySem.W.Frag} {H : Hp} {Ex O : List Addr} {env : En} {σ : L2.St} (i : Nat) (h : SRep K H Ex O env σ) : ∃ O', Ext H H O O' ∧ (∀ a ∈ O', a ∈ O) ∧ SRep K H Ex O' (frzAt i env) σ := by
  unfold frzAt
  split
  · rename_i xs e
    obtain ⟨u, e1, p, ho, rfl, pO, hp, vs, rfl, r⟩ := h.er.slot i _ e
    have pO2 : p ∈ O := h.own i _ p e e1
    have hi : i < env.length := (List.getElem?_eq_some_iff.mp e).1
    have ne : ∀ {j : Nat} {b : Ob} {q : Addr}, i ≠ j → env[j]? = some (some (W.o b)) → σ[j]? = some (some (.ref q)) → q ≠ p := fun {j b q} hj f1 f2 z => by
      subst z
      exact hj (h.er.apart i j _ b q e f1 e1 f2)
    have sub : ∀ a ∈ Ex ++ O.filter (fun a => decide (a ≠ p)), a ∈ Ex ++ O := fun a z => by
      rcases List.mem_append.mp z with z | z
      · exact List.mem_append_left _ z
      · exact List.mem_append_right _ (List.mem_filter.mp z).1
    have np : p ∉ Ex ++ O.filter (fun a => decide (a ≠ p)) := fun z => by
      rcases List.mem_append.mp z with z | z
      · exact h.dis p pO2 z
      · have := (List.mem_filter.mp z).2
        simp at this
    refine ⟨O.filter fun a => decide (a ≠ p), ⟨fun b o _ q => q, fun a z => .inl (List.mem_filter.mp z).1⟩, fun a z => (List.mem_filter.mp z).1, ⟨⟨fun a z => h.er.has a (sub a z), by simp [h.er.len], fun j w z => ?_, fun j l b c q f1 f2 f3 f4 => ?_⟩, fun j b q f1 f2 => ?_, fun a z => h.dis a (List.mem_filter.mp z).1⟩⟩
    · by_cases hj : i = j
      · subst hj
        rw [List.getElem?_set_self hi] at z
        cases z
        exact ⟨.ref p, e1, Dp.lst (.inl (.inl (cut_mk np hp))) (dpa_mono (cut_le sub) r)⟩
      · rw [List.getElem?_set_ne hj] at z
        obtain ⟨v, f1, f2⟩ := h.er.slot j w z
        refine ⟨v, f1, ?_⟩
        cases w with
        | d x => exact dp_mono (cut_le sub) f2
        | o b =>
          obtain ⟨q, hq, rfl, g2, g3, g4⟩ := f2
          have g5 : q ∈ O := h.own j b q z f1
          exact ⟨q, hq, rfl, List.mem_append_right _ (List.mem_filter.mpr ⟨g5, by simpa using ne hj z f1⟩), g3, ob_mono (cut_le sub) g4⟩
    · have nj : ∀ {j : Nat} {b : Ob}, (env.set i (some (.d (.list xs))))[j]? = some (some (W.o b)) → env[j]? = some (some (W.o b)) := fun {j b} f => by
        by_cases hj : i = j
        · subst hj
          rw [List.getElem?_set_self hi] at f
          cases f
        · rwa [List.getElem?_set_ne hj] at f
      exact h.er.apart j l b c q (nj f1) (nj f2) f3 f4
    · by_cases hj : i = j
      · subst hj
        rw [List.getElem?_set_self hi] at f1
        cases f1
      · rw [List.getElem?_set_ne hj] at f1
        exact List.mem_filter.mpr ⟨h.own j b q f1 f2, by simpa using ne hj f1 f2⟩
  · exact ⟨O, Ext.of_same (Same.refl _) O, fun a z => z, h⟩
def sFrz (i : Nat) (F : SF) : SF := fun env => F (frzAt i env)
theorem rs_frz {i : Nat} {D : Ends} {σ : L2.St} {H : Hp} (q : rS X.K (sFrz i F) D σ H) : rS X.K F D σ H := by
  obtain ⟨Ex, O, env, fl, env', h1, h2, h3⟩ := q
  obtain ⟨O', x, _, r⟩ := frz_rep i h1
  exact ⟨Ex, O', frzAt i env, fl, env', r, h2, h3.ext x⟩
theorem ess_frz (i : Nat) (h : PSs X rest (rS X.K F)) : PSs X rest (rS X.K (sFrz i F)) := pss_imp h fun _ _ _ q => rs_frz q
theorem es_frz (i : Nat) (h : PS X st (rS X.K F)) : PS X st (rS X.K (sFrz i F)) := ps_imp h fun _ _ _ q => rs_frz q
/-- ghost: names forgotten behind a statement -/
def killAt : List Nat → En → En
  | [], env => env
  | i :: is, env => killAt is (env.set i none)
theorem kill_rep {K : PySem.W.Frag} {H : Hp} {Ex O : List Addr} {σ : L2.St} : ∀ (is : List Nat) {env : En}, SRep K H Ex O env σ → SRep K H Ex O (killAt is env) σ
  | [], _, h => h
  | i :: is, env, h => by
    have nj : ∀ {j : Nat} {w : W}, (env.set i none)[j]? = some (some w) → env[j]? = some (some w) := fun {j w} f => by
      by_cases hj : i = j
      · subst hj
        have hi : i < env.length := by
          have := (List.getElem?_eq_some_iff.mp f).1
          simpa using this
        rw [List.getElem?_set_self hi] at f
        cases f
      · rwa [List.getElem?_set_ne hj] at f
    exact kill_rep is ⟨⟨h.er.has, by simp [h.er.len], fun j w z => h.er.slot j w (nj z), fun j l b c p e1 e2 => h.er.apart j l b c p (nj e1) (nj e2)⟩, fun j b p e1 => h.own j b p (nj e1), h.dis⟩
def sKill (is : List Nat) (F : SF) : SF := fun env => (F env).map fun r => (r.1, killAt is r.2)
theorem rs_kill {is : List Nat} {D : Ends} {σ : L2.St} {H : Hp} (q : rS X.K (sKill is F) D σ H) : rS X.K F D σ H := by
  obtain ⟨Ex, O, env, fl, env', h1, h2, h3⟩ := q
  unfold sKill at h2
  obtain ⟨⟨f1, e1⟩, q1, q2⟩ := Option.map_eq_some_iff.mp h2
  cases q2
  refine ⟨Ex, O, env, f1, e1, h1, q1, ?_⟩
  cases f1 with
  | nx => exact fun H' O' σ' x r => h3 H' O' σ' x (kill_rep is r)
  | bk => exact fun H' O' σ' x r => h3 H' O' σ' x (kill_rep is r)
  | ct => exact fun H' O' σ' x r => h3 H' O' σ' x (kill_rep is r)
  | rt w => exact h3
theorem ess_kill (is : List Nat) (h : PSs X rest (rS X.K F)) : PSs X rest (rS X.K (sKill is F)) := pss_imp h fun _ _ _ q => rs_kill q
theorem es_kill (is : List Nat) (h : PS X st (rS X.K F)) : PS X st (rS X.K (sKill is F)) := ps_imp h fun _ _ _ q => rs_kill q

/-! ### plain statements -/
def sSet (i : Nat) (f : En → Option W) : SF := fun env => (f env).map fun w => (.nx, env.set i (some w))
theorem es_set {i : Nat} {x : Str} {pos' : Pos} (hN : X.N.Nodup) (hi : X.N[i]? = some x) (hx : Loc X.env.scope x) (he : PE X e (rE X.K f)) (hs : swapsWith e (some (.Name x pos')) pos.line X.env = pure false := by rfl) (hf : X.fn x = true ∨ X.env.scope.names.lookup x = some .local := by first | exact .inl rfl | exact .inr rfl | assumption) :
    PS X (.Assign [.Name x pos'] e pos) (rS X.K (sSet i f)) :=
  ps_imp (ps_set hN hi hx he hs hf) fun D σ H ⟨Ex, O, env, fl, env', h1, h2, h3⟩ => by
    unfold sSet at h2
    obtain ⟨w, e1, e2⟩ := Option.map_eq_some_iff.mp h2
    cases e2
    refine ⟨Ex ++ O, env, w, h1.er, e1, fun H' u m r => ?_⟩
    obtain ⟨O', x1, r1⟩ := h1.put (i := i) m r
    exact h3 H' O' _ x1 r1
def sPass : SF := fun env => some (.nx, env)
def sBrk : SF := fun env => some (.bk, env)
def sCnt : SF := fun env => some (.ct, env)
theorem es_pass : PS X (.Pass pos) (rS X.K sPass) := ps_imp ps_pass fun D σ H ⟨Ex, O, env, fl, env', h1, h2, h3⟩ => by
  cases h2
  exact h3 H O σ (Ext.of_same (Same.refl _) O) h1
theorem es_break : PS X (.Break pos) (rS X.K sBrk) := ps_imp ps_break fun D σ H ⟨Ex, O, env, fl, env', h1, h2, h3⟩ => by
  cases h2
  exact h3 H O σ (Ext.of_same (Same.refl _) O) h1
theorem es_continue : PS X (.Continue pos) (rS X.K sCnt) := ps_imp ps_continue fun D σ H ⟨Ex, O, env, fl, env', h1, h2, h3⟩ => by
  cases h2
  exact h3 H O σ (Ext.of_same (Same.refl _) O) h1
def sRet (f : En → Option W) : SF := fun env => (f env).map fun w => (.rt w, env)
theorem es_ret (he : PE X e (rE X.K f)) : PS X (.Return (some e) pos) (rS X.K (sRet f)) :=
  ps_imp (ps_ret he) fun D σ H ⟨Ex, O, env, fl, env', h1, h2, h3⟩ => by
    unfold sRet at h2
    obtain ⟨w, e1, e2⟩ := Option.map_eq_some_iff.mp h2
    cases e2
    refine ⟨Ex ++ O, env, w, h1.er, e1, fun H' u m r => h3 H' u (fun b o _ q => m b o q) ?_⟩
    cases w with
    | d x => exact dp_mono (cut_le fun a z => List.mem_append_left _ z) r
    | o b =>
      obtain ⟨p, ho, e, np, n, e2, r2⟩ := r
      refine ⟨p, ho, e, fun z => np (List.mem_append_left _ z), .inr n, e2, ob_mono (cut_le fun a z => ?_) r2⟩
      rcases List.mem_cons.mp z with rfl | z
      · simp
      · simp [z]
/-- return x, x a name: what it owns is handed over -/
theorem es_retRd {i : Nat} (he : PE X e (tVar i)) : PS X (.Return (some e) pos) (rS X.K (sRet (xRd i))) :=
  ps_imp (ps_ret he) fun D σ H ⟨Ex, O, env, fl, env', h1, h2, h3⟩ => by
    unfold sRet xRd at h2
    obtain ⟨w, e1, e2⟩ := Option.map_eq_some_iff.mp h2
    cases e2
    have e3 : env[i]? = some (some w) := Option.join_eq_some_iff.mp e1
    obtain ⟨u, f1, f2⟩ := h1.er.slot i w e3
    refine ⟨u, f1, h3 H u (fun b o _ q => q) ?_⟩
    cases w with
    | d x => exact dp_mono (cut_le fun a z => List.mem_append_left _ z) f2
    | o b =>
      obtain ⟨p, ho, rfl, g1, g2, g3⟩ := f2
      have pO := h1.own i b p e3 f1
      refine ⟨p, ho, rfl, h1.dis p pO, .inl pO, g2, ob_mono (cut_le fun a z => ?_) g3⟩
      rcases List.mem_cons.mp z with rfl | z
      · exact List.mem_append_right _ pO
      · exact List.mem_append_left _ z
theorem es_retN : PS X (.Return none pos) (rS X.K (sRet (xC .none))) := ps_imp ps_retN fun D σ H ⟨Ex, O, env, fl, env', h1, h2, h3⟩ => by
  cases h2
  exact h3 H .non (fun b o _ q => q) Dp.non
def sExpr (f : En → Option W) : SF := fun env => (f env).map fun _ => (.nx, env)
theorem es_expr (he : PE X e (rE X.K f)) (hs : swapsWith e none pos.line X.env = pure false := by rfl) : PS X (.Expr e pos) (rS X.K (sExpr f)) :=
  ps_imp (ps_expr he hs) fun D σ H ⟨Ex, O, env, fl, env', h1, h2, h3⟩ => by
    unfold sExpr at h2
    obtain ⟨w, e1, e2⟩ := Option.map_eq_some_iff.mp h2
    cases e2
    exact ⟨Ex ++ O, env, w, h1.er, e1, fun H' u m r => h3 H' O σ (Ext.of_same m O) (h1.same m)⟩
/-! ### if -/
def sIf (p : En → Option Bool) (F G : SF) : SF := fun env => (p env).bind fun c => if c then F env else G env
theorem es_if {p : En → Option Bool} {A B : List Stmt} (hc : PT X c (rT X.K p)) (ha : PSs X A (rS X.K F)) (hb : PSs X B (rS X.K G)) : PS X (.If c A B pos) (rS X.K (sIf p F G)) :=
  ps_imp (ps_if hc ha hb) fun D σ H ⟨Ex, O, env, fl, env', h1, h2, h3⟩ => by
    unfold sIf at h2
    obtain ⟨c0, e0, e1⟩ := Option.bind_eq_some_iff.mp h2
    refine ⟨Ex ++ O, env, c0, h1.er, e0, fun H' m => ?_⟩
    cases c0 with
    | true => exact ⟨Ex, O, env, fl, env', h1.same m, e1, h3.ext (Ext.of_same m O)⟩
    | false => exact ⟨Ex, O, env, fl, env', h1.same m, e1, h3.ext (Ext.of_same m O)⟩
/-! ### while -/
def whileL (p : En → Option Bool) (F : SF) : Nat → SF
  | 0, _ => none
  | n + 1, env => (p env).bind fun c => if c then (F env).bind fun r => match r with
      | (.nx, e1) => whileL p F n e1
      | (.ct, e1) => whileL p F n e1
      | (.bk, e1) => some (.nx, e1)
      | (.rt w, e1) => some (.rt w, e1)
    else some (.nx, env)
theorem es_while (n : Nat) {p : En → Option Bool} {A : List Stmt} (hp : PassesOwn (model X.prog X.w) X.A X.env X.xe) (hc : PT X c (rT X.K p)) (ha : PSs X A (rS X.K F)) : PS X (.While c A [] pos) (rS X.K (whileL p F n)) :=
  ps_imp (ps_while hp hc ha) fun D σ H q => by
    refine ⟨fun m σ H => rS X.K (whileL p F m) D σ H, ⟨n, q⟩, fun m σ H q => ?_⟩
    obtain ⟨Ex, O, env, fl, env', h1, h2, h3⟩ := q
    cases m with
    | zero => cases h2
    | succ m =>
      unfold whileL at h2
      obtain ⟨c0, e0, e1⟩ := Option.bind_eq_some_iff.mp h2
      refine ⟨Ex ++ O, env, c0, h1.er, e0, fun H1 m1 => ?_⟩
      cases c0 with
      | false =>
        cases e1
        exact h3 H1 O σ (Ext.of_same m1 O) (h1.same m1)
      | true =>
        rw [if_pos rfl] at e1
        obtain ⟨⟨f1, g1⟩, e2, e3⟩ := Option.bind_eq_some_iff.mp e1
        have h4 := h3.ext (Ext.of_same m1 O)
        refine ⟨fun σ' H' => rS X.K (whileL p F m) D σ' H', fun σ' H' z => ⟨m, Nat.lt_succ_self m, z⟩, Ex, O, env, f1, g1, h1.same m1, e2, ?_⟩
        cases f1 with
        | nx => exact fun H' O' σ' x r => ⟨Ex, O', g1, fl, env', r, e3, h4.ext x⟩
        | ct => exact fun H' O' σ' x r => ⟨Ex, O', g1, fl, env', r, e3, h4.ext x⟩
        | bk => cases e3; exact h4
        | rt w => cases e3; exact h4
end
end EV

set_option Elab.async false
set_option linter.all false
set_option maxRecDepth 100000
set_option maxHeartbeats 1000000
/-! targets, for, comprehensions, calls, defs -/
namespace EV
open PySem L2
section
variable {K : PySem.W.Frag} {H H' H1 H2 : Hp} {Ex O O' : List Addr} {env env' : En} {σ σ' : L2.St} {i : Nat} {u : V} {w : W}
/-! ### several results -/
def ownOf : W → V → List Addr
  | .o _, .ref p => [p]
  | _, _ => []
theorem EnvRep.more {p : Addr} {T : List Addr} (h : EnvRep K H T env σ) (m : Same H H') (np : p ∉ T) (n : H p = none) (e : ∃ o, H' p = some o) : EnvRep K H' (p :: T) env σ := by
  refine ⟨fun a z => ?_, h.len, fun j w z => ?_, h.apart⟩
  · rcases List.mem_cons.mp z with rfl | z
    · exact e
    · exact (h.has.mono m) a z
  · obtain ⟨v, a, b⟩ := h.slot j w z
    refine ⟨v, a, ?_⟩
    cases w with
    | d x => exact dp_mono (cut_new m n) b
    | o b1 =>
      obtain ⟨q, hq, e1, e2, e3, e4⟩ := b
      exact ⟨q, hq, e1, List.mem_cons_of_mem _ e2, m _ _ e3, ob_mono (cut_new m n) e4⟩
theorem Res.mem {T T' : List Addr} (h : Res K H H' T w u) (e : ∀ a, a ∈ T ↔ a ∈ T') : Res K H H' T' w u := by
  cases w with
  | d x => exact dp_mono (cut_le fun a z => (e a).mpr z) h
  | o b =>
    obtain ⟨p, ho, e1, np, n, e2, r⟩ := h
    refine ⟨p, ho, e1, fun z => np ((e p).mpr z), n, e2, ob_mono (cut_le fun a z => ?_) r⟩
    rcases List.mem_cons.mp z with rfl | z
    · simp
    · exact List.mem_cons_of_mem _ ((e a).mpr z)
/-- put, and what is owned behind it -/
theorem SRep.put' (h : SRep K H Ex O env σ) (m : Same H H') (r : Res K H H' (Ex ++ O) w u) : Ext H H' O (ownOf w u ++ O) ∧ SRep K H' Ex (ownOf w u ++ O) (env.set i (some w)) (σ.set i (some u)) := by
  cases w with
  | d x => exact ⟨Ext.of_same m O, (h.same m).put_d r⟩
  | o b =>
    obtain ⟨p, ho, rfl, np, n, e, r⟩ := r
    exact ⟨⟨fun b o _ q => m b o q, fun a z => (List.mem_cons.mp z).elim (fun q => .inr (q ▸ n)) .inl⟩, h.put_o m np n e r⟩
theorem EnvRep.after {T : List Addr} (h : EnvRep K H T env σ) (m : Same H H') (r : Res K H H' T w u) : EnvRep K H' (ownOf w u ++ T) env σ := by
  cases w with
  | d x => exact h.mono m
  | o b =>
    obtain ⟨p, ho, rfl, np, n, e, r⟩ := r
    exact h.more m np n ⟨_, e⟩
end
section
variable {X : Cx} {e a b c : Expr} {es : List Expr} {f g h : En → Option W} {pos : Pos} {st : Stmt} {rest : List Stmt} {F G : SF}
/-! ### a, b = x, y -/
def sPar (i j : Nat) (f g : En → Option W) : SF := fun env => (f env).bind fun v => (g env).map fun w => (.nx, (env.set i (some v)).set j (some w))
theorem es_par {i j : Nat} {x y : Str} {px py pt : Pos} {kt k2 pt2} (hc : X.calm = true) (hN : X.N.Nodup) (hi : X.N[i]? = some x) (hj : X.N[j]? = some y) (hij : i ≠ j)
    (hx : X.env.scope.names.lookup x = some .local) (hy : X.env.scope.names.lookup y = some .local) (ha : PE X a (rE X.K f)) (hb : PE X b (rE X.K g))
    (hw : swappedStores [.Tuple [.Name x px, .Name y py] kt pt] (.Tuple [a, b] k2 pt2) X.env = pure (some [x, y]))
    (hs : swapsWithSole [.Tuple [.Name x px, .Name y py] kt pt] (.Tuple [a, b] k2 pt2) pos.line X.env = pure false := by rfl)
    (s1 : starEach [a, b] X.env = (false, eval a X.env) :: starEach [b] X.env := by rfl) (s2 : starEach [b] X.env = (false, eval b X.env) :: starEach [] X.env := by rfl) :
    PS X (.Assign [.Tuple [.Name x px, .Name y py] kt pt] (.Tuple [a, b] k2 pt2) pos) (rS X.K (sPar i j f g)) :=
  ps_imp (ps_par hc hN hi hj hij hx hy (pa_cons ha (pa_cons hb pa_nil s2) s1) hw hs) fun D σ H ⟨Ex, O, env, fl, env', h1, h2, h3⟩ => by
    unfold sPar at h2
    obtain ⟨v, e1, e2⟩ := Option.bind_eq_some_iff.mp h2
    obtain ⟨w, e3, e4⟩ := Option.map_eq_some_iff.mp e2
    cases e4
    refine ⟨Ex ++ O, env, v, h1.er, e1, fun H1 x1 m1 r1 => ⟨ownOf v x1 ++ (Ex ++ O), env, w, h1.er.after m1 r1, e3, fun H2 x2 m2 r2 => ⟨x1, x2, rfl, ?_⟩⟩⟩
    obtain ⟨q1, q2⟩ := h1.put' (i := i) m1 r1
    have r3 : Res X.K H1 H2 (Ex ++ (ownOf v x1 ++ O)) w x2 := r2.mem fun a => by
      simp only [List.mem_append]
      exact ⟨fun z => by rcases z with z | z | z <;> simp [z], fun z => by rcases z with z | z | z <;> simp [z]⟩
    obtain ⟨q3, q4⟩ := q2.put' (i := j) m2 r3
    exact h3 H2 _ _ (q1.trans q3) q4

/-! ### targets -/
theorem pg_imp {t t' : TG} (h : PG X e t) (i : ∀ v σ H Q, t' v σ H Q → t v σ H Q) : PG X e t' := ⟨fun pins s σ H v u Q I r q => h.run pins s σ H v u Q I r (i v σ H Q q)⟩
theorem pgs_imp {t t' : TGs} (h : PGs X es t) (i : ∀ v σ H Q, t' v σ H Q → t v σ H Q) : PGs X es t' := ⟨fun pins s σ H v u Q I r q => h.run pins s σ H v u Q I r (i v σ H Q q)⟩
/-- the slots is are set, all else stays; nothing new is owned by a name -/
structure Put (is : List Nat) (env env' : En) (σ σ' : L2.St) : Prop where
  out : ∀ j, j ∉ is → σ'[j]? = σ[j]?
  len : σ'.length = σ.length
  own : ∀ (j : Nat) (b : Ob) (p : Addr), env'[j]? = some (some (.o b)) → σ'[j]? = some (some (.ref p)) → env[j]? = some (some (.o b)) ∧ σ[j]? = some (some (.ref p))
theorem Put.refl {is : List Nat} {env : En} {σ : L2.St} : Put is env env σ σ := ⟨fun _ _ => rfl, rfl, fun _ _ _ a b => ⟨a, b⟩⟩
theorem Put.trans {is js : List Nat} {env e1 e2 : En} {σ s1 s2 : L2.St} (x : Put is env e1 σ s1) (y : Put js e1 e2 s1 s2) : Put (is ++ js) env e2 σ s2 :=
  ⟨fun j n => (y.out j fun z => n (List.mem_append_right _ z)).trans (x.out j fun z => n (List.mem_append_left _ z)), y.len.trans x.len, fun j b p a q => let z := y.own j b p a q; x.own j b p z.1 z.2⟩
def rG (K : PySem.W.Frag) (is : List Nat) (t : D → En → Option En) : TG := fun v σ H Q => ∃ O env d env', EnvRep K H O env σ ∧ Dp K (cut H O) v d ∧ t d env = some env' ∧ ∀ σ', EnvRep K H O env' σ' → Put is env env' σ σ' → Q σ' H
def rGs (K : PySem.W.Frag) (is : List Nat) (t : List D → En → Option En) : TGs := fun vs σ H Q => ∃ O env ds env', EnvRep K H O env σ ∧ DpAll K (cut H O) vs ds ∧ t ds env = some env' ∧ ∀ σ', EnvRep K H O env' σ' → Put is env env' σ σ' → Q σ' H
def gN (i : Nat) (d : D) (env : En) : Option En := some (env.set i (some (.d d)))
theorem eg_name {i : Nat} {x : Str} (hN : X.N.Nodup) (hi : X.N[i]? = some x) (hx : Loc X.env.scope x) (hf : X.fn x = true ∨ X.env.scope.names.lookup x = some .local := by first | exact .inl rfl | exact .inr rfl | assumption) : PG X (.Name x pos) (rG X.K [i] (gN i)) :=
  pg_imp (pg_name hN hi hx hf) fun v σ H Q ⟨O, env, d, env', h1, h2, h3, h4⟩ => by
    cases h3
    refine h4 _ (h1.put_d h2) ⟨fun j n => ?_, by simp, fun j b p a q => own_put_d a q⟩
    rw [List.getElem?_set_ne]
    intro z
    exact n (by simp [z])
def gsN (ds : List D) (env : En) : Option En := match ds with
  | [] => some env
  | _ => none
def gsC (t : D → En → Option En) (ts : List D → En → Option En) (ds : List D) (env : En) : Option En := match ds with
  | d :: r => (t d env).bind fun e1 => ts r e1
  | [] => none
theorem egs_nil : PGs X [] (rGs X.K [] gsN) := pgs_imp pgs_nil fun vs σ H Q ⟨O, env, ds, env', h1, h2, h3, h4⟩ => by
  unfold gsN at h3
  split at h3
  · cases h3
    cases h2
    exact ⟨rfl, h4 σ h1 Put.refl⟩
  · cases h3
theorem egs_cons {is js : List Nat} {t : D → En → Option En} {ts : List D → En → Option En} (h1 : PG X e (rG X.K is t)) (h2 : PGs X es (rGs X.K js ts)) (hs : (assignEach (e :: es) X.env).map (·.2) = assign e X.env :: (assignEach es X.env).map (·.2) := by rfl) :
    PGs X (e :: es) (rGs X.K (is ++ js) (gsC t ts)) := pgs_imp (pgs_cons h1 h2 hs) fun vs σ H Q ⟨O, env, ds, env', q1, q2, q3, q4⟩ => by
  unfold gsC at q3
  split at q3
  · rename_i d r
    obtain ⟨e1, q5, q6⟩ := Option.bind_eq_some_iff.mp q3
    cases q2 with
    | cons r1 r2 =>
      refine ⟨_, _, rfl, O, env, d, e1, q1, r1, q5, fun s1 z1 p1 => ⟨O, e1, r, env', z1, r2, q6, fun s2 z2 p2 => q4 s2 z2 (p1.trans p2)⟩⟩
  · cases q3
def gT (n : Nat) (ts : List D → En → Option En) (d : D) (env : En) : Option En := match d with
  | .tuple ds => if ds.length = n then ts ds env else none
  | _ => none
theorem eg_tup {is : List Nat} {k n : Nat} {ts : List D → En → Option En} (hc : X.calm = true) (h : PGs X es (rGs X.K is ts))
    (hn : (assignEach es X.env).length = n := by rfl) (hst : (assignEach es X.env).findIdx? (·.1) = none := by rfl) : PG X (.Tuple es k pos) (rG X.K is (gT n ts)) :=
  pg_imp (pg_tup hc h hn hst) fun v σ H Q ⟨O, env, d, env', h1, h2, h3, h4⟩ => by
    unfold gT at h3
    split at h3
    · split at h3
      · cases h2 with
        | tup a b => exact ⟨_, _, rfl, same_seqT (cut_all H O) a, by rw [dpa_len b]; assumption, O, env, _, env', h1, b, h3, h4⟩
      · cases h3
    · cases h3
/-- target = e -/
def sAsg (f : En → Option W) (t : D → En → Option En) : SF := fun env => (f env).bind fun w => (dat w).bind fun d => (t d env).map fun e1 => (.nx, e1)
theorem es_asg {tg : Expr} {is : List Nat} {t : D → En → Option En} (he : PE X e (rE X.K f)) (hg : PG X tg (rG X.K is t)) (hs : swapsWithSole [tg] e pos.line X.env = pure false := by rfl) (hw : swappedStores [tg] e X.env = pure none := by rfl)
    (h1 : (assignEach [tg] X.env).map (·.2) = [assign tg X.env] := by rfl) : PS X (.Assign [tg] e pos) (rS X.K (sAsg f t)) :=
  ps_imp (ps_asg he hg hs hw h1) fun D σ H ⟨Ex, O, env, fl, env', h1, h2, h3⟩ => by
    unfold sAsg at h2
    obtain ⟨w, e1, e2⟩ := Option.bind_eq_some_iff.mp h2
    obtain ⟨d, e3, e4⟩ := Option.bind_eq_some_iff.mp e2
    obtain ⟨e5, e6, e7⟩ := Option.map_eq_some_iff.mp e4
    cases e7
    refine ⟨Ex ++ O, env, w, h1.er, e1, fun H1 x1 m1 r1 => ⟨Ex ++ O, env, d, _, h1.er.mono m1, res_dat r1 e3, e6, fun s1 z1 p1 => ?_⟩⟩
    exact h3 H1 O s1 (Ext.of_same m1 O) ⟨z1, fun j b p a q => let z := p1.own j b p a q; h1.own j b p z.1 z.2, h1.dis⟩

/-! ### what is walked -/
/-- the turns of J give the items xs, as long as what is not owned stays -/
def Src (K : PySem.W.Frag) (H : Hp) (O : List Addr) (xs : List D) (J : It) : Prop := ∀ H' O', Ext H H' O O' → Has H' O' → ∀ i,
  (i < xs.length → J.go i H' ∧ ∀ x H'', J.yld i H' x H'' → Same H' H'' ∧ ∃ d, xs[i]? = some d ∧ Dp K (cut H'' O') x d) ∧ (xs.length ≤ i → J.stop i H')
def rI (K : PySem.W.Frag) (f : En → Option (List D)) : TI := fun σ H R => ∃ O env xs, EnvRep K H O env σ ∧ f env = some xs ∧ ∀ H1 J, Same H H1 → Src K H1 O xs J → R J H1
theorem pi_imp {tg iter : Expr} {t t' : TI} (h : PI X tg iter t) (i : ∀ σ H R, t' σ H R → t σ H R) : PI X tg iter t' := ⟨fun pins s σ H R I q => h.run pins s σ H R I (i σ H R q)⟩
def iSeq (K : PySem.W.Frag) (tl : TE) : TI := fun σ H R => tl σ H fun x H1 => ∃ a, x = .ref a ∧ (((∃ xs, SqL K H1 a xs) ∧ R (Itl K a) H1) ∨ ((∃ xs, SqT K H1 a xs) ∧ R (Itt K a) H1))
theorem pi_seq {tg l : Expr} {tl : TE} (hl : PE X l tl) : PI X tg l (iSeq X.K tl) := by
  refine ⟨fun pins s σ H R I h => ?_⟩
  refine thn (hl.run pins s σ H _ I h) fun v s1 ⟨x, H1, I1, r1, q1⟩ => ?_
  obtain ⟨a, e, q1⟩ := q1
  subst e
  cases r1
  rcases q1 with ⟨⟨xs, hq⟩, q⟩ | ⟨⟨xs, hq⟩, q⟩
  · obtain ⟨its, rv, p, hz⟩ := I1.list hq
    refine wpAny_pyIter_list p.isList ?_
    refine ⟨s1.heap.objs.size, [s1.heap.objs.size], _, _, H1, rfl, I1.kept (t' := s1.toks) fun b o e => Heap.get?_push_of_some _ e, turn_list a _, ⟨_, Heap.get?_push_size _ rfl, rfl, rfl⟩, fun b hb => ?_, q⟩
    have e : b = s1.heap.objs.size := by simpa using hb
    subst e
    exact I1.fpOk (Nat.le_refl _) (I1.hok.fresh (Nat.le_refl _))
  · obtain ⟨its, rv, p, hz⟩ := I1.tuple hq
    refine wpAny_pyIter_tuple p ?_
    refine ⟨s1.heap.objs.size, [s1.heap.objs.size], _, _, H1, rfl, I1.kept (t' := s1.toks) fun b o e => Heap.get?_push_of_some _ e, turn_tuple a _, ⟨_, Heap.get?_push_size _ rfl, rfl, rfl⟩, fun b hb => ?_, q⟩
    have e : b = s1.heap.objs.size := by simpa using hb
    subst e
    exact I1.fpOk (Nat.le_refl _) (I1.hok.fresh (Nat.le_refl _))
theorem src_l {K : PySem.W.Frag} {H : Hp} {O : List Addr} {a : Addr} {vs : List V} {xs : List D} (h : SqL K (cut H O) a vs) (r : DpAll K (cut H O) vs xs) : Src K H O xs (Itl K a) := fun H' O' x _ i => by
  have h' : SqL K H' a vs := (cut_all H' O').seq (x.cut.seq h)
  have r' := dpa_mono x.cut r
  refine ⟨fun hi => ?_, fun hi => ⟨vs, h', by rw [dpa_len r]; exact hi⟩⟩
  have hi' : i < vs.length := by rw [dpa_len r]; exact hi
  refine ⟨⟨vs, vs[i], h', by simp [hi']⟩, fun y H'' q => ?_⟩
  obtain ⟨e, q⟩ := q
  subst e
  obtain ⟨d, e1, e2⟩ := dpa_getV r' (q vs h')
  exact ⟨Same.refl _, d, e1, e2⟩
theorem src_t {K : PySem.W.Frag} {H : Hp} {O : List Addr} {a : Addr} {vs : List V} {xs : List D} (h : SqT K (cut H O) a vs) (r : DpAll K (cut H O) vs xs) : Src K H O xs (Itt K a) := fun H' O' x _ i => by
  have h' : SqT K H' a vs := same_seqT (cut_all H' O') (same_seqT x.cut h)
  have r' := dpa_mono x.cut r
  refine ⟨fun hi => ?_, fun hi => ⟨vs, h', by rw [dpa_len r]; exact hi⟩⟩
  have hi' : i < vs.length := by rw [dpa_len r]; exact hi
  refine ⟨⟨vs, vs[i], h', by simp [hi']⟩, fun y H'' q => ?_⟩
  obtain ⟨e, q⟩ := q
  subst e
  obtain ⟨d, e1, e2⟩ := dpa_getV r' (q vs h')
  exact ⟨Same.refl _, d, e1, e2⟩
def seqD : D → Option (List D)
  | .list xs => some xs
  | .tuple xs => some xs
  | _ => none
@[simp] theorem seqD_l (xs : List D) : seqD (.list xs) = some xs := rfl
@[simp] theorem seqD_t (xs : List D) : seqD (.tuple xs) = some xs := rfl
def iS (f : En → Option W) : En → Option (List D) := fun env => (f env).bind fun w => (dat w).bind seqD
theorem ei_seq {tg : Expr} (ha : PE X e (rE X.K f)) : PI X tg e (rI X.K (iS f)) := pi_imp (pi_seq ha) fun σ H R ⟨O, env, xs, h1, h2, h3⟩ => by
  unfold iS at h2
  obtain ⟨w, e1, e2⟩ := Option.bind_eq_some_iff.mp h2
  obtain ⟨d, e3, e4⟩ := Option.bind_eq_some_iff.mp e2
  refine ⟨O, env, w, h1, e1, fun H1 u m r => ?_⟩
  have r := res_dat r e3
  unfold seqD at e4
  split at e4
  · cases e4
    cases r with
    | lst a b => exact ⟨_, rfl, .inl ⟨⟨_, (cut_all H1 O).seq a⟩, h3 H1 _ m (src_l a b)⟩⟩
  · cases e4
    cases r with
    | tup a b => exact ⟨_, rfl, .inr ⟨⟨_, same_seqT (cut_all H1 O) a⟩, h3 H1 _ m (src_t a b)⟩⟩
  · cases e4
/-- lo, lo + 1, .. -/
def intsD (lo : Int) (n : Nat) : List D := (List.range n).map fun i => .int (lo + (i : Nat))
theorem intsD_len (lo : Int) (n : Nat) : (intsD lo n).length = n := by simp [intsD]
theorem src_r {K : PySem.W.Frag} {H : Hp} {O : List Addr} (lo : Int) (n : Nat) : Src K H O (intsD lo n) (Itr lo n) := fun H' O' x _ i => by
  rw [intsD_len]
  refine ⟨fun hi => ⟨hi, fun y H'' q => ?_⟩, fun hi => hi⟩
  obtain ⟨rfl, rfl⟩ := q
  exact ⟨Same.refl _, .int (lo + i), by simp [intsD, hi], Dp.int _⟩
def rgB (j : Int) : Bool := Nat.ble j.natAbs 4000000000000000000
theorem rgB_bd {j : Int} (h : rgB j = true) : -(2 ^ 62) ≤ j ∧ j < 2 ^ 62 := by
  have := Nat.le_of_ble_eq_true h
  omega
theorem rgB_of {j : Int} (h : j.natAbs < 4000000000000000000) : rgB j = true := Nat.ble_eq_true_of_le (by omega)
def iR1 (f : En → Option W) : En → Option (List D) := fun env => (f env).bind fun w => (wI w).bind fun j => if rgB j then some (intsD 0 j.toNat) else none
def iR2 (f g : En → Option W) : En → Option (List D) := fun env => (f env).bind fun v => (g env).bind fun w => (wI v).bind fun i => (wI w).bind fun j => if rgB i && rgB j then some (intsD i (j - i).toNat) else none
theorem wI_some {w : W} {i : Int} (h : wI w = some i) : w = .d (.int i) := by
  unfold wI at h
  split at h
  · cases h; rfl
  · cases h
theorem ei_range1 {tg : Expr} {p : Pos} (hg : Gl X "range") (hm : X.mg "range" = none) (ha : PE X a (rB X.K f)) (hs : starEach [a] X.env = [(false, eval a X.env)] := by rfl) : PI X tg (.Call (.Name "range" p) [a] [] pos) (rI X.K (iR1 f)) :=
  pi_imp (pi_range1 hg hm (pa_cons ha pa_nil hs) hs) fun σ H R ⟨O, env, xs, h1, h2, h3⟩ => by
    unfold iR1 at h2
    obtain ⟨w, e1, e2⟩ := Option.bind_eq_some_iff.mp h2
    obtain ⟨j, e3, e4⟩ := Option.bind_eq_some_iff.mp e2
    cases wI_some e3
    split at e4
    · cases e4
      rename_i hj
      have hj := rgB_bd hj
      refine ⟨O, env, _, h1, e1, fun H1 u m r => ⟨j, by rw [bres_int r], hj.1, hj.2, h3 H1 _ m (src_r 0 _)⟩⟩
    · cases e4
theorem ei_range2 {tg : Expr} {p : Pos} (hg : Gl X "range") (hm : X.mg "range" = none) (ha : PE X a (rB X.K f)) (hb : PE X b (rB X.K g)) (hs : starEach [a, b] X.env = [(false, eval a X.env), (false, eval b X.env)] := by rfl) (hs2 : starEach [b] X.env = [(false, eval b X.env)] := by rfl) :
    PI X tg (.Call (.Name "range" p) [a, b] [] pos) (rI X.K (iR2 f g)) :=
  pi_imp (pi_range2 hg hm (pa_cons ha (pa_cons hb pa_nil hs2) (by rw [hs, hs2])) hs hs2) fun σ H R ⟨O, env, xs, h1, h2, h3⟩ => by
    unfold iR2 at h2
    obtain ⟨v, e1, e2⟩ := Option.bind_eq_some_iff.mp h2
    obtain ⟨w, e3, e4⟩ := Option.bind_eq_some_iff.mp e2
    obtain ⟨i, e5, e6⟩ := Option.bind_eq_some_iff.mp e4
    obtain ⟨j, e7, e8⟩ := Option.bind_eq_some_iff.mp e6
    cases wI_some e5
    cases wI_some e7
    split at e8
    · cases e8
      rename_i hj
      have hj := Bool.and_eq_true_iff.mp hj
      have hj : -(2 ^ 62) ≤ i ∧ i < 2 ^ 62 ∧ -(2 ^ 62) ≤ j ∧ j < 2 ^ 62 := ⟨(rgB_bd hj.1).1, (rgB_bd hj.1).2, rgB_bd hj.2⟩
      refine ⟨O, env, _, h1, e1, fun H1 u m r => ⟨O, env, _, h1.mono m, e3, fun H2 u2 m2 r2 => ⟨i, j, by rw [bres_int r, bres_int r2], hj, h3 H2 _ (m.trans m2) (src_r i _)⟩⟩⟩
    · cases e8
/-! ### for -/
def forL (t : D → En → Option En) (F : SF) : List D → SF
  | [], env => some (.nx, env)
  | x :: xs, env => (t x env).bind fun e1 => (F e1).bind fun r => match r with
    | (.nx, e2) => forL t F xs e2
    | (.ct, e2) => forL t F xs e2
    | (.bk, e2) => some (.nx, e2)
    | (.rt w, e2) => some (.rt w, e2)
def sFor (src : En → Option (List D)) (t : D → En → Option En) (F : SF) : SF := fun env => (src env).bind fun xs => forL t F xs env
theorem es_for {tg iter : Expr} {body : List Stmt} {is : List Nat} {src : En → Option (List D)} {t : D → En → Option En} (hp : PassesOwn (model X.prog X.w) X.A X.env X.xe) (hc : X.calm = true) (hi : PI X tg iter (rI X.K src)) (hg : PG X tg (rG X.K is t)) (hb : PSs X body (rS X.K F))
    (hs : ∀ x, foldedSetIterable iter X.env x = pure x := by intro _; rfl) : PS X (.For tg iter body [] pos) (rS X.K (sFor src t F)) :=
  ps_imp (ps_for hp hc hi hg hb hs) fun D σ H ⟨Ex, O, env, fl, env', h1, h2, h3⟩ => by
    unfold sFor at h2
    obtain ⟨xs, e1, e2⟩ := Option.bind_eq_some_iff.mp h2
    refine ⟨Ex ++ O, env, xs, h1.er, e1, fun H1 J m1 S => ?_⟩
    refine ⟨fun i m σ' H' => m = xs.length - i ∧ i ≤ xs.length ∧ ∃ O' env1 fl env', Ext H1 H' O O' ∧ SRep X.K H' Ex O' env1 σ' ∧ forL t F (xs.drop i) env1 = some (fl, env') ∧ EndOk X.K D H' Ex O' fl env', ⟨xs.length, by simp, Nat.zero_le _, O, env, fl, env', Ext.of_same (Same.refl _) O, h1.same m1, e2, h3.ext (Ext.of_same m1 O)⟩, ?_⟩
    rintro i m σ' H' ⟨rfl, hi, O', env1, fl1, env1', x1, s1, f1, g1⟩
    obtain ⟨S1, S2⟩ := S H' (Ex ++ O') (x1.tot Ex) s1.er.has i
    by_cases hlt : i < xs.length
    · right
      obtain ⟨S3, S4⟩ := S1 hlt
      refine ⟨S3, fun σ2 H2 => i + 1 ≤ xs.length ∧ ∃ O' env1 fl env', Ext H1 H2 O O' ∧ SRep X.K H2 Ex O' env1 σ2 ∧ forL t F (xs.drop (i + 1)) env1 = some (fl, env') ∧ EndOk X.K D H2 Ex O' fl env', fun σ2 H2 z => ⟨xs.length - (i + 1), by omega, rfl, z.1, z.2⟩, fun y H'' q => ?_⟩
      obtain ⟨m2, d, e3, r3⟩ := S4 y H'' q
      have e4 : xs.drop i = d :: xs.drop (i + 1) := by
        have hd : xs[i] = d := by
          have := List.getElem?_eq_getElem hlt
          rw [this] at e3
          exact Option.some.inj e3
        rw [← hd]
        exact List.drop_eq_getElem_cons hlt
      rw [e4] at f1
      unfold forL at f1
      obtain ⟨g2, f2, f3⟩ := Option.bind_eq_some_iff.mp f1
      obtain ⟨⟨fl2, g3⟩, f4, f5⟩ := Option.bind_eq_some_iff.mp f3
      have s2 := s1.same m2
      refine ⟨Ex ++ O', env1, d, g2, s2.er, r3, f2, fun s3 z3 p3 => ⟨Ex, O', g2, fl2, g3, ⟨z3, fun j b p a q => let z := p3.own j b p a q; s2.own j b p z.1 z.2, s2.dis⟩, f4, ?_⟩⟩
      have x2 : Ext H1 H'' O O' := x1.trans (Ext.of_same m2 O')
      have g4 := g1.ext (Ext.of_same m2 O')
      cases fl2 with
      | nx => exact fun H3 O3 s4 x4 r4 => ⟨hlt, O3, g3, fl1, env1', x2.trans x4, r4, f5, g4.ext x4⟩
      | ct => exact fun H3 O3 s4 x4 r4 => ⟨hlt, O3, g3, fl1, env1', x2.trans x4, r4, f5, g4.ext x4⟩
      | bk => cases f5; exact g4
      | rt w => cases f5; exact g4
    · left
      have e : i = xs.length := by omega
      refine ⟨S2 (by omega), ?_⟩
      rw [e, List.drop_length] at f1
      cases f1
      exact g1 H' O' σ' (Ext.of_same (Same.refl _) O') s1
end
end EV

set_option Elab.async false
set_option linter.all false
set_option maxRecDepth 100000
set_option maxHeartbeats 1000000
/-! comprehensions, calls, defs -/
namespace EV
open PySem L2
section
variable {K : PySem.W.Frag} {H H' H1 H2 : Hp} {O : List Addr} {env env' : En} {σ σ' : L2.St}
/-! ### what is walked, nothing changed -/
def SrcC (K : PySem.W.Frag) (H : Hp) (O : List Addr) (xs : List D) (J : It) : Prop := ∀ H' O', Same H H' → (∀ a ∈ O', a ∈ O ∨ H a = none) → Has H' O' → ∀ i,
  (i < xs.length → J.go i H' ∧ ∀ x H'', J.yld i H' x H'' → Same H' H'' ∧ ∃ d, xs[i]? = some d ∧ Dp K (cut H'' O') x d) ∧ (xs.length ≤ i → J.stop i H')
def rIc (K : PySem.W.Frag) (f : En → Option (List D)) : TI := fun σ H R => ∃ O env xs, EnvRep K H O env σ ∧ f env = some xs ∧ ∀ H1 J, Same H H1 → SrcC K H1 O xs J → R J H1
theorem Src.c {xs : List D} {J : It} (h : Src K H O xs J) : SrcC K H O xs J := fun H' O' m n hO i => h H' O' ⟨fun b o _ e => m b o e, n⟩ hO i
theorem eic {X : Cx} {tg e : Expr} {f : En → Option (List D)} (h : PI X tg e (rI X.K f)) : PI X tg e (rIc X.K f) := pi_imp h fun σ H R ⟨O, env, xs, h1, h2, h3⟩ => ⟨O, env, xs, h1, h2, fun H1 J m S => h3 H1 J m S.c⟩
/-- any list or tuple, one's own too -/
def iB (f : En → Option W) : En → Option (List D) := fun env => (f env).bind asS
theorem eic_seq {X : Cx} {tg e : Expr} {f : En → Option W} (ha : PE X e (rB X.K f)) : PI X tg e (rIc X.K (iB f)) := pi_imp (pi_seq ha) fun σ H R ⟨O, env, xs, h1, h2, h3⟩ => by
  unfold iB at h2
  obtain ⟨w, e1, e2⟩ := Option.bind_eq_some_iff.mp h2
  refine ⟨O, env, w, h1, e1, fun H1 u m r => ?_⟩
  unfold asS at e2
  split at e2
  · cases e2
    have r : Dp X.K (cut H1 O) u (.tuple xs) := r
    cases r with
    | tup a b => exact ⟨_, rfl, .inr ⟨⟨_, same_seqT (cut_all H1 O) a⟩, h3 H1 _ m (src_t a b).c⟩⟩
  · cases e2
    have r : Dp X.K (cut H1 O) u (.list xs) := r
    cases r with
    | lst a b => exact ⟨_, rfl, .inl ⟨⟨_, (cut_all H1 O).seq a⟩, h3 H1 _ m (src_l a b).c⟩⟩
  · cases e2
    obtain ⟨p, ho, rfl, q1, vs, rfl, q2⟩ := r
    refine ⟨_, rfl, .inl ⟨⟨_, .inl (.inl q1)⟩, h3 H1 _ m fun H' O' m2 nw _ i => ?_⟩⟩
    have x2 : Ext H1 H' O O' := ⟨fun b o _ e => m2 b o e, nw⟩
    have h' : SqL X.K H' p vs := .inl (.inl (m2 p _ q1))
    have r' := dpa_mono x2.cut q2
    refine ⟨fun hi => ?_, fun hi => ⟨vs, h', by rw [dpa_len q2]; exact hi⟩⟩
    have hi' : i < vs.length := by rw [dpa_len q2]; exact hi
    refine ⟨⟨vs, vs[i], h', by simp [hi']⟩, fun y H'' q => ?_⟩
    obtain ⟨e, q⟩ := q
    subst e
    obtain ⟨d, e3, e4⟩ := dpa_getV r' (q vs h')
    exact ⟨Same.refl _, d, e3, e4⟩
  · cases e2
/-! ### [f for t in xs if p] -/
def wipeE (env : En) : List Nat → En
  | [] => env
  | v :: vs => (wipeE env vs).set v none
theorem wipeE_len (env : En) : ∀ vs : List Nat, (wipeE env vs).length = env.length
  | [] => rfl
  | v :: vs => by unfold wipeE; rw [List.length_set, wipeE_len env vs]
theorem wipe_out2 {σ : L2.St} {i : Nat} : ∀ {vs : List Nat}, i ∉ vs → (wipe σ vs)[i]? = σ[i]?
  | [], _ => rfl
  | v :: vs, h => by
    simp only [List.mem_cons, not_or] at h
    unfold wipe
    rw [List.getElem?_set_ne (fun e => h.1 e.symm)]
    exact wipe_out2 h.2
theorem wipeE_out {env : En} {i : Nat} : ∀ {vs : List Nat}, i ∉ vs → (wipeE env vs)[i]? = env[i]?
  | [], _ => rfl
  | v :: vs, h => by
    simp only [List.mem_cons, not_or] at h
    unfold wipeE
    rw [List.getElem?_set_ne (fun e => h.1 e.symm)]
    exact wipeE_out h.2
theorem wipeE_in {env : En} {i : Nat} {w : W} : ∀ {vs : List Nat}, (wipeE env vs)[i]? = some (some w) → i ∉ vs
  | [], _ => by simp
  | v :: vs, h => by
    unfold wipeE at h
    by_cases e : v = i
    · subst e
      by_cases hv : v < (wipeE env vs).length
      · rw [List.getElem?_set_self hv] at h; cases h
      · rw [List.getElem?_eq_none (by simpa using hv)] at h; cases h
    · rw [List.getElem?_set_ne e] at h
      simp only [List.mem_cons, not_or]
      exact ⟨fun z => e z.symm, wipeE_in h⟩
theorem wipe_rep (vs : List Nat) (h : EnvRep K H O env σ) : EnvRep K H O (wipeE env vs) (wipe σ vs) := by
  have g : ∀ {i : Nat} {w : W}, (wipeE env vs)[i]? = some (some w) → env[i]? = some (some w) ∧ (wipe σ vs)[i]? = σ[i]? := fun {i w} e => by
    have n := wipeE_in e
    exact ⟨by rw [wipeE_out n] at e; exact e, wipe_out2 n⟩
  refine ⟨h.has, by rw [wipeE_len, wipe_length, h.len], fun i w e => ?_, fun i j b c p e1 e2 e3 e4 => ?_⟩
  · obtain ⟨a, q⟩ := g e
    obtain ⟨u, e1, e2⟩ := h.slot i w a
    exact ⟨u, by rw [q]; exact e1, e2⟩
  · obtain ⟨a1, q1⟩ := g e1
    obtain ⟨a2, q2⟩ := g e2
    rw [q1] at e3
    rw [q2] at e4
    exact h.apart i j b c p a1 a2 e3 e4
theorem wipe_put {is vs : List Nat} {σ σ2 : L2.St} (hs : ∀ i ∈ is, i ∈ vs) (p : Put is env env' (wipe σ vs) σ2) : wipe σ2 vs = wipe σ vs := by
  refine List.ext_getElem? fun i => ?_
  by_cases hi : i ∈ vs
  · have z : ∀ (τ : L2.St), τ.length = σ.length → (wipe τ vs)[i]? = if i < σ.length then some none else none := fun τ hl => by
      have w1 : ∀ (ws : List Nat), i ∈ ws → (wipe τ ws)[i]? = if i < σ.length then some none else none := fun ws => by
        induction ws with
        | nil => intro q; cases q
        | cons v ws ih =>
          intro q
          unfold wipe
          by_cases e : v = i
          · subst e
            by_cases hv : v < σ.length
            · rw [List.getElem?_set_self (by rw [wipe_length, hl]; exact hv), if_pos hv]
            · rw [List.getElem?_eq_none (by rw [List.length_set, wipe_length, hl]; omega), if_neg hv]
          · rw [List.getElem?_set_ne e]
            exact ih ((List.mem_cons.mp q).resolve_left fun z => e z.symm)
      exact w1 vs hi
    rw [z σ2 (by rw [p.len, wipe_length]), z σ rfl]
  · rw [wipe_out2 hi, p.out i fun q => hi (hs i q)]
def lcL (t : D → En → Option En) (p : En → Option Bool) (f : En → Option W) : List D → En → Option (List D)
  | [], _ => some []
  | x :: xs, env => (t x env).bind fun e1 => (p e1).bind fun c => if c then (f e1).bind fun w => (dat w).bind fun d => (lcL t p f xs env).map (d :: ·) else lcL t p f xs env
def xLc (vs : List Nat) (src : En → Option (List D)) (t : D → En → Option En) (p : En → Option Bool) (f : En → Option W) : En → Option W := fun env => (src env).bind fun xs =>
  if xs.length ≤ 16777216 then (lcL t p f xs (wipeE env vs)).map fun ds => .o (.lst ds) else none
theorem lcL_len {t : D → En → Option En} {p : En → Option Bool} {f : En → Option W} : ∀ {xs : List D} {env : En} {ds : List D}, lcL t p f xs env = some ds → ds.length ≤ xs.length
  | [], _, _, h => by cases h; exact Nat.le_refl _
  | x :: xs, env, ds, h => by
    unfold lcL at h
    obtain ⟨e1, _, h⟩ := Option.bind_eq_some_iff.mp h
    obtain ⟨c, _, h⟩ := Option.bind_eq_some_iff.mp h
    split at h
    · obtain ⟨w, _, h⟩ := Option.bind_eq_some_iff.mp h
      obtain ⟨d, _, h⟩ := Option.bind_eq_some_iff.mp h
      obtain ⟨r, h9, rfl⟩ := Option.map_eq_some_iff.mp h
      have := lcL_len h9
      simp only [List.length_cons]
      omega
    · have := lcL_len h
      simp only [List.length_cons]
      omega
def pY : En → Option Bool := fun _ => some true
end
section
variable {X : Cx} {f : En → Option W} {p : En → Option Bool}
structure PTsv (X : Cx) (ifs : List Expr) (p : En → Option Bool) : Prop where
  run : PTs X ifs (rT X.K p)
theorem pts_imp {ifs : List Expr} {t t' : TT} (h : PTs X ifs t) (i : ∀ σ H Q, t' σ H Q → t σ H Q) : PTs X ifs t' := ⟨fun pins s σ H Q I q => h.run pins s σ H Q I (i σ H Q q)⟩
theorem epts_nil : PTs X [] (rT X.K pY) := pts_imp pts_nil fun σ H Q ⟨O, env, b, h1, h2, h3⟩ => by
  cases h2
  exact h3 H (Same.refl _)
theorem epts_one {c : Expr} (h : PT X c (rT X.K p)) : PTs X [c] (rT X.K p) := pts_one h
theorem rd_lc {vs is : List Nat} {src : En → Option (List D)} {t : D → En → Option En} (hs : ∀ i ∈ is, i ∈ vs) {σ : L2.St} {H : Hp} {Q : VK} (q : rE X.K (xLc vs src t p f) σ H Q) :
    tLc (rIc X.K src) (rG X.K is t) (rT X.K p) (rE X.K f) vs σ H Q := by
  obtain ⟨O, env, w, h1, h2, h3⟩ := q
  unfold xLc at h2
  obtain ⟨xs, e1, e2⟩ := Option.bind_eq_some_iff.mp h2
  split at e2
  · rename_i hlen
    obtain ⟨ds, e3, rfl⟩ := Option.map_eq_some_iff.mp e2
    refine ⟨O, env, xs, h1, e1, fun H1 J m1 S D nD => ?_⟩
    have h1' := h1.mono m1
    have nDO : D ∉ O := h1'.has.not nD
    -- the turns: what stands but the new list is as it was
    refine ⟨fun i m H' => m = xs.length - i ∧ i ≤ xs.length ∧ Same H1 H' ∧ ∃ acc done rest, H' D = some (.lst acc) ∧ DpAll X.K (cut H' (D :: O)) acc done ∧ lcL t p f (xs.drop i) (wipeE env vs) = some rest ∧ done ++ rest = ds ∧ acc.length ≤ i, ⟨xs.length, by simp, Nat.zero_le _, same_upd nD, [], [], ds, upd_same, .nil, e3, rfl, Nat.le_refl _⟩, ?_⟩
    rintro i m H' ⟨rfl, hi, sm, acc, done, rest, a1, a2, a3, a4, a5⟩
    have nw : ∀ a ∈ D :: O, a ∈ O ∨ H1 a = none := fun a z => (List.mem_cons.mp z).elim (fun e => .inr (e ▸ nD)) .inl
    have hD : Has H' (D :: O) := fun a z => (List.mem_cons.mp z).elim (fun e => e ▸ ⟨_, a1⟩) fun z => (h1'.has.mono sm) a z
    obtain ⟨S1, S2⟩ := S H' (D :: O) sm nw hD i
    by_cases hlt : i < xs.length
    · right
      obtain ⟨S3, S4⟩ := S1 hlt
      refine ⟨S3, fun H2 => i + 1 ≤ xs.length ∧ Same H1 H2 ∧ ∃ acc done rest, H2 D = some (.lst acc) ∧ DpAll X.K (cut H2 (D :: O)) acc done ∧ lcL t p f (xs.drop (i + 1)) (wipeE env vs) = some rest ∧ done ++ rest = ds ∧ acc.length ≤ i + 1, fun H2 z => ⟨xs.length - (i + 1), by omega, rfl, z.1, z.2⟩, fun y H'' q => ?_⟩
      obtain ⟨m2, d, e4, r4⟩ := S4 y H'' q
      have e5 : xs.drop i = d :: xs.drop (i + 1) := by
        have hd : xs[i] = d := by
          have := List.getElem?_eq_getElem hlt
          rw [this] at e4
          exact Option.some.inj e4
        rw [← hd]
        exact List.drop_eq_getElem_cons hlt
      rw [e5] at a3
      unfold lcL at a3
      obtain ⟨g1, b1, b2⟩ := Option.bind_eq_some_iff.mp a3
      obtain ⟨c0, b3, b4⟩ := Option.bind_eq_some_iff.mp b2
      have a1' : H'' D = some (.lst acc) := m2 _ _ a1
      have er : EnvRep X.K H'' (D :: O) (wipeE env vs) (wipe σ vs) := wipe_rep vs (h1'.more (sm.trans m2) nDO nD ⟨_, a1'⟩)
      refine ⟨D :: O, wipeE env vs, d, g1, er, r4, b1, fun s2 z2 p2 => ⟨wipe_put hs p2, ?_⟩⟩
      have a2' := dpa_mono (cut_same m2 (D :: O)) a2
      refine ⟨D :: O, g1, c0, z2, b3, fun H3 m3 => ?_⟩
      cases c0 with
      | false =>
        exact ⟨hlt, (sm.trans m2).trans m3, acc, done, rest, m3 _ _ a1', dpa_mono (cut_same m3 (D :: O)) a2', b4, a4, by omega⟩
      | true =>
        obtain ⟨w, b5, b6⟩ := Option.bind_eq_some_iff.mp b4
        obtain ⟨dw, b7, b8⟩ := Option.bind_eq_some_iff.mp b6
        obtain ⟨rest', b9, rfl⟩ := Option.map_eq_some_iff.mp b8
        refine ⟨D :: O, g1, w, z2.mono m3, b5, fun H4 y4 m4 r5 => ?_⟩
        have a1'' : H4 D = some (.lst acc) := m4 _ _ (m3 _ _ a1')
        have m24 : Same H'' H4 := m3.trans m4
        have r6 := res_dat r5 b7
        have cu : Same (cut H4 (D :: O)) (cut (upd H4 D (.lst (acc ++ [y4]))) (D :: O)) := fun b o z => by
          obtain ⟨n1, n2⟩ := cut_of z
          exact cut_mk n1 (by rw [upd_ne (fun e => n1 (by simp [e]))]; exact n2)
        refine ⟨acc, a1'', by rw [sizeLine_val]; omega, hlt, fun b o z => ?_, acc ++ [y4], done ++ [dw], rest', upd_same, ?_, b9, by rw [List.append_assoc]; exact a4, by rw [List.length_append, List.length_singleton]; omega⟩
        · have hb : b ≠ D := fun e => by rw [e, nD] at z; cases z
          rw [upd_ne hb]
          exact m24 _ _ (m2 _ _ (sm _ _ z))
        · exact dpa_append (dpa_mono cu (dpa_mono (cut_same m24 (D :: O)) a2')) (.cons (dp_mono cu r6) .nil)
    · left
      have e : i = xs.length := by omega
      refine ⟨S2 (by omega), ?_⟩
      rw [e, List.drop_length] at a3
      cases a3
      rw [List.append_nil] at a4
      subst a4
      exact h3 H' _ (m1.trans sm) ⟨D, _, rfl, nDO, m1.free nD, a1, acc, rfl, a2⟩
  · cases e2
theorem ev_lc {elt tg iter : Expr} {ifs : List Expr} {scope : Scope} {own : List (Str × Nat)} {pos : Pos} {is : List Nat} {src : En → Option (List D)} {t : D → En → Option En} (hc : X.calm = true) (hN : X.N.Nodup) (hi : PI X tg iter (rIc X.K src)) (ok : BlkOk X.N X.env.scope scope own) (hs : ∀ i ∈ is, i ∈ own.map (·.2))
    (hg : ∀ (s : Shared) (H : Hp) (C : Addr) (cl : List (Str × Addr)) (fp : List Addr), PG (X.blk s H scope (compEnvC scope cl C X.env) fp) tg (rG X.K is t)) (ht : ∀ (s : Shared) (H : Hp) (C : Addr) (cl : List (Str × Addr)) (fp : List Addr), PTs (X.blk s H scope (compEnvC scope cl C X.env) fp) ifs (rT X.K p))
    (he : ∀ (s : Shared) (H : Hp) (C : Addr) (cl : List (Str × Addr)) (fp : List Addr), PE (X.blk s H scope (compEnvC scope cl C X.env) fp) elt (rE X.K f)) (hf : ∀ x, foldedSetIterable iter X.env x = pure x := by intro _; rfl) :
    PE X (.ListComp elt [⟨tg, iter, ifs, 0⟩] scope pos) (rE X.K (xLc (own.map (·.2)) src t p f)) :=
  pe_imp (pe_lc hc hN hi ok hg ht he hf) fun _ _ _ q => rd_lc hs q
/-- name = [..] on one line, the name a local -/
theorem es_setLc {i : Nat} {y : Str} {py : Pos} {elt tg iter : Expr} {ifs : List Expr} {scope : Scope} {own : List (Str × Nat)} {pos spos : Pos} {is : List Nat} {src : En → Option (List D)} {t : D → En → Option En} (hc : X.calm = true) (hN : X.N.Nodup) (hy : X.N[i]? = some y) (hyl : X.env.scope.names.lookup y = some .local)
    (hsw : swapsWith (.ListComp elt [⟨tg, iter, ifs, 0⟩] scope pos) (some (.Name y py)) spos.line X.env = pure true) (hi : PI X tg iter (rIc X.K src)) (ok : BlkOk X.N X.env.scope scope own) (hs : ∀ i ∈ is, i ∈ own.map (·.2))
    (hg : ∀ (s : Shared) (H : Hp) (C : Addr) (cl : List (Str × Addr)) (fp : List Addr), PG (X.blk s H scope (compEnvC scope cl C X.env) fp) tg (rG X.K is t)) (ht : ∀ (s : Shared) (H : Hp) (C : Addr) (cl : List (Str × Addr)) (fp : List Addr), PTs (X.blk s H scope (compEnvC scope cl C X.env) fp) ifs (rT X.K p))
    (he : ∀ (s : Shared) (H : Hp) (C : Addr) (cl : List (Str × Addr)) (fp : List Addr), PE (X.blk s H scope (compEnvC scope cl C X.env) fp) elt (rE X.K f)) (hf : ∀ x, foldedSetIterable iter X.env x = pure x := by intro _; rfl) :
    PS X (.Assign [.Name y py] (.ListComp elt [⟨tg, iter, ifs, 0⟩] scope pos) spos) (rS X.K (sSet i (xLc (own.map (·.2)) src t p f))) :=
  ps_imp (ps_setLc (i := i) hc hN hy hyl hsw hi ok hg ht he hf) fun D σ H ⟨Ex, O, env, fl, env', h1, h2, h3⟩ => by
    unfold sSet at h2
    obtain ⟨w, e1, e2⟩ := Option.map_eq_some_iff.mp h2
    cases e2
    refine rd_lc hs ⟨Ex ++ O, env, w, h1.er, e1, fun H' u m r => ?_⟩
    obtain ⟨O', x1, r1⟩ := h1.put (i := i) m r
    exact h3 H' O' _ x1 r1
end

/-! ### defs and their calls -/
/-- what a def of n parameters promises: φ of its arguments -/
def spF (K : PySem.W.Frag) (n : Nat) (φ : List D → Option W) : Sp := fun vs H Q _ => vs.length = n ∧ ∃ O ds w, Has H O ∧ DpAll K (cut H O) vs ds ∧ φ ds = some w ∧ ∀ H' u, Same H H' → Res K H H' O w u → Q u H'
section
variable {X : Cx} {e : Expr} {es : List Expr} {fs : En → Option (List D)} {k : Nat} {f : Addr} {fd : FuncData} {ps : List Str} {φ : List D → Option W} {x : Str} {p pos : Pos}
def xCall (n : Nat) (φ : List D → Option W) (fs : En → Option (List D)) : En → Option W := fun env => (fs env).bind fun ds => if ds.length = n then φ ds else none
theorem ev_call (F : FnOk X.prog X.w X.K X.mg X.base CX0 k f fd ps (spF X.K ps.length φ)) (hr : Room k X.A) (hg : Gl X x) (hm : X.mg x = some (.ref f)) (hk : PySem.W.keepIn X.K (.ref f) = true) (hb : Binds X.K fd ps [])
    (ha : PA X (e :: es) (rAD X.K fs)) (hdb : (x == ("__debug__" : Str)) = false := by decide) (he : starEach (e :: es) X.env = (false, eval e X.env) :: starEach es X.env := by rfl) (hpl : (backTo pos (starEach es X.env)).any (·.1) = false := by rfl) :
    PE X (.Call (.Name x p) (e :: es) [] pos) (rE X.K (xCall ps.length φ fs)) :=
  pe_imp (pe_call F hr hg hm hk hb .nil pass0 ha hdb he hpl) fun σ H Q ⟨O, env, w, h1, h2, h3⟩ => by
    unfold xCall at h2
    obtain ⟨ds, e1, e2⟩ := Option.bind_eq_some_iff.mp h2
    split at e2
    · rename_i hl
      refine ⟨O, env, ds, h1, e1, fun H1 vs m r => ?_⟩
      show spF X.K ps.length φ (vs ++ []) H1 Q E0
      rw [List.append_nil]
      exact ⟨by rw [dpa_len r]; exact hl, O, ds, w, h1.has.mono m, r, e2, fun H2 u m2 r2 => h3 H2 u (m.trans m2) (r2.back m)⟩
    · cases e2
theorem ev_call0 (F : FnOk X.prog X.w X.K X.mg X.base CX0 k f fd [] (spF X.K 0 φ)) (hr : Room k X.A) (hg : Gl X x) (hm : X.mg x = some (.ref f)) (hk : PySem.W.keepIn X.K (.ref f) = true) (hb : Binds X.K fd [] [])
    (hdb : (x == ("__debug__" : Str)) = false := by decide) : PE X (.Call (.Name x p) [] [] pos) (rE X.K (xCall 0 φ aN)) :=
  pe_imp (pe_call0 F hr hg hm hk hb .nil pass0 hdb) fun σ H Q ⟨O, env, w, h1, h2, h3⟩ => by
    unfold xCall aN at h2
    have h2 : φ [] = some w := h2
    exact ⟨rfl, O, [], w, h1.has, .nil, h2, fun H2 u m2 r2 => h3 H2 u m2 r2⟩
/-- a body's run -/
def runF (n : Nat) (B : SF) : List D → Option W := fun ds => match B (ds.map (fun d => some (.d d)) ++ List.replicate (n - ds.length) none) with
  | some (.nx, _) => some (.d .none)
  | some (.rt w, _) => some w
  | _ => none
theorem start_rep {K : PySem.W.Frag} {H : Hp} {O : List Addr} {n : Nat} {vs : List V} {ds : List D} (hO : Has H O) (h : DpAll K (cut H O) vs ds) : EnvRep K H O (ds.map (fun d => some (.d d)) ++ List.replicate (n - ds.length) none) (vs.map some ++ List.replicate (n - vs.length) none) := by
  have l := dpa_len h
  have g : ∀ {i : Nat} {w : W}, (ds.map (fun d => some (W.d d)) ++ List.replicate (n - ds.length) none)[i]? = some (some w) → ∃ d, ds[i]? = some d ∧ w = .d d := fun {i w} e => by
    by_cases hi : i < ds.length
    · rw [List.getElem?_append_left (by simpa using hi), List.getElem?_map] at e
      cases q : ds[i]? with
      | none => rw [q] at e; cases e
      | some d => rw [q] at e; cases e; exact ⟨d, rfl, rfl⟩
    · rw [List.getElem?_append_right (by simpa using hi), List.getElem?_replicate] at e
      split at e <;> cases e
  refine ⟨hO, by simp [l], fun i w e => ?_, fun i j b c p e1 => ?_⟩
  · obtain ⟨d, e1, rfl⟩ := g e
    obtain ⟨v, e2, e3⟩ := dpa_get h e1
    have hi : i < vs.length := (List.getElem?_eq_some_iff.mp e2).1
    exact ⟨v, by rw [List.getElem?_append_left (by simpa using hi), List.getElem?_map, e2]; rfl, e3⟩
  · obtain ⟨d, _, q⟩ := g e1
    cases q
theorem rS_start {K : PySem.W.Frag} {H : Hp} {Q : VK} {N : List Str} {n : Nat} {B : SF} {vs : List V} {E : XK} (q : spF K n (runF N.length B) vs H Q E) : rS K B { nx := fun _ H' => Q .non H', rt := Q } (start N vs) H := by
  obtain ⟨_, O, ds, w, hO, h, e, h3⟩ := q
  unfold runF at e
  have l := dpa_len h
  have er := start_rep (n := N.length) hO h
  have sr : SRep K H O [] (ds.map (fun d => some (.d d)) ++ List.replicate (N.length - ds.length) none) (start N vs) := by
    refine ⟨by rw [List.append_nil]; exact er, fun i b p e1 e2 => ?_, fun a z => nomatch z⟩
    obtain ⟨u, q1, q2⟩ := er.slot i _ e1
    obtain ⟨pp, ho, _, _, _, q3⟩ := q2
    exfalso
    by_cases hi : i < ds.length
    · rw [List.getElem?_append_left (by simpa using hi), List.getElem?_map] at e1
      cases q : ds[i]? with
      | none => rw [q] at e1; cases e1
      | some d => rw [q] at e1; cases e1
    · rw [List.getElem?_append_right (by simpa using hi), List.getElem?_replicate] at e1
      split at e1 <;> cases e1
  split at e
  · rename_i env' e1
    cases e
    exact ⟨O, [], _, _, _, sr, e1, fun H' O' σ' x r => h3 H' .non (fun b o q => x.keep b o (by simp) q) Dp.non⟩
  · rename_i w' env' e1
    cases e
    refine ⟨O, [], _, _, _, sr, e1, fun H' u k r => h3 H' u (fun b o q => k b o (by simp) q) ?_⟩
    cases w with
    | d y => exact r
    | o b =>
      obtain ⟨p, ho, e2, n1, n2, e3, r2⟩ := r
      exact ⟨p, ho, e2, n1, n2.resolve_left (by simp), e3, r2⟩
  · cases e
end
section
variable {P : Program} {w : World} {K : PySem.W.Frag} {mg : Str → Option Value} {base : Heap}
theorem fn_ok {x qual : Str} {st : Stmt} {f : Addr} {fd : FuncData} {N ps : List Str} {k : Nat} {B : SF} (F : Fun K x qual st f fd) (S : FnScope N ps (defScope st))
    (hb : ∀ (cdv : Value) (A : Around) (outer : List Env) (s : Shared) (H : Hp) (E : XK), Room k (A.deeper (PyProof.Rows.envOfC qual (defScope st) s.heap.objs.size f cdv)) →
      PSs (cxOf CX0 P w K mg base N qual (defScope st) f cdv A outer s H E).nox (defBody st) (rS K B)) : FnOk P w K mg base CX0 (k + 1) f fd ps (spF K ps.length (runF N.length B)) := by
  refine F.ok S (fun vs H Q E h => h.1) fun cdv A outer s H vs Q E hr h => ⟨_, hb cdv A outer s H E hr, rS_start h⟩
end
end EV

set_option Elab.async false
set_option linter.all false
set_option maxRecDepth 100000
set_option maxHeartbeats 1000000
/-! what changes a list of one's own -/
namespace EV
open PySem L2
section
variable {K : PySem.W.Frag} {H H' : Hp} {Ex O : List Addr} {env : En} {σ : L2.St} {i : Nat} {b b' : Ob} {p : Addr} {ho ho' : HO}
/-- the thing that slot i owns is changed -/
theorem SRep.mut (h : SRep K H Ex O env σ) (e : env[i]? = some (some (.o b))) (es : σ[i]? = some (some (.ref p))) (r : ObRep K (cut H (Ex ++ O)) b' ho') :
    Ext H (upd H p ho') O O ∧ SRep K (upd H p ho') Ex O (env.set i (some (.o b'))) σ := by
  have pO : p ∈ O := h.own i b p e es
  have hi : i < env.length := (List.getElem?_eq_some_iff.mp e).1
  have c : Same (cut H (Ex ++ O)) (cut (upd H p ho') (Ex ++ O)) := fun a o z => by
    obtain ⟨n, z⟩ := cut_of z
    have hne : a ≠ p := fun q => n (by rw [q]; exact List.mem_append_right _ pO)
    exact cut_mk n (by rw [upd_ne hne]; exact z)
  have up : upd H p ho' p = some ho' := upd_same
  have nj : ∀ {j : Nat} {w : W}, i ≠ j → (env.set i (some (.o b')))[j]? = some (some w) → env[j]? = some (some w) := fun {j w} hj z => by rwa [List.getElem?_set_ne hj] at z
  have at_i : ∀ {j : Nat} {c : Ob}, (env.set i (some (.o b')))[j]? = some (some (W.o c)) → ∃ c', env[j]? = some (some (W.o c')) := fun {j c} z => by
    by_cases hj : i = j
    · subst hj; exact ⟨b, e⟩
    · exact ⟨c, nj hj z⟩
  have kp : ∀ (a : Addr) (o : HO), a ∉ O → H a = some o → upd H p ho' a = some o := fun a o n z => by
    have hne : a ≠ p := fun q => n (by rw [q]; exact pO)
    rw [upd_ne hne]; exact z
  refine ⟨⟨kp, fun a z => .inl z⟩, ⟨⟨fun a z => ?_, by simp [h.er.len], fun j w z => ?_, fun j l c1 c2 q e1 e2 e3 e4 => ?_⟩, fun j c1 q e1 e2 => ?_, h.dis⟩⟩
  · by_cases ha : a = p
    · subst ha; exact ⟨_, up⟩
    · rw [upd_ne ha]; exact h.er.has a z
  · by_cases hj : i = j
    · subst hj
      rw [List.getElem?_set_self hi] at z
      cases z
      exact ⟨.ref p, es, p, ho', rfl, List.mem_append_right _ pO, up, ob_mono c r⟩
    · have z := nj hj z
      obtain ⟨u, q1, q2⟩ := h.er.slot j w z
      refine ⟨u, q1, ?_⟩
      cases w with
      | d x => exact dp_mono c q2
      | o b1 =>
        obtain ⟨q, hq, rfl, e2, e3, e4⟩ := q2
        have hqp : q ≠ p := fun ee => by
          subst ee
          exact hj (h.er.apart i j b b1 q e z es q1)
        exact ⟨q, hq, rfl, e2, by rw [upd_ne hqp]; exact e3, ob_mono c e4⟩
  · obtain ⟨d1, f1⟩ := at_i e1
    obtain ⟨d2, f2⟩ := at_i e2
    exact h.er.apart j l d1 d2 q f1 f2 e3 e4
  · obtain ⟨d1, f1⟩ := at_i e1
    exact h.own j d1 q f1 e2
end
section
variable {X : Cx} {e a b c : Expr} {f g h : En → Option W} {pos apos cpos xpos : Pos} {i : Nat} {x : Str}
def lstAt (i : Nat) (env : En) : Option (List D) := match env[i]? with
  | some (some (.o (.lst xs))) => some xs
  | _ => none
theorem lstAt_some {env : En} {xs : List D} (h : lstAt i env = some xs) : env[i]? = some (some (.o (.lst xs))) := by
  unfold lstAt at h
  split at h
  · cases h; assumption
  · cases h
def putL (i : Nat) (xs : List D) (env : En) : En := env.set i (some (.o (.lst xs)))
/-! ### xs.append(e) -/
def sApp (i : Nat) (f : En → Option W) : SF := fun env => (f env).bind fun w => (dat w).bind fun d => (lstAt i env).bind fun xs => if xs.length < 16777216 then some (.nx, putL i (xs ++ [d]) env) else none
theorem es_append (hv : PE X (.Name x xpos) (tVar i)) (he : PE X e (rE X.K f)) (hs : swapsWith (.Call (.Attribute (.Name x xpos) "append" apos) [e] [] cpos) none pos.line X.env = pure false := by rfl)
    (hbase : attributeBase (.Name x xpos) "append" X.env (eval (.Name x xpos) X.env) = eval (.Name x xpos) X.env := by rfl)
    (hfew : ((backTo cpos (starEach [e] X.env)).all (fun x => !x.1) && (backToKw cpos (keywordEach [] X.env)).all (fun x => x.1.isSome)
      && decide ([e].length + ([] : List Keyword).length + (if ([] : List Keyword).isEmpty then 0 else 1) < 30)) = true := by rfl)
    (hline : (apos.endLine == cpos.line) = true := by rfl) (hst : starEach [e] X.env = (false, eval e X.env) :: starEach [] X.env := by rfl) (hplain : (backTo cpos (starEach [] X.env)).any (·.1) = false := by rfl) :
    PS X (.Expr (.Call (.Attribute (.Name x xpos) "append" apos) [e] [] cpos) pos) (rS X.K (sApp i f)) :=
  ps_imp (ps_expr (pe_bm PySem.F.plainAttrs_list PySem.F.slot_list_append PySem.F.type_list_append mt_append hv (pa_cons he pa_nil hst) hbase hfew hline hst hplain) hs) fun D σ H ⟨Ex, O, env, fl, env', h1, h2, h3⟩ => by
    unfold sApp at h2
    obtain ⟨w, e1, e2⟩ := Option.bind_eq_some_iff.mp h2
    obtain ⟨d, e3, e4⟩ := Option.bind_eq_some_iff.mp e2
    obtain ⟨xs, e5, e6⟩ := Option.bind_eq_some_iff.mp e4
    split at e6
    · rename_i hlen
      cases e6
      have e7 := lstAt_some e5
      obtain ⟨u, f1, p, ho, rfl, f2, f3, vs, rfl, f4⟩ := h1.er.slot i _ e7
      refine ⟨_, f1, .inl ⟨rfl, _, SqL.of f3⟩, Ex ++ O, env, w, h1.er, e1, fun H1 y m r => ?_⟩
      refine ⟨p, vs, y, rfl, rfl, m _ _ f3, by rw [sizeLine_val, dpa_len f4]; exact hlen, ?_⟩
      have r2 := res_dat r e3
      have f4' := dpa_mono (cut_same m (Ex ++ O)) f4
      obtain ⟨q1, q2⟩ := (h1.same m).mut (b' := .lst (xs ++ [d])) (ho' := .lst (vs ++ [y])) e7 f1 ⟨_, rfl, dpa_append f4' (.cons r2 .nil)⟩
      exact h3 _ _ _ ((Ext.of_same m O).trans q1) q2
    · cases e6
/-! ### xs.extend(e), e a list that is one's own -/
def wOL : W → Option (List D)
  | .o (.lst xs) => some xs
  | _ => none
def sExt (i : Nat) (f : En → Option W) : SF := fun env => (f env).bind fun w => (wOL w).bind fun ds => (lstAt i env).bind fun xs => if xs.length + ds.length ≤ 16777216 then some (.nx, putL i (xs ++ ds) env) else none
theorem wOL_some {w : W} {xs : List D} (h : wOL w = some xs) : w = .o (.lst xs) := by
  unfold wOL at h
  split at h
  · cases h; rfl
  · cases h
theorem es_extend (hv : PE X (.Name x xpos) (tVar i)) (he : PE X e (rB X.K f)) (hs : swapsWith (.Call (.Attribute (.Name x xpos) "extend" apos) [e] [] cpos) none pos.line X.env = pure false := by rfl)
    (hbase : attributeBase (.Name x xpos) "extend" X.env (eval (.Name x xpos) X.env) = eval (.Name x xpos) X.env := by rfl)
    (hfew : ((backTo cpos (starEach [e] X.env)).all (fun x => !x.1) && (backToKw cpos (keywordEach [] X.env)).all (fun x => x.1.isSome)
      && decide ([e].length + ([] : List Keyword).length + (if ([] : List Keyword).isEmpty then 0 else 1) < 30)) = true := by rfl)
    (hline : (apos.endLine == cpos.line) = true := by rfl) (hst : starEach [e] X.env = (false, eval e X.env) :: starEach [] X.env := by rfl) (hplain : (backTo cpos (starEach [] X.env)).any (·.1) = false := by rfl) :
    PS X (.Expr (.Call (.Attribute (.Name x xpos) "extend" apos) [e] [] cpos) pos) (rS X.K (sExt i f)) :=
  ps_imp (ps_expr (pe_bm PySem.F.plainAttrs_list PySem.F.slot_list_extend PySem.F.type_list_extend mt_extend hv (pa_cons he pa_nil hst) hbase hfew hline hst hplain) hs) fun D σ H ⟨Ex, O, env, fl, env', h1, h2, h3⟩ => by
    unfold sExt at h2
    obtain ⟨w, e1, e2⟩ := Option.bind_eq_some_iff.mp h2
    obtain ⟨ds, e3, e4⟩ := Option.bind_eq_some_iff.mp e2
    obtain ⟨xs, e5, e6⟩ := Option.bind_eq_some_iff.mp e4
    split at e6
    · rename_i hlen
      cases e6
      have e7 := lstAt_some e5
      cases wOL_some e3
      obtain ⟨u, f1, p, ho, rfl, f2, f3, vs, rfl, f4⟩ := h1.er.slot i _ e7
      refine ⟨_, f1, .inl ⟨rfl, _, SqL.of f3⟩, Ex ++ O, env, _, h1.er, e1, fun H1 y m r => ?_⟩
      obtain ⟨q, hq, rfl, g1, zs, rfl, g2⟩ := r
      refine ⟨p, q, vs, zs, rfl, rfl, m _ _ f3, g1, by rw [sizeLine_val, dpa_len f4, dpa_len g2]; exact hlen, ?_⟩
      have f4' := dpa_mono (cut_same m (Ex ++ O)) f4
      obtain ⟨q1, q2⟩ := (h1.same m).mut (b' := .lst (xs ++ ds)) (ho' := .lst (vs ++ zs)) e7 f1 ⟨_, rfl, dpa_append f4' g2⟩
      exact h3 _ _ _ ((Ext.of_same m O).trans q1) q2
    · cases e6
/-! ### xs[g] = f -/
def sStore (i : Nat) (f g : En → Option W) : SF := fun env => (f env).bind fun w => (dat w).bind fun d => (g env).bind fun v => (wI v).bind fun k => (lstAt i env).bind fun xs => (ixN xs.length k).map fun j => (.nx, putL i (xs.set j d) env)
theorem es_store {ix : Expr} {tpos : Pos} (hv : PE X (.Name x xpos) (tVar i)) (he : PE X e (rE X.K f)) (hi : PE X ix (rB X.K g)) (ha : ∀ v, assign (.Subscript (.Name x xpos) ix tpos) X.env v = (do
      let ov ← holding [v] (eval (.Name x xpos) X.env)
      let iv ← holding [v, ov] (eval ix X.env)
      standAt tpos
      holding [v, ov, iv] (setItem ov iv v)
      release [v, ov, iv] []) := by intro _; rfl) (hs : swapsWithSole [.Subscript (.Name x xpos) ix tpos] e pos.line X.env = pure false := by rfl) (hw : swappedStores [.Subscript (.Name x xpos) ix tpos] e X.env = pure none := by rfl)
    (h1 : (assignEach [.Subscript (.Name x xpos) ix tpos] X.env).map (·.2) = [assign (.Subscript (.Name x xpos) ix tpos) X.env] := by rfl) :
    PS X (.Assign [.Subscript (.Name x xpos) ix tpos] e pos) (rS X.K (sStore i f g)) :=
  ps_imp (ps_asg he (pg_sub hv hi set_list ha) hs hw h1) fun D σ H ⟨Ex, O, env, fl, env', h1, h2, h3⟩ => by
    unfold sStore at h2
    obtain ⟨w, e1, e2⟩ := Option.bind_eq_some_iff.mp h2
    obtain ⟨d, e3, e4⟩ := Option.bind_eq_some_iff.mp e2
    obtain ⟨v, e5, e6⟩ := Option.bind_eq_some_iff.mp e4
    obtain ⟨k, e7, e8⟩ := Option.bind_eq_some_iff.mp e6
    obtain ⟨xs, e9, e10⟩ := Option.bind_eq_some_iff.mp e8
    obtain ⟨j, e11, e12⟩ := Option.map_eq_some_iff.mp e10
    cases e12
    cases wI_some e7
    have e13 := lstAt_some e9
    obtain ⟨u, f1, p, ho, rfl, f2, f3, vs, rfl, f4⟩ := h1.er.slot i _ e13
    refine ⟨Ex ++ O, env, w, h1.er, e1, fun H1 y m r => ⟨_, f1, Ex ++ O, env, _, h1.er.mono m, e5, fun H2 y2 m2 r2 => ?_⟩⟩
    cases bres_int r2
    have mm := m.trans m2
    refine ⟨p, vs, k, j, rfl, rfl, mm _ _ f3, by rw [dpa_len f4]; exact e11, ?_⟩
    have r3 := dp_mono (cut_same m2 (Ex ++ O)) (res_dat r e3)
    have f4' := dpa_mono (cut_same mm (Ex ++ O)) f4
    obtain ⟨q1, q2⟩ := (h1.same mm).mut (b' := .lst (xs.set j d)) (ho' := .lst (vs.set j y)) e13 f1 ⟨_, rfl, dpa_set r3 j f4'⟩
    exact h3 _ _ _ ((Ext.of_same mm O).trans q1) q2
/-! ### x op= e -/
def sAug (i : Nat) (comb : W → W → Option W) (f : En → Option W) : SF := fun env => (xRd i env).bind fun x => (f env).bind fun y => (comb x y).map fun w => (.nx, env.set i (some w))
theorem es_aug {op : Operator} {r : R2} {comb : W → W → Option W} (ho : OpR X (inplaceOp op) r) (h2 : Op2 X.K comb r) (hN : X.N.Nodup) (hi : X.N[i]? = some x) (hx : Loc X.env.scope x) (he : PE X e (rB X.K f)) (hf : X.fn x = true ∨ X.env.scope.names.lookup x = some .local := by first | exact .inl rfl | exact .inr rfl | assumption) :
    PS X (.AugAssign (.Name x xpos) op e pos) (rS X.K (sAug i comb f)) :=
  ps_imp (ps_aug hN hi hx he (ti := r) ho hf) fun D σ H ⟨Ex, O, env, fl, env', h1, hh, h3⟩ => by
    unfold sAug xRd at hh
    obtain ⟨wx, e1, e2⟩ := Option.bind_eq_some_iff.mp hh
    obtain ⟨wy, e3, e4⟩ := Option.bind_eq_some_iff.mp e2
    obtain ⟨w, e5, e6⟩ := Option.map_eq_some_iff.mp e4
    cases e6
    have e7 : env[i]? = some (some wx) := Option.join_eq_some_iff.mp e1
    obtain ⟨u, f1, f2⟩ := h1.er.slot i wx e7
    refine ⟨u, f1, Ex ++ O, env, wy, h1.er, e3, fun H1 y m r1 => ?_⟩
    refine h2 H1 (Ex ++ O) u y wx wy w _ (h1.er.has.mono m) (f2.b.mono m) r1 e5 fun H2 z m2 r2 => ?_
    obtain ⟨O', x1, q1⟩ := (h1.same m).put (i := i) m2 r2
    exact h3 H2 O' _ ((Ext.of_same m O).trans x1) q1
theorem es_augAdd (hN : X.N.Nodup) (hi : X.N[i]? = some x) (hx : Loc X.env.scope x) (he : PE X e (rB X.K f)) (hf : X.fn x = true ∨ X.env.scope.names.lookup x = some .local := by first | exact .inl rfl | exact .inr rfl | assumption) :
    PS X (.AugAssign (.Name x xpos) .Add e pos) (rS X.K (sAug i (wInt fun i j => i + j) f)) := es_aug iop_add op2_int hN hi hx he hf
theorem es_augSub (hN : X.N.Nodup) (hi : X.N[i]? = some x) (hx : Loc X.env.scope x) (he : PE X e (rB X.K f)) (hf : X.fn x = true ∨ X.env.scope.names.lookup x = some .local := by first | exact .inl rfl | exact .inr rfl | assumption) :
    PS X (.AugAssign (.Name x xpos) .Sub e pos) (rS X.K (sAug i (wInt fun i j => i - j) f)) := es_aug iop_sub op2_int hN hi hx he hf
theorem es_augMul (hN : X.N.Nodup) (hi : X.N[i]? = some x) (hx : Loc X.env.scope x) (he : PE X e (rB X.K f)) (hf : X.fn x = true ∨ X.env.scope.names.lookup x = some .local := by first | exact .inl rfl | exact .inr rfl | assumption) :
    PS X (.AugAssign (.Name x xpos) .Mult e pos) (rS X.K (sAug i (wIntC mulOk fun i j => i * j) f)) := es_aug iop_mulA (op2_intC fun _ _ h => mulOk_ok h) hN hi hx he hf
/-! ### x = xs.pop() -/
def sPop (i : Nat) (j : Nat) : SF := fun env => (lstAt i env).bind fun xs => (xs[xs.length - 1]?).map fun d => (.nx, (putL i xs.dropLast env).set j (some (.d d)))
end
end EV

set_option Elab.async false
set_option linter.all false
set_option maxRecDepth 100000
set_option maxHeartbeats 1000000
/-! the built-ins by their names, isinstance, the law's end -/
namespace EV
open PySem L2
section
variable {X : Cx} {e a b c : Expr} {f g h : En → Option W} {pos p : Pos}
theorem dbg {x : Str} (h : (x == ("__debug__" : Str)) = false) : (x == ("__debug__" : Str)) = false := h
theorem ev_len (hg : Gl X "len") (hm : X.mg "len" = none) (ha : PE X e (rB X.K f)) (he : starEach [e] X.env = (false, eval e X.env) :: starEach [] X.env := by rfl) (hpl : (backTo pos (starEach [] X.env)).any (·.1) = false := by rfl) : PE X (.Call (.Name "len" p) [e] [] pos) (rE X.K (x1 wLen f)) :=
  ev_c1 call_len c1_len bb_len (by decide) (by decide) hg hm ha he hpl
theorem ev_abs (hg : Gl X "abs") (hm : X.mg "abs" = none) (ha : PE X e (rB X.K f)) (he : starEach [e] X.env = (false, eval e X.env) :: starEach [] X.env := by rfl) (hpl : (backTo pos (starEach [] X.env)).any (·.1) = false := by rfl) : PE X (.Call (.Name "abs" p) [e] [] pos) (rE X.K (x1 wAbs f)) :=
  ev_c1 call_abs c1_abs bb_abs (by decide) (by decide) hg hm ha he hpl
theorem ev_sum (hc : X.calm = true) (hg : Gl X "sum") (hm : X.mg "sum" = none) (ha : PE X e (rB X.K f)) (he : starEach [e] X.env = (false, eval e X.env) :: starEach [] X.env := by rfl) (hpl : (backTo pos (starEach [] X.env)).any (·.1) = false := by rfl) : PE X (.Call (.Name "sum" p) [e] [] pos) (rE X.K (x1 wSum f)) :=
  ev_c1 (callR_or (cr_sum hc) (cr_sumT hc)) c1_sum bb_sum (by decide) (by decide) hg hm ha he hpl
theorem ev_any (hc : X.calm = true) (hg : Gl X "any") (hm : X.mg "any" = none) (ha : PE X e (rB X.K f)) (he : starEach [e] X.env = (false, eval e X.env) :: starEach [] X.env := by rfl) (hpl : (backTo pos (starEach [] X.env)).any (·.1) = false := by rfl) : PE X (.Call (.Name "any" p) [e] [] pos) (rE X.K (x1 wAny f)) :=
  ev_c1 (cr_any hc) c1_any bb_any (by decide) (by decide) hg hm ha he hpl
theorem ev_all (hc : X.calm = true) (hg : Gl X "all") (hm : X.mg "all" = none) (ha : PE X e (rB X.K f)) (he : starEach [e] X.env = (false, eval e X.env) :: starEach [] X.env := by rfl) (hpl : (backTo pos (starEach [] X.env)).any (·.1) = false := by rfl) : PE X (.Call (.Name "all" p) [e] [] pos) (rE X.K (x1 wAll f)) :=
  ev_c1 (cr_all hc) c1_all bb_all (by decide) (by decide) hg hm ha he hpl
theorem ev_toI (hg : Gl X "int") (hm : X.mg "int" = none) (ha : PE X e (rB X.K f)) (he : starEach [e] X.env = (false, eval e X.env) :: starEach [] X.env := by rfl) (hpl : (backTo pos (starEach [] X.env)).any (·.1) = false := by rfl) : PE X (.Call (.Name "int" p) [e] [] pos) (rE X.K (x1 wToI f)) :=
  ev_t1 call_int1 c1_int bb_int (by decide) (by decide) hg hm ha he hpl
theorem ev_toB (hg : Gl X "bool") (hm : X.mg "bool" = none) (ha : PE X e (rB X.K f)) (he : starEach [e] X.env = (false, eval e X.env) :: starEach [] X.env := by rfl) (hpl : (backTo pos (starEach [] X.env)).any (·.1) = false := by rfl) : PE X (.Call (.Name "bool" p) [e] [] pos) (rE X.K (x1 wToB f)) :=
  ev_t1 call_bool1 c1_bool bb_bool (by decide) (by decide) hg hm ha he hpl
theorem ev_toL (hg : Gl X "list") (hm : X.mg "list" = none) (ha : PE X e (rB X.K f)) (he : starEach [e] X.env = (false, eval e X.env) :: starEach [] X.env := by rfl) (hpl : (backTo pos (starEach [] X.env)).any (·.1) = false := by rfl) : PE X (.Call (.Name "list" p) [e] [] pos) (rE X.K (x1 wToL f)) :=
  ev_t1 call_list_of c1_list bb_list (by decide) (by decide) hg hm ha he hpl
theorem ev_toT (hg : Gl X "tuple") (hm : X.mg "tuple" = none) (ha : PE X e (rB X.K f)) (he : starEach [e] X.env = (false, eval e X.env) :: starEach [] X.env := by rfl) (hpl : (backTo pos (starEach [] X.env)).any (·.1) = false := by rfl) : PE X (.Call (.Name "tuple" p) [e] [] pos) (rE X.K (x1 wToT f)) :=
  ev_t1 call_tuple_of c1_tuple bb_tuple (by decide) (by decide) hg hm ha he hpl
theorem ev_max2 (hc : X.calm = true) (hg : Gl X "max") (hm : X.mg "max" = none) (ha : PE X a (rB X.K f)) (hb : PE X b (rB X.K g))
    (he : starEach [a, b] X.env = (false, eval a X.env) :: starEach [b] X.env := by rfl) (he2 : starEach [b] X.env = (false, eval b X.env) :: starEach [] X.env := by rfl) (hpl : (backTo pos (starEach [b] X.env)).any (·.1) = false := by rfl) : PE X (.Call (.Name "max" p) [a, b] [] pos) (rE X.K (x2 wMax2 f g)) :=
  ev_c2 (call_max2 hc) c2_max bb_max (by decide) (by decide) hg hm ha hb he he2 hpl
theorem ev_min2 (hc : X.calm = true) (hg : Gl X "min") (hm : X.mg "min" = none) (ha : PE X a (rB X.K f)) (hb : PE X b (rB X.K g))
    (he : starEach [a, b] X.env = (false, eval a X.env) :: starEach [b] X.env := by rfl) (he2 : starEach [b] X.env = (false, eval b X.env) :: starEach [] X.env := by rfl) (hpl : (backTo pos (starEach [b] X.env)).any (·.1) = false := by rfl) : PE X (.Call (.Name "min" p) [a, b] [] pos) (rE X.K (x2 wMin2 f g)) :=
  ev_c2 (call_min2 hc) c2_min bb_min (by decide) (by decide) hg hm ha hb he he2 hpl
/-! ### isinstance(x, T) -/
def tyD : D → Option String
  | .none => some "NoneType"
  | .bool _ => some "bool"
  | .int _ => some "int"
  | .str _ => some "str"
  | .list _ => some "list"
  | .tuple _ => some "tuple"
  | .dict _ => none
def tyW : W → Option String
  | .d x => tyD x
  | .o (.lst _) => some "list"
  | _ => none
theorem seqT_ty {K : PySem.W.Frag} {H : Hp} {a : Addr} {xs : List V} (h : SqT K H a xs) : TyX K H (.ref a) (.type "tuple") := by
  rcases h with (h | ⟨o, h⟩) | ⟨o, its, n, h, hc, _⟩
  · exact .base (.tup h)
  · exact .fTuple h
  · exact .kTuple h hc
theorem seqL_ty {K : PySem.W.Frag} {H : Hp} {a : Addr} {xs : List V} (h : SqL K H a xs) : TyX K H (.ref a) (.type "list") := by
  rcases h with (h | ⟨o, h⟩) | ⟨o, its, n, h, hc, _⟩
  · exact .base (.lst h)
  · exact .base (.frz h)
  · exact .kList h hc
theorem tyW_ok {K : PySem.W.Frag} {H : Hp} {O : List Addr} {w : W} {u : V} {t : String} (h : BRes K H O w u) (e : tyW w = some t) : TyX K H u (.type t) := by
  cases w with
  | d x =>
    have h : Dp K (cut H O) u x := h
    have e : tyD x = some t := e
    cases h with
    | non => cases e; exact .base .non
    | bl b => cases e; exact .base (.bl b)
    | int i => cases e; exact .base (.int i)
    | str y => cases e; exact .base (.str y)
    | lst a b => cases e; exact seqL_ty ((cut_all H O).seq a)
    | tup a b => cases e; exact seqT_ty (same_seqT (cut_all H O) a)
  | o bb =>
    obtain ⟨p, ho, rfl, h1, h2⟩ := h
    cases bb with
    | lst xs =>
      obtain ⟨vs, rfl, h2⟩ := h2
      cases e
      exact .base (.lst h1)
    | dct _ => cases e
    | set _ => cases e
/-- a built-in type's name, one of these -/
inductive IsT : String → Prop
  | int : IsT "int"
  | bool : IsT "bool"
  | str : IsT "str"
  | list : IsT "list"
  | tuple : IsT "tuple"
def wIsi (T : String) (w : W) : Option W := (tyW w).bind fun t => (kitB t T).map fun b => .d (.bool b)
theorem bb_ty {T : String} (h : IsT T) : bootBuiltins (Str.ofString T) = some (.type T) := by
  cases h <;> decide +kernel
theorem ev_isi {T : String} {p2 : Pos} (hT : IsT T) (hg : Gl X "isinstance") (hm : X.mg "isinstance" = none) (hg2 : Gl X (Str.ofString T)) (hm2 : X.mg (Str.ofString T) = none) (ha : PE X a (rB X.K f))
    (he : starEach [a, .Name (Str.ofString T) p2] X.env = (false, eval a X.env) :: starEach [.Name (Str.ofString T) p2] X.env := by rfl) (he2 : starEach [.Name (Str.ofString T) p2] X.env = (false, eval (.Name (Str.ofString T) p2) X.env) :: starEach [] X.env := by rfl) (hpl : (backTo pos (starEach [.Name (Str.ofString T) p2] X.env)).any (·.1) = false := by rfl) :
    PE X (.Call (.Name "isinstance" p) [a, .Name (Str.ofString T) p2] [] pos) (rE X.K (x1 (wIsi T) f)) :=
  pe_imp (pe_callB call_isi hg hm bb_isinstance (pa_cons ha (pa_cons (pe_bltn (v := .ty T) hg2 hm2 (bb_ty hT) rfl (by cases hT <;> decide) (by cases hT <;> decide)) pa_nil he2) he) (by decide) (by decide) he hpl) fun σ H Q ⟨O, env, w, h1, h2, h3⟩ => by
    unfold x1 wIsi at h2
    obtain ⟨x, e1, e2⟩ := Option.bind_eq_some_iff.mp h2
    obtain ⟨t, e3, e4⟩ := Option.bind_eq_some_iff.mp e2
    obtain ⟨b, e5, rfl⟩ := Option.map_eq_some_iff.mp e4
    refine ⟨O, env, x, h1, e1, fun H1 u m r => ?_⟩
    exact ⟨u, _, _, _, b, rfl, .ty T, tyW_ok r e3, kit_ty e5, h3 H1 _ m (Dp.bl b)⟩
theorem es_doc {x j pos pos'} : PS X (.Expr (.Constant (.str x) j pos) pos') (rS X.K sPass) := ps_imp ps_doc fun D σ H ⟨Ex, O, env, fl, env', h1, h2, h3⟩ => by
  cases h2
  exact h3 H O σ (Ext.of_same (Same.refl _) O) h1
end
/-! ### the law -/
theorem dpa_ns {K : PySem.W.Frag} {H : Hp} : ∀ ns : List Int, DpAll K H (ns.map V.int) (ns.map PyData.int)
  | [] => .nil
  | n :: ns => .cons (.int n) (dpa_ns ns)
theorem law_sp {K : PySem.W.Frag} {φ : List D → Option W} {n : Nat} (hφ : ∀ ns : List Int, ns.length ≤ n → φ [.list (ns.map .int)] = some (.d (.bool true))) (H : Hp) (a : Addr) (ns : List Int) (hl : ns.length ≤ n) (hS : SqL K H a (ns.map V.int)) (E : XK) :
    spF K 1 φ [.ref a] H (fun v _ => v = .bl true) E := by
  refine ⟨rfl, [], [.list (ns.map .int)], _, fun a z => (nomatch z), .cons (.lst ?_ (dpa_ns ns)) .nil, hφ ns hl, fun H' u m r => ?_⟩
  · have : cut H [] = H := by funext b; simp [cut]
    rw [this]; exact hS
  · have r : Dp K (cut H' []) u (.bool true) := r
    cases r; rfl
end EV

set_option Elab.async false
set_option linter.all false
set_option maxRecDepth 100000
set_option maxHeartbeats 1000000
/-! more that is walked; short words; defs by name -/
namespace EV
open PySem L2 RZ RT
/-! ### enumerate of a tuple -/
section
open AutoSeq1 (wpAny_loadPart')
theorem meets_enumT (l : Addr) (items : Array Value) (n : Nat) (dct : Option Addr) (sl : Array (Option Value)) :
    Meets (Builtin.«enumerate.__new__» ⟨[.type "enumerate", .ref l], []⟩) (fun _ R s => s.heap.get? l = some { cls := .type "tuple", dict := dct, data := .seq items n, slots := sl } ∧
      R (.ok (.ret (.ref (s.heap.push { cls := .type "tuple_iterator", data := .fields #[.ref l, .int 0 0] }).objs.size)))
        { s with heap := (s.heap.push { cls := .type "tuple_iterator", data := .fields #[.ref l, .int 0 0] }).push { cls := .type "enumerate", data := .fields #[.none, .bool false, .ref s.heap.objs.size, rawInt 0, .none, .none] } }) :=
  .of_wp fun prog w A R s h => by
    obtain ⟨hp, g, d, tk, os⟩ := s; obtain ⟨hl, h⟩ := h
    have hsub := sub_enumerate
    have hL : Heap.IsTuple (Shared.heap ⟨hp, g, d, tk, os⟩) l items := ⟨_, hl, rfl, n, rfl⟩
    wp_walk using wpAny_loadPart' hl
    refine wpAny_stack_any fun st => wpAny_pure ?_
    split
    · rename_i c _ _ _ _ _
      cases (c == Value.type "enumerate")
      · wp_walk using wpAny_loadPart' hl, wpAny_pyIter_tuple hL
        exact ⟨_, rfl, h⟩
      · wp_walk using wpAny_loadPart' hl, wpAny_pyIter_tuple hL
        exact ⟨_, rfl, h⟩
    · wp_walk using wpAny_loadPart' hl, wpAny_pyIter_tuple hL
      exact ⟨_, rfl, h⟩
variable {prog : Program} {w : World} {A : Around} {E : Value → Shared → Prop} {s : Shared}
theorem call_enumT {l : Addr} {items : Array Value} {Q : Value → Shared → Prop} (hL : s.heap.IsTuple l items)
    (h : ∀ h', IsEnum h' (s.heap.objs.size + 1) s.heap.objs.size 0 .none → h'.IsTupleIter s.heap.objs.size l 0 → h'.objs.size = s.heap.objs.size + 2 →
      (∀ b o, s.heap.get? b = some o → h'.get? b = some o) → Q (.ref (s.heap.objs.size + 1)) { s with heap := h' }) :
    wpAny (model prog w) A (call (.type "enumerate") [.ref l]) Q E s := by
  obtain ⟨⟨c, dct, dt, sl⟩, hl, hc, n, hd⟩ := hL
  replace hc : c = .type "tuple" := hc
  replace hd : dt = .seq items n := hd
  subst hc hd
  refine callType_new F.called_enumerate (by decide) (F.typeCall_enumerate_1 _) (F.newCall_enumerate_1 _) (fun obj => F.args_object_init_2 obj _) F.entry_enumerate_new
    (meets_enumT l items n dct sl) ⟨hl, ?_⟩
  have hz : (s.heap.push { cls := .type "tuple_iterator", data := .fields #[.ref l, .int 0 0] }).objs.size = s.heap.objs.size + 1 := Heap.size_push ..
  show _ ∧ _
  rw [hz]
  have he : IsEnum ((s.heap.push { cls := .type "tuple_iterator", data := .fields #[.ref l, .int 0 0] }).push
      { cls := .type "enumerate", data := .fields #[.none, .bool false, .ref s.heap.objs.size, rawInt 0, .none, .none] }) (s.heap.objs.size + 1) s.heap.objs.size 0 .none := by
    have := Heap.get?_push_size (s.heap.push { cls := .type "tuple_iterator", data := .fields #[.ref l, .int 0 0] })
      (o := { cls := .type "enumerate", data := .fields #[.none, .bool false, .ref s.heap.objs.size, rawInt 0, .none, .none] }) rfl
    rw [hz] at this; exact this
  refine ⟨⟨_, he, rfl⟩, h _ he ⟨_, Heap.get?_push_of_some _ (Heap.get?_push_size _ rfl), rfl, rfl⟩ (by rw [Heap.size_push, hz]) fun b o x => Heap.get?_push_of_some _ (Heap.get?_push_of_some _ x)⟩
end
def IteT (K : PySem.W.Frag) (a : Addr) : It :=
  ⟨fun i H => ∃ (xs : List V) (x : V), SqT K H a xs ∧ xs[i]? = some x, fun i H v H' => ∃ T x, v = .ref T ∧ H T = none ∧ H' = upd H T (.tup [.int (i : Nat), x]) ∧ ∀ xs, SqT K H a xs → xs[i]? = some x, fun i H => ∃ xs : List V, SqT K H a xs ∧ xs.length ≤ i⟩
theorem turn_enumT {P : Program} {w : World} {K : PySem.W.Frag} {elts : List Expr} {kk : Nat} {tpos : Pos} (a e it : Addr) :
    Turn P w K (.Tuple elts kk tpos) (IteT K a) [e, it] e (fun i h => (∃ old, IsEnum h e it ((i : Nat) : Int) old) ∧ h.IsTupleIter it a i ∧ e ≠ it ∧ a ≠ it ∧ a ≠ e) where
  mem := by simp
  obj := fun i h st b hb => by
    obtain ⟨⟨old, he⟩, ⟨o, ho, hc, hd⟩, _⟩ := st
    have e' : b = e ∨ b = it := by simpa using hb
    rcases e' with z | z
    · rw [z]; exact ⟨_, he, fun v q => nomatch q⟩
    · rw [z]; exact ⟨o, ho, fun v q => by rw [hd] at q; cases q⟩
  keep := fun i h h' st k => let ⟨⟨old, he⟩, hi, hne⟩ := st; ⟨⟨old, k e (by simp) _ he⟩, hi.at fun o q => k it (by simp) o q, hne⟩
  item := by
    intro X hP hw hK hc i pins s σ H E I hf st hg
    subst hP hw hK
    obtain ⟨⟨old, he⟩, hit, hne, nai, nae⟩ := st
    obtain ⟨xs, x, hq, hx⟩ := hg
    obtain ⟨its, rv, p, hz⟩ := I.tuple hq
    obtain ⟨u, hu, ru⟩ := rv.get hx
    have hel : e < s.heap.objs.size := Heap.lt_size he
    have hil : it < s.heap.objs.size := by obtain ⟨_, q, _⟩ := hit; exact Heap.lt_size q
    have hil2 : i < its.toArray.size := by
      have := (List.getElem?_eq_some_iff.mp hu).1
      simpa using this
    refine wpAny_pyNext_enum_itemD (Draws.tuple (A := X.A.in1) (I.ok.hd hc) it a nai its.toArray) he ⟨hit, p⟩ hil2 hne (by simp [hne, nae.symm]) fun u2 h' tk hP2 ho hst hT hsz hk => ?_
    have hu2 : u2 = u := by
      have q1 : its[i]? = some u2 := by simpa using hP2
      rw [hu] at q1
      exact (Option.some.inj q1).symm
    subst hu2
    refine ⟨_, rfl, wpAny_letOwnedTupleGo_enum (s := { s with heap := h', toks := tk + 1 }) ho fun h'' he' sb => ?_⟩
    have hT2 : h''.get? s.heap.objs.size = some { cls := .type "tuple", data := .seq #[.int i tk, u2] } := (sb.2 _ (Nat.ne_of_gt hel)).trans hT
    have new : ObjOk X.prog X.w (upd H s.heap.objs.size (.tup [.int (i : Nat), x])) h'' s.heap.objs.size (.tup [.int (i : Nat), x]) :=
      ⟨by show 2 ≤ sizeLine; decide, [.int i tk, u2], .cons ⟨_, rfl⟩ (.cons ru .nil), ⟨_, hT2, rfl, _, rfl⟩⟩
    have I1 : Inv X pins σ (upd H s.heap.objs.size (.tup [.int (i : Nat), x])) { s with heap := h'', toks := tk + 1 } :=
      I.turnedNew (ch := [e, it]) (fun b ob hb q => (sb.2 b (fun z => hb (by simp [z]))).trans (hk b ob (fun z => hb (by simp [z])) (fun z => hb (by simp [z])) q)) hf (Nat.le_refl _) new
    refine ⟨.ref s.heap.objs.size, _, I1, rfl, ⟨_, x, rfl, I.hok.fresh (Nat.le_refl _), rfl, fun ys hy => by rw [I.tuple_inj hy hq]; exact hx⟩, ⟨⟨u2, ?_⟩, hst.1.at fun o q => (sb.2 it (Ne.symm hne)).trans q, hne, nai, nae⟩, fun b hb => ?_⟩
    · have e1 : ((i + 1 : Nat) : Int) = (i : Int) + 1 := by omega
      rw [e1]; exact he'
    · have hb' : b < s.heap.objs.size := by
        have e' : b = e ∨ b = it := by simpa using hb
        rcases e' with z | z
        · rw [z]; exact hel
        · rw [z]; exact hil
      rw [upd_ne (Nat.ne_of_lt hb')]
      exact (hf b hb).1
  done := by
    intro X hP hw hK hc i pins s σ H E I hf st hg
    subst hP hw hK
    obtain ⟨⟨old, he⟩, hit, hne, nai, nae⟩ := st
    obtain ⟨xs, hq, hx⟩ := hg
    obtain ⟨its, rv, p, hz⟩ := I.tuple hq
    obtain ⟨f0, f1, f2, f3, f4, f5⟩ := hf it (by simp)
    have hl := rv.length
    have hT : s.TypeIs (.ref e) "enumerate" := ⟨_, he, rfl⟩
    unfold pyNext
    refine wpAny_bind (wpAny_attempt (wpAny_callSpecial?_slot (name := Str.ofString "__next__") hT F.slot_enumerate_next
      (wpAny_call_entry F.slot_enumerate_next hT F.entry_enumerate_next ?_ (F.args_enumerate_next_1 _))))
    show wpAny _ _ (field (.ref e) 2 >>= _) _ _ _
    refine wpAny_bind (wpAny_field he rfl (x := .ref it) rfl ?_)
    refine wpAny_bind (wpAny_nextOf_tuple_end (I.ok.hd hc) hit p (by simp; omega) fun h' x he' hx' => ?_)
    obtain ⟨o, ho, hcc⟩ := hx'
    refine wpAny_bind (wpAny_isInstance (T := "StopIteration") (b := true) ⟨o, ho, hcc⟩ isSubtype_stop ?_)
    exact wpAny_pure ⟨rfl, I.turned (t' := s.toks) (fun b o hb q => he' b o hb q) f0 f1 f3 f4 f5⟩
  self := fun A i s Q E st h => let ⟨⟨_, he⟩, _⟩ := st; wpAny_pyIter_enum he h
section
variable {X : Cx} {e e2 a b c : Expr} {f g h : En → Option W} {p pos tpos : Pos} {elts : List Expr} {kk : Nat}
def iEnA (K : PySem.W.Frag) (ta : TA) : TI := fun σ H R => ta σ H fun vs H1 => ∃ a xs, vs = [.ref a] ∧ ((SqL K H1 a xs ∧ R (Ite K a) H1) ∨ (SqT K H1 a xs ∧ R (IteT K a) H1))
theorem pi_enumA {ta : TA} (hg : Gl X "enumerate") (hm : X.mg "enumerate" = none) (ha : PA X [e] ta) (hs : starEach [e] X.env = [(false, eval e X.env)] := by rfl) :
    PI X (.Tuple elts kk tpos) (.Call (.Name "enumerate" p) [e] [] pos) (iEnA X.K ta) := by
  refine ⟨fun pins s σ H R I h => ?_⟩
  refine PyProof.Rows.Call_ (ld_blt I hg hm (by decide +kernel : bootBuiltins "enumerate" = some (.type "enumerate")) (PyProof.Rows.callWith_type1 (thn (ha.run pos pins s σ H _ I h) fun us s1 ⟨vs, H1, I1, r1, q1⟩ => ?_) hs rfl))
  obtain ⟨a, xs, ex, q⟩ := q1
  subst ex
  cases r1 with
  | cons r rr =>
    cases rr
    cases r
    have fr : ∀ b, b ∈ [s1.heap.objs.size + 1, s1.heap.objs.size] → FpOk X pins H1 b := fun b hb => by
      have e' : b = s1.heap.objs.size + 1 ∨ b = s1.heap.objs.size := by simpa using hb
      have hle : s1.heap.objs.size ≤ b := by
        rcases e' with z | z
        · rw [z]; exact Nat.le_add_right _ _
        · rw [z]; exact Nat.le_refl _
      exact I1.fpOk hle (I1.hok.fresh hle)
    rcases q with ⟨hq, q⟩ | ⟨hq, q⟩
    · obtain ⟨its, rv, p', hz⟩ := I1.list hq
      refine call_enumerate_list p'.isList fun h' he hit hsz hk => wpAny_pyIter_enum he ?_
      have I2 : Inv X pins σ H1 { s1 with heap := h' } := I1.kept (t' := s1.toks) hk
      exact ⟨s1.heap.objs.size + 1, [s1.heap.objs.size + 1, s1.heap.objs.size], _, _, H1, rfl, I2, turn_enum a (s1.heap.objs.size + 1) s1.heap.objs.size, ⟨⟨.none, he⟩, hit, Nat.succ_ne_self _⟩, fr, q⟩
    · obtain ⟨its, rv, p', hz⟩ := I1.tuple hq
      have ha : a < s1.heap.objs.size := p'.lt
      refine call_enumT p' fun h' he hit hsz hk => wpAny_pyIter_enum he ?_
      have I2 : Inv X pins σ H1 { s1 with heap := h' } := I1.kept (t' := s1.toks) hk
      exact ⟨s1.heap.objs.size + 1, [s1.heap.objs.size + 1, s1.heap.objs.size], _, _, H1, rfl, I2, turn_enumT a (s1.heap.objs.size + 1) s1.heap.objs.size, ⟨⟨.none, he⟩, hit, Nat.succ_ne_self _, Nat.ne_of_lt ha, Nat.ne_of_lt (Nat.lt_succ_of_lt ha)⟩, fr, q⟩
def enD (xs : List D) : List D := xs.zipIdx.map fun q => .tuple [.int (q.2 : Nat), q.1]
theorem enD_len (xs : List D) : (enD xs).length = xs.length := by simp [enD]
theorem enD_get (xs : List D) (i : Nat) (d : D) (h : xs[i]? = some d) : (enD xs)[i]? = some (.tuple [.int (i : Nat), d]) := by
  simp [enD, List.getElem?_map, List.getElem?_zipIdx, h]
theorem src_new {K : PySem.W.Frag} {H' : Hp} {O' : List Addr} {T : Addr} {vs : List V} {ds : List D} (n : H' T = none) (nO : T ∉ O') (r : DpAll K (cut H' O') vs ds) : Same H' (upd H' T (.tup vs)) ∧ Dp K (cut (upd H' T (.tup vs)) O') (.ref T) (.tuple ds) :=
  ⟨same_upd n, .tup (.inl (.inl (cut_mk nO upd_same))) (dpa_mono (cut_same (same_upd n) O') r)⟩
/-- a source whose turns may make tuples: what is owned stands -/
theorem src_e {K : PySem.W.Frag} {H : Hp} {O : List Addr} {a : Addr} {vs : List V} {xs : List D} (h : SqL K (cut H O) a vs) (r : DpAll K (cut H O) vs xs) : Src K H O (enD xs) (Ite K a) := fun H' O' x hO i => by
  have h' : SqL K H' a vs := (cut_all H' O').seq (x.cut.seq h)
  have r' := dpa_mono x.cut r
  rw [enD_len]
  refine ⟨fun hi => ?_, fun hi => ⟨vs, h', by rw [dpa_len r]; exact hi⟩⟩
  have hi' : i < vs.length := by rw [dpa_len r]; exact hi
  refine ⟨⟨vs, vs[i], h', by simp [hi']⟩, fun y H'' q => ?_⟩
  obtain ⟨T, z, rfl, n, rfl, q⟩ := q
  obtain ⟨d, e1, e2⟩ := dpa_getV r' (q vs h')
  obtain ⟨m1, m2⟩ := src_new n (hO.not n) (.cons (.int (i : Nat)) (.cons e2 .nil))
  exact ⟨m1, _, enD_get xs i d e1, m2⟩
theorem src_eT {K : PySem.W.Frag} {H : Hp} {O : List Addr} {a : Addr} {vs : List V} {xs : List D} (h : SqT K (cut H O) a vs) (r : DpAll K (cut H O) vs xs) : Src K H O (enD xs) (IteT K a) := fun H' O' x hO i => by
  have h' : SqT K H' a vs := same_seqT (cut_all H' O') (same_seqT x.cut h)
  have r' := dpa_mono x.cut r
  rw [enD_len]
  refine ⟨fun hi => ?_, fun hi => ⟨vs, h', by rw [dpa_len r]; exact hi⟩⟩
  have hi' : i < vs.length := by rw [dpa_len r]; exact hi
  refine ⟨⟨vs, vs[i], h', by simp [hi']⟩, fun y H'' q => ?_⟩
  obtain ⟨T, z, rfl, n, rfl, q⟩ := q
  obtain ⟨d, e1, e2⟩ := dpa_getV r' (q vs h')
  obtain ⟨m1, m2⟩ := src_new n (hO.not n) (.cons (.int (i : Nat)) (.cons e2 .nil))
  exact ⟨m1, _, enD_get xs i d e1, m2⟩
def iEn (f : En → Option W) : En → Option (List D) := fun env => (f env).bind fun w => ((dat w).bind seqD).map enD
theorem ei_enum (hg : Gl X "enumerate") (hm : X.mg "enumerate" = none) (ha : PE X e (rE X.K f)) (hs : starEach [e] X.env = [(false, eval e X.env)] := by rfl) :
    PI X (.Tuple elts kk tpos) (.Call (.Name "enumerate" p) [e] [] pos) (rI X.K (iEn f)) := pi_imp (pi_enumA hg hm (pa_cons ha pa_nil hs) hs) fun σ H R ⟨O, env, xs, h1, h2, h3⟩ => by
  unfold iEn at h2
  obtain ⟨w, e1, e2⟩ := Option.bind_eq_some_iff.mp h2
  obtain ⟨ys, e3, rfl⟩ := Option.map_eq_some_iff.mp e2
  obtain ⟨d, e4, e5⟩ := Option.bind_eq_some_iff.mp e3
  refine ⟨O, env, w, h1, e1, fun H1 u m r => ?_⟩
  have r := res_dat r e4
  unfold seqD at e5
  split at e5
  · cases e5
    cases r with
    | lst a b => exact ⟨_, _, rfl, .inl ⟨(cut_all H1 O).seq a, h3 H1 _ m (src_e a b)⟩⟩
  · cases e5
    cases r with
    | tup a b => exact ⟨_, _, rfl, .inr ⟨same_seqT (cut_all H1 O) a, h3 H1 _ m (src_eT a b)⟩⟩
  · cases e5
/-! ### zip of two -/
def zpD : List D → List D → List D
  | x :: xs, y :: ys => .tuple [x, y] :: zpD xs ys
  | _, _ => []
theorem zpD_len : ∀ xs ys : List D, (zpD xs ys).length = min xs.length ys.length
  | [], _ => by simp [zpD]
  | _ :: _, [] => by simp [zpD]
  | x :: xs, y :: ys => by simp [zpD, zpD_len xs ys]
theorem zpD_get : ∀ (xs ys : List D) (i : Nat) (x y : D), xs[i]? = some x → ys[i]? = some y → (zpD xs ys)[i]? = some (.tuple [x, y])
  | [], _, _, _, _, h, _ => by simp at h
  | _ :: _, [], _, _, _, _, h => by simp at h
  | a :: xs, b :: ys, 0, x, y, h, h2 => by simp at h h2; simp [zpD, h, h2]
  | a :: xs, b :: ys, i + 1, x, y, h, h2 => by
    simp only [zpD, List.getElem?_cons_succ]
    exact zpD_get xs ys i x y (by simpa using h) (by simpa using h2)
theorem src_z {K : PySem.W.Frag} {H : Hp} {O : List Addr} {a b : Addr} {vs ws : List V} {xs ys : List D} (h : SqL K (cut H O) a vs) (r : DpAll K (cut H O) vs xs) (h2 : SqL K (cut H O) b ws) (r2 : DpAll K (cut H O) ws ys) : Src K H O (zpD xs ys) (Itz K a b) := fun H' O' x hO i => by
  have h' : SqL K H' a vs := (cut_all H' O').seq (x.cut.seq h)
  have r' := dpa_mono x.cut r
  have h2' : SqL K H' b ws := (cut_all H' O').seq (x.cut.seq h2)
  have r2' := dpa_mono x.cut r2
  rw [zpD_len]
  have l1 := dpa_len r
  have l2 := dpa_len r2
  refine ⟨fun hi => ?_, fun hi => ⟨vs, ws, h', h2', by omega⟩⟩
  have hi1 : i < vs.length := by omega
  have hi2 : i < ws.length := by omega
  refine ⟨⟨vs, ws, vs[i], ws[i], h', h2', by simp [hi1], by simp [hi2]⟩, fun y H'' q => ?_⟩
  obtain ⟨T, z1, z2, rfl, n, rfl, q1, q2⟩ := q
  obtain ⟨d, e1, e2⟩ := dpa_getV r' (q1 vs h')
  obtain ⟨d2, e3, e4⟩ := dpa_getV r2' (q2 ws h2')
  obtain ⟨m1, m2⟩ := src_new n (hO.not n) (.cons e2 (.cons e4 .nil))
  exact ⟨m1, _, zpD_get xs ys i d d2 e1 e3, m2⟩
theorem src_zT {K : PySem.W.Frag} {H : Hp} {O : List Addr} {a b : Addr} {vs ws : List V} {xs ys : List D} (h : SqT K (cut H O) a vs) (r : DpAll K (cut H O) vs xs) (h2 : SqT K (cut H O) b ws) (r2 : DpAll K (cut H O) ws ys) : Src K H O (zpD xs ys) (ItzT K a b) := fun H' O' x hO i => by
  have h' : SqT K H' a vs := same_seqT (cut_all H' O') (same_seqT x.cut h)
  have r' := dpa_mono x.cut r
  have h2' : SqT K H' b ws := same_seqT (cut_all H' O') (same_seqT x.cut h2)
  have r2' := dpa_mono x.cut r2
  rw [zpD_len]
  have l1 := dpa_len r
  have l2 := dpa_len r2
  refine ⟨fun hi => ?_, fun hi => ⟨vs, ws, h', h2', by omega⟩⟩
  have hi1 : i < vs.length := by omega
  have hi2 : i < ws.length := by omega
  refine ⟨⟨vs, ws, vs[i], ws[i], h', h2', by simp [hi1], by simp [hi2]⟩, fun y H'' q => ?_⟩
  obtain ⟨T, z1, z2, rfl, n, rfl, q1, q2⟩ := q
  obtain ⟨d, e1, e2⟩ := dpa_getV r' (q1 vs h')
  obtain ⟨d2, e3, e4⟩ := dpa_getV r2' (q2 ws h2')
  obtain ⟨m1, m2⟩ := src_new n (hO.not n) (.cons e2 (.cons e4 .nil))
  exact ⟨m1, _, zpD_get xs ys i d d2 e1 e3, m2⟩
/-- of two lists, of two tuples -/
def zpW : D → D → Option (List D)
  | .list xs, .list ys => some (zpD xs ys)
  | .tuple xs, .tuple ys => some (zpD xs ys)
  | _, _ => none
@[simp] theorem zpW_l (xs ys : List D) : zpW (.list xs) (.list ys) = some (zpD xs ys) := rfl
@[simp] theorem zpW_t (xs ys : List D) : zpW (.tuple xs) (.tuple ys) = some (zpD xs ys) := rfl
def iZp (f g : En → Option W) : En → Option (List D) := fun env => (f env).bind fun v => (g env).bind fun w => (dat v).bind fun x => (dat w).bind fun y => zpW x y
theorem ei_zip (hg : Gl X "zip") (hm : X.mg "zip" = none) (ha : PE X e (rE X.K f)) (hb : PE X e2 (rE X.K g)) (hs : starEach [e, e2] X.env = (false, eval e X.env) :: starEach [e2] X.env := by rfl) (hs2 : starEach [e2] X.env = (false, eval e2 X.env) :: starEach [] X.env := by rfl) (hpl : (backTo pos (starEach [e2] X.env)).any (·.1) = false := by rfl) :
    PI X (.Tuple elts kk tpos) (.Call (.Name "zip" p) [e, e2] [] pos) (rI X.K (iZp f g)) := pi_imp (pi_zipA hg hm (pa_cons ha (pa_cons hb pa_nil hs2) hs) hs hpl) fun σ H R ⟨O, env, xs, h1, h2, h3⟩ => by
  unfold iZp at h2
  obtain ⟨v, e1, e2⟩ := Option.bind_eq_some_iff.mp h2
  obtain ⟨w, e3, e4⟩ := Option.bind_eq_some_iff.mp e2
  obtain ⟨x, e5, e6⟩ := Option.bind_eq_some_iff.mp e4
  obtain ⟨y, e7, e8⟩ := Option.bind_eq_some_iff.mp e6
  refine ⟨O, env, v, h1, e1, fun H1 u m r => ?_⟩
  have r1 := res_dat r e5
  refine ⟨O, env, w, h1.mono m, e3, fun H2 u2 m2 r2 => ?_⟩
  have r2 := res_dat r2 e7
  have r1 := dp_mono (cut_same m2 O) r1
  unfold zpW at e8
  split at e8
  · cases e8
    cases r1 with
    | lst a b => cases r2 with
      | lst a2 b2 => exact ⟨_, _, _, _, rfl, .inl ⟨(cut_all H2 O).seq a, (cut_all H2 O).seq a2, h3 H2 _ (m.trans m2) (src_z a b a2 b2)⟩⟩
  · cases e8
    cases r1 with
    | tup a b => cases r2 with
      | tup a2 b2 => exact ⟨_, _, _, _, rfl, .inr ⟨same_seqT (cut_all H2 O) a, same_seqT (cut_all H2 O) a2, h3 H2 _ (m.trans m2) (src_zT a b a2 b2)⟩⟩
  · cases e8
/-! ### reversed -/
theorem src_v {K : PySem.W.Frag} {H : Hp} {O : List Addr} {a : Addr} {vs : List V} {xs : List D} (h : SqL K (cut H O) a vs) (r : DpAll K (cut H O) vs xs) : Src K H O xs.reverse (Itv K a vs.length) := fun H' O' x hO i => by
  have h' : SqL K H' a vs := (cut_all H' O').seq (x.cut.seq h)
  have r' := dpa_mono x.cut r
  have l1 := dpa_len r
  rw [List.length_reverse]
  refine ⟨fun hi => ?_, fun hi => by show vs.length ≤ i; omega⟩
  have hi' : vs.length - 1 - i < vs.length := by omega
  refine ⟨⟨by omega, vs, vs[vs.length - 1 - i], h', by simp [hi']⟩, fun y H'' q => ?_⟩
  obtain ⟨e, q⟩ := q
  subst e
  obtain ⟨d, e1, e2⟩ := dpa_getV r' (q vs h')
  refine ⟨Same.refl _, d, ?_, e2⟩
  rw [List.getElem?_reverse hi, ← e1, l1]
theorem src_vT {K : PySem.W.Frag} {H : Hp} {O : List Addr} {a : Addr} {vs : List V} {xs : List D} (h : SqT K (cut H O) a vs) (r : DpAll K (cut H O) vs xs) : Src K H O xs.reverse (ItvT K a vs.length) := fun H' O' x hO i => by
  have h' : SqT K H' a vs := same_seqT (cut_all H' O') (same_seqT x.cut h)
  have r' := dpa_mono x.cut r
  have l1 := dpa_len r
  rw [List.length_reverse]
  refine ⟨fun hi => ?_, fun hi => by show vs.length ≤ i; omega⟩
  have hi' : vs.length - 1 - i < vs.length := by omega
  refine ⟨⟨by omega, vs, vs[vs.length - 1 - i], h', by simp [hi']⟩, fun y H'' q => ?_⟩
  obtain ⟨e, q⟩ := q
  subst e
  obtain ⟨d, e1, e2⟩ := dpa_getV r' (q vs h')
  refine ⟨Same.refl _, d, ?_, e2⟩
  rw [List.getElem?_reverse hi, ← e1, l1]
def iRv (f : En → Option W) : En → Option (List D) := fun env => (f env).bind fun w => ((dat w).bind seqD).map List.reverse
theorem ei_rev {tg : Expr} (hg : Gl X "reversed") (hm : X.mg "reversed" = none) (ha : PE X e (rE X.K f)) (hs : starEach [e] X.env = (false, eval e X.env) :: starEach [] X.env := by rfl) : PI X tg (.Call (.Name "reversed" p) [e] [] pos) (rI X.K (iRv f)) :=
  pi_imp (pi_revA hg hm ha hs) fun σ H R ⟨O, env, xs, h1, h2, h3⟩ => by
    unfold iRv at h2
    obtain ⟨w, e1, e2⟩ := Option.bind_eq_some_iff.mp h2
    obtain ⟨ys, e3, rfl⟩ := Option.map_eq_some_iff.mp e2
    obtain ⟨d, e4, e5⟩ := Option.bind_eq_some_iff.mp e3
    refine ⟨O, env, w, h1, e1, fun H1 u m r => ?_⟩
    have r := res_dat r e4
    unfold seqD at e5
    split at e5
    · cases e5
      cases r with
      | lst a b => exact ⟨_, _, rfl, .inl ⟨(cut_all H1 O).seq a, h3 H1 _ m (src_v a b)⟩⟩
    · cases e5
      cases r with
      | tup a b => exact ⟨_, _, rfl, .inr ⟨same_seqT (cut_all H1 O) a, h3 H1 _ m (src_vT a b)⟩⟩
    · cases e5
/-! ### range with a step -/
def intsC (lo c : Int) (n : Nat) : List D := (List.range n).map fun i => .int (lo + (i : Nat) * c)
theorem intsC_len (lo c : Int) (n : Nat) : (intsC lo c n).length = n := by simp [intsC]
theorem src_rc {K : PySem.W.Frag} {H : Hp} {O : List Addr} (lo c : Int) (n : Nat) : Src K H O (intsC lo c n) (Itc lo c n) := fun H' O' x _ i => by
  rw [intsC_len]
  refine ⟨fun hi => ⟨hi, fun y H'' q => ?_⟩, fun hi => hi⟩
  obtain ⟨rfl, rfl⟩ := q
  exact ⟨Same.refl _, .int (lo + i * c), by simp [intsC, hi], Dp.int _⟩
def rgOk (i j c : Int) : Bool := (decide (c ≠ 0) && decide (c.natAbs < 1073741824) && Builtin.Range.small i j c) && decide (0 ≤ Builtin.Range.rangeSize i j c)
def iR3 (f g h : En → Option W) : En → Option (List D) := fun env => (f env).bind fun u => (g env).bind fun v => (h env).bind fun w => (wI u).bind fun i => (wI v).bind fun j => (wI w).bind fun c => if rgOk i j c then some (intsC i c (Builtin.Range.rangeSize i j c).toNat) else none
theorem ei_range3 {tg : Expr} (hg : Gl X "range") (hm : X.mg "range" = none) (ha : PE X a (rB X.K f)) (hb : PE X b (rB X.K g)) (hcc : PE X c (rB X.K h))
    (hs : starEach [a, b, c] X.env = (false, eval a X.env) :: starEach [b, c] X.env := by rfl) (hs2 : starEach [b, c] X.env = (false, eval b X.env) :: starEach [c] X.env := by rfl) (hs3 : starEach [c] X.env = (false, eval c X.env) :: starEach [] X.env := by rfl)
    (hpl : (backTo pos (starEach [b, c] X.env)).any (·.1) = false := by rfl) :
    PI X tg (.Call (.Name "range" p) [a, b, c] [] pos) (rI X.K (iR3 f g h)) :=
  pi_imp (pi_range3 hg hm (pa_cons ha (pa_cons hb (pa_cons hcc pa_nil hs3) hs2) hs) hs hpl) fun σ H R ⟨O, env, xs, h1, h2, h3⟩ => by
    unfold iR3 at h2
    obtain ⟨u, e1, e2⟩ := Option.bind_eq_some_iff.mp h2
    obtain ⟨v, e3, e4⟩ := Option.bind_eq_some_iff.mp e2
    obtain ⟨w, e5, e6⟩ := Option.bind_eq_some_iff.mp e4
    obtain ⟨i, e7, e8⟩ := Option.bind_eq_some_iff.mp e6
    obtain ⟨j, e9, e10⟩ := Option.bind_eq_some_iff.mp e8
    obtain ⟨k, e11, e12⟩ := Option.bind_eq_some_iff.mp e10
    cases wI_some e7
    cases wI_some e9
    cases wI_some e11
    split at e12
    · cases e12
      rename_i hj
      unfold rgOk at hj
      simp only [Bool.and_eq_true, decide_eq_true_eq] at hj
      refine ⟨O, env, _, h1, e1, fun H1 u m r => ⟨O, env, _, h1.mono m, e3, fun H2 u2 m2 r2 => ⟨O, env, _, h1.mono (m.trans m2), e5, fun H3 u3 m3 r3 => ?_⟩⟩⟩
      exact ⟨i, j, k, _, by rw [bres_int r, bres_int r2, bres_int r3], ⟨hj.1.1.1, hj.1.1.2, hj.1.2, by omega⟩, h3 H3 _ ((m.trans m2).trans m3) (src_rc i k _)⟩
    · cases e12
end
/-! ### short words -/
abbrev xAdd (f g : En → Option W) := x2 wAdd f g
abbrev xSub (f g : En → Option W) := x2 (wInt fun i j => i - j) f g
abbrev xMul (f g : En → Option W) := x2 wMul f g
abbrev xFd (f g : En → Option W) := x2 (wIntC fdOk Int.fdiv) f g
abbrev xMod (f g : En → Option W) := x2 (wIntC (fun _ j => decide (j ≠ 0)) Int.fmod) f g
abbrev xPow (f g : En → Option W) := x2 (wIntC powOk fun i j => i ^ j.toNat) f g
abbrev xShl (f g : En → Option W) := x2 (wIntC powOk fun i j => i * 2 ^ j.toNat) f g
abbrev xShr (f g : En → Option W) := x2 (wIntC (fun _ j => decide (0 ≤ j)) fun i j => i / 2 ^ j.toNat) f g
abbrev xAnd (f g : En → Option W) := x2 (wInt Builtin.bitAnd) f g
abbrev xOr (f g : En → Option W) := x2 (wInt Builtin.bitOr) f g
abbrev xXor (f g : En → Option W) := x2 (wInt Builtin.bitXor) f g
abbrev tLt (f g : En → Option W) := t2 cLt f g
abbrev tLe (f g : En → Option W) := t2 (cInt fun i j => decide (i ≤ j)) f g
abbrev tGt (f g : En → Option W) := t2 (cInt fun i j => decide (j < i)) f g
abbrev tGe (f g : En → Option W) := t2 (cInt fun i j => decide (j ≤ i)) f g
abbrev tEq (f g : En → Option W) := t2 cEq f g
abbrev tNe (f g : En → Option W) := t2 cNe f g
abbrev tIs (f g : En → Option W) := t2 cIs f g
abbrev tIsNot (f g : En → Option W) := t2 cIsNot f g
abbrev tIn (f g : En → Option W) := t2 cIn f g
abbrev tNotIn (f g : En → Option W) := t2 cNotIn f g
abbrev wAddA := wInt fun i j => i + j
abbrev wSubA := wInt fun i j => i - j
abbrev wMulA := wIntC mulOk fun i j => i * j
abbrev wFdA := wIntC fdOk Int.fdiv
abbrev wModA := wIntC (fun _ j => decide (j ≠ 0)) Int.fmod
abbrev wXorA := wInt Builtin.bitXor
abbrev wOrA := wInt Builtin.bitOr
/-! ### a, b = x, y where a name is captured: by way of the pair -/
section
variable {X : Cx} {a b : Expr} {f g : En → Option W} {pos : Pos}
theorem sPar_frz {i j : Nat} : True := trivial
end
/-! ### defs by name -/
/-- a def of the text, bound to its name -/
def Fn0 (K : PySem.W.Frag) (mg : Str → Option Value) (x : Str) (st : Stmt) (ps : List Str) : Prop := ∃ f fd, Fun K x x st f fd ∧ mg x = some (.ref f) ∧ Binds K fd ps []
/-- .. that does φ -/
def Def (P : Program) (w : World) (K : PySem.W.Frag) (mg : Str → Option Value) (base : Heap) (k : Nat) (x : Str) (ps : List Str) (φ : List D → Option W) : Prop :=
  ∃ f fd, FnOk P w K mg base CX0 k f fd ps (spF K ps.length φ) ∧ mg x = some (.ref f) ∧ PySem.W.keepIn K (.ref f) = true ∧ Binds K fd ps []
section
variable {P : Program} {w : World} {K : PySem.W.Frag} {mg : Str → Option Value} {base : Heap}
theorem def_ok {x : Str} {st : Stmt} {N ps : List Str} {k : Nat} {B : SF} (F : Fn0 K mg x st ps) (S : FnScope N ps (defScope st))
    (hb : ∀ (f : Addr) (_ : mg x = some (.ref f)) (cdv : Value) (A : Around) (outer : List Env) (s : Shared) (H : Hp) (E : XK), Room k (A.deeper (PyProof.Rows.envOfC x (defScope st) s.heap.objs.size f cdv)) →
      PSs (cxOf CX0 P w K mg base N x (defScope st) f cdv A outer s H E).nox (defBody st) (rS K B)) : Def P w K mg base (k + 1) x ps (runF N.length B) := by
  obtain ⟨f, fd, F, hm, hb0⟩ := F
  exact ⟨f, fd, fn_ok F S (hb f hm), hm, F.kp, hb0⟩
theorem def_none {x : Str} {st : Stmt} {ps : List Str} {k : Nat} (F : Fn0 K mg x st ps) : Def P w K mg base k x ps (fun _ => none) := by
  obtain ⟨f, fd, F, hm, hb0⟩ := F
  refine ⟨f, fd, ⟨fun vs H Q E h => h.1, fun A outer s H args us vs Q E hr e0 hb r h => ?_⟩, hm, F.kp, hb0⟩
  obtain ⟨_, _, _, _, _, _, q, _⟩ := h
  cases q
end
section
variable {X : Cx} {e : Expr} {es : List Expr} {fs : En → Option (List D)} {k : Nat} {ps : List Str} {φ : List D → Option W} {x : Str} {p pos : Pos}
theorem ev_callD {n : Nat} (F : Def X.prog X.w X.K X.mg X.base k x ps φ) (hr : Room k X.A) (hg : Gl X x)
    (ha : PA X (e :: es) (rAD X.K fs)) (hn : ps.length = n := by rfl) (hdb : (x == ("__debug__" : Str)) = false := by decide) (he : starEach (e :: es) X.env = (false, eval e X.env) :: starEach es X.env := by rfl) (hpl : (backTo pos (starEach es X.env)).any (·.1) = false := by rfl) :
    PE X (.Call (.Name x p) (e :: es) [] pos) (rE X.K (xCall n φ fs)) := by
  obtain ⟨f, fd, F, hm, hk, hb⟩ := F
  subst hn
  exact ev_call F hr hg hm hk hb ha hdb he hpl
theorem ev_callD0 (F : Def X.prog X.w X.K X.mg X.base k x [] φ) (hr : Room k X.A) (hg : Gl X x) (hdb : (x == ("__debug__" : Str)) = false := by decide) : PE X (.Call (.Name x p) [] [] pos) (rE X.K (xCall 0 φ aN)) := by
  obtain ⟨f, fd, F, hm, hk, hb⟩ := F
  exact ev_call0 F hr hg hm hk hb hdb
end
end EV

set_option Elab.async false
set_option linter.all false
set_option maxRecDepth 100000
set_option maxHeartbeats 1000000
/-! three names at once, more op=, sorted of data -/
namespace EV
open PySem L2
section
variable {X : Cx} {e a b c : Expr} {es : List Expr} {f g h : En → Option W} {pos xpos : Pos} {st : Stmt} {rest : List Stmt} {F G : SF} {x : Str} {i : Nat}
def sPar3 (i j l : Nat) (f g h : En → Option W) : SF := fun env => (f env).bind fun u => (g env).bind fun v => (h env).map fun w => (.nx, ((env.set i (some u)).set j (some v)).set l (some w))
theorem Res.shift {K : PySem.W.Frag} {H H' : Hp} {Ex O : List Addr} {w v : W} {x y : V} (r : Res K H H' (Ex ++ (ownOf v x ++ O)) w y) : Res K H H' (ownOf v x ++ (Ex ++ O)) w y := r.mem fun a => by
  simp only [List.mem_append]
  exact ⟨fun z => by rcases z with z | z | z <;> simp [z], fun z => by rcases z with z | z | z <;> simp [z]⟩
theorem Res.shiftB {K : PySem.W.Frag} {H H' : Hp} {Ex O : List Addr} {w v : W} {x y : V} (r : Res K H H' (ownOf v x ++ (Ex ++ O)) w y) : Res K H H' (Ex ++ (ownOf v x ++ O)) w y := r.mem fun a => by
  simp only [List.mem_append]
  exact ⟨fun z => by rcases z with z | z | z <;> simp [z], fun z => by rcases z with z | z | z <;> simp [z]⟩
theorem es_par3 {i j l : Nat} {x y z : Str} {px py pz pt : Pos} {kt k2 pt2} (hc : X.calm = true) (hN : X.N.Nodup) (hi : X.N[i]? = some x) (hj : X.N[j]? = some y) (hl : X.N[l]? = some z) (hij : i ≠ j) (hil : i ≠ l) (hjl : j ≠ l)
    (hx : X.env.scope.names.lookup x = some .local) (hy : X.env.scope.names.lookup y = some .local) (hz : X.env.scope.names.lookup z = some .local) (ha : PE X a (rE X.K f)) (hb : PE X b (rE X.K g)) (hcc : PE X c (rE X.K h))
    (hw : swappedStores [.Tuple [.Name x px, .Name y py, .Name z pz] kt pt] (.Tuple [a, b, c] k2 pt2) X.env = pure (some [x, y, z]))
    (hs : swapsWithSole [.Tuple [.Name x px, .Name y py, .Name z pz] kt pt] (.Tuple [a, b, c] k2 pt2) pos.line X.env = pure false := by rfl)
    (s1 : starEach [a, b, c] X.env = (false, eval a X.env) :: starEach [b, c] X.env := by rfl) (s2 : starEach [b, c] X.env = (false, eval b X.env) :: starEach [c] X.env := by rfl) (s3 : starEach [c] X.env = (false, eval c X.env) :: starEach [] X.env := by rfl) :
    PS X (.Assign [.Tuple [.Name x px, .Name y py, .Name z pz] kt pt] (.Tuple [a, b, c] k2 pt2) pos) (rS X.K (sPar3 i j l f g h)) :=
  ps_imp (ps_par3 hc hN hi hj hl hij hil hjl hx hy hz (pa_cons ha (pa_cons hb (pa_cons hcc pa_nil s3) s2) s1) hw hs) fun D σ H ⟨Ex, O, env, fl, env', h1, h2, h3⟩ => by
    unfold sPar3 at h2
    obtain ⟨u, e1, e2⟩ := Option.bind_eq_some_iff.mp h2
    obtain ⟨v, e3, e4⟩ := Option.bind_eq_some_iff.mp e2
    obtain ⟨w, e5, e6⟩ := Option.map_eq_some_iff.mp e4
    cases e6
    refine ⟨Ex ++ O, env, u, h1.er, e1, fun H1 x1 m1 r1 => ?_⟩
    obtain ⟨q1, q2⟩ := h1.put' (i := i) m1 r1
    have er1 := h1.er.after m1 r1
    refine ⟨ownOf u x1 ++ (Ex ++ O), env, v, er1, e3, fun H2 x2 m2 r2 => ?_⟩
    have er2 := er1.after m2 r2
    obtain ⟨q3, q4⟩ := q2.put' (i := j) m2 r2.shiftB
    refine ⟨ownOf v x2 ++ (ownOf u x1 ++ (Ex ++ O)), env, w, er2, e5, fun H3 x3 m3 r3 => ⟨x1, x2, x3, rfl, ?_⟩⟩
    have r4 : Res X.K H2 H3 (Ex ++ (ownOf v x2 ++ (ownOf u x1 ++ O))) w x3 := r3.mem fun a => by
      simp only [List.mem_append]
      exact ⟨fun z => by rcases z with z | z | z | z <;> simp [z], fun z => by rcases z with z | z | z | z <;> simp [z]⟩
    obtain ⟨q5, q6⟩ := q4.put' (i := l) m3 r4
    exact h3 H3 _ _ ((q1.trans q3).trans q5) q6
theorem iop_fdivA : OpR X (inplaceOp .FloorDiv) (L2.rI CDivA fun i j => .int (i.fdiv j)) := opI fun i j _ _ _ _ _ hc q => by
  rcases hc with hc | hc
  · have h1 : (0 : Int) < j := hc.1
    exact PyProof.Rows.ifloordiv_int (by omega) q (.inl (PyProof.noPylong_of_log2 hc.2))
  · exact PyProof.Rows.ifloordiv_int hc.1 q (.inl (PyProof.noPylong_small hc.2))
theorem iop_modA : OpR X (inplaceOp .Mod) (L2.rI (fun _ j => j ≠ 0) fun i j => .int (i.fmod j)) := opI fun _ _ _ _ _ _ _ hc q => PyProof.Rows.imod_int hc q
variable (hN : X.N.Nodup) (hi : X.N[i]? = some x) (hx : Loc X.env.scope x) (he : PE X e (rB X.K f))
include hN hi hx he
theorem es_augFd (hf : X.fn x = true ∨ X.env.scope.names.lookup x = some .local := by first | exact .inl rfl | exact .inr rfl | assumption) : PS X (.AugAssign (.Name x xpos) .FloorDiv e pos) (rS X.K (sAug i wFdA f)) := es_aug iop_fdivA (op2_intC fdOk_ok) hN hi hx he hf
theorem es_augMod (hf : X.fn x = true ∨ X.env.scope.names.lookup x = some .local := by first | exact .inl rfl | exact .inr rfl | assumption) : PS X (.AugAssign (.Name x xpos) .Mod e pos) (rS X.K (sAug i wModA f)) := es_aug iop_modA (op2_intC fun i j h => of_decide_eq_true h) hN hi hx he hf
theorem es_augXor (hf : X.fn x = true ∨ X.env.scope.names.lookup x = some .local := by first | exact .inl rfl | exact .inr rfl | assumption) : PS X (.AugAssign (.Name x xpos) .BitXor e pos) (rS X.K (sAug i wXorA f)) := es_aug iop_xor op2_int hN hi hx he hf
theorem es_augOr (hf : X.fn x = true ∨ X.env.scope.names.lookup x = some .local := by first | exact .inl rfl | exact .inr rfl | assumption) : PS X (.AugAssign (.Name x xpos) .BitOr e pos) (rS X.K (sAug i wOrA f)) := es_aug iop_or op2_int hN hi hx he hf
end
section
variable {X : Cx} {e a b c : Expr} {f g h : En → Option W} {pos : Pos}
/-! ### sorted -/
def headed : D → Bool
  | .tuple (_ :: _) => true
  | _ => false
def notTup : D → Bool
  | .tuple _ => false
  | .none => false
  | _ => true
def srtOk (ds : List D) : Bool := (ds.all fun x => ds.all fun y => PySem.W.alike x y) && (ds.all headed || ds.all notTup) && decide (ds.length ≤ 16777216) && ds.all fun x => decide (x.depth ≤ 60)
theorem srtOk_ok {ds : List D} (h : srtOk ds = true) : PySem.W.AllAlike ds ∧ PySem.W.Sortable ds ∧ ds.length ≤ sizeLine ∧ ∀ d ∈ ds, d.depth ≤ 60 := by
  unfold srtOk at h
  simp only [Bool.and_eq_true, Bool.or_eq_true, List.all_eq_true, decide_eq_true_eq] at h
  obtain ⟨⟨⟨h1, h2⟩, h3⟩, h4⟩ := h
  refine ⟨fun d hd d' hd' => h1 d hd d' hd', ?_, by simpa using h3, h4⟩
  rcases h2 with h2 | h2
  · refine .inl fun d hd => ?_
    have := h2 d hd
    unfold headed at this
    split at this
    · exact ⟨_, _, rfl⟩
    · cases this
  · refine .inr fun d hd => ?_
    have := h2 d hd
    unfold notTup at this
    split at this
    · cases this
    · cases this
    · rename_i n1 n2
      exact ⟨fun z => n2 z, fun xs z => n1 xs z⟩
def srt (ds : List D) : List D := ds.mergeSort (PySem.W.dataLe false id)
def rSortD (K : PySem.W.Frag) : List V → Hp → VK → Prop := fun vs H Q => ∃ (a : Addr) (xs : List V) (ds : List D) (O : List Addr), vs = [.ref a] ∧ SqL K H a xs ∧ DpAll K (cut H O) xs ds ∧ srtOk ds = true ∧
  ∀ ys p, DpAll K (cut H O) ys (srt ds) → H p = none → Q (.ref p) (upd H p (.lst ys))
theorem each_of {K : PySem.W.Frag} {Hc : Hp} : ∀ {xs : List V} {its : List Value} {ds : List D}, Vals xs its → DpAll K Hc xs ds → PySem.W.EachIs (fun v d => ∃ y, RelV y v ∧ Dp K Hc y d) its ds
  | _, _, _, .nil, h => by cases h; exact .nil
  | _, _, _, .cons p q, h => by
    cases h with
    | cons a b => exact .cons ⟨_, p, a⟩ (each_of q b)
theorem of_each {K : PySem.W.Frag} {Hc : Hp} : ∀ {its : List Value} {ds : List D}, PySem.W.EachIs (fun v d => ∃ y, RelV y v ∧ Dp K Hc y d) its ds → ∃ xs, Vals xs its ∧ DpAll K Hc xs ds
  | _, _, .nil => ⟨[], .nil, .nil⟩
  | _, _, .cons ⟨y, p, q⟩ r => by
    obtain ⟨xs, h1, h2⟩ := of_each r
    exact ⟨y :: xs, .cons p h1, .cons q h2⟩
theorem cr_sortedD (hu : X.A.units + 64 < cLine) : CallR X (.builtin "sorted") (rSortD X.K) := by
  intro pins s σ H vs us Q I r h
  obtain ⟨a, xs, ds, O, rfl, hs, hd, hok, q⟩ := h
  obtain ⟨its, rv, hl, _⟩ := I.list hs
  rw [Vals.ref1 r]
  obtain ⟨h1, h2, h3, h4⟩ := srtOk_ok hok
  have e := each_of rv hd
  have er : PySem.W.EachIs (fun v b => ∃ as, Reads s.heap v (id b) as) its ds := e.mono fun v d ⟨y, p, z⟩ => Dp.reads I d y v (dp_mono (cut_all H O) z) p
  refine PySem.W.sorted_data (enc := id) hl.isList e er (by simpa using h1) (by simpa using h2) h3 (fun b hb => ?_) fun out ho eo => ?_
  · have := h4 b hb
    show X.A.units + 2 + b.depth < cLine
    omega
  · obtain ⟨ep, he'⟩ := PyProof.Rows.sortedAll_at s.heap its out.toArray
    obtain ⟨ys, z1, z2⟩ := of_each eo
    have hlen : ys.length ≤ sizeLine := by rw [z1.length, ho]; exact h3
    exact ⟨.ref _, upd H (s.heap.objs.size + 1) (.lst ys), I.laid (t' := s.toks) (fun _ _ => PyProof.Rows.sortedAll_old) (Nat.le_succ _) ⟨hlen, out, ep, z1, he'⟩, rfl, q ys _ z2 (I.hok.fresh (Nat.le_succ _))⟩
def wSorted (w : W) : Option W := (asL w).bind fun xs => if srtOk xs then some (.o (.lst (srt xs))) else none
theorem c1_sorted : C1 X.K wSorted (rSortD X.K) := fun H O x wx w Q hO hx e q => by
  unfold wSorted at e
  obtain ⟨xs, e1, e2⟩ := Option.bind_eq_some_iff.mp e
  split at e2
  · cases e2
    rename_i hk
    obtain ⟨p, vs, rfl, h1, h2⟩ := bres_lst hx e1
    exact ⟨p, vs, xs, O, rfl, h1, h2, hk, fun ys l z n => q _ _ (same_upd n) (res_new_lst hO n z)⟩
  · cases e2
theorem ev_sorted {k : Nat} {p : Pos} (hr : Room k X.A) (hg : Gl X "sorted") (hm : X.mg "sorted" = none) (ha : PE X e (rB X.K f)) (he : starEach [e] X.env = (false, eval e X.env) :: starEach [] X.env := by rfl) (hpl : (backTo pos (starEach [] X.env)).any (·.1) = false := by rfl) :
    PE X (.Call (.Name "sorted" p) [e] [] pos) (rE X.K (x1 wSorted f)) := ev_c1 (cr_sortedD hr.units) c1_sorted bb_sorted (by decide) (by decide) hg hm ha he hpl
end
end EV

set_option Elab.async false
set_option linter.all false
set_option maxRecDepth 100000
set_option maxHeartbeats 1000000
/-! the combinators' equations, for simp -/
namespace EV
open PySem L2
section
variable {f g h : En → Option W} {fs : En → Option (List D)} {env e1 : En} {F G : SF} {p q : En → Option Bool}
@[simp] theorem q_C (x : D) : xC x env = some (.d x) := rfl
@[simp] theorem q_x1 (c : W → Option W) : x1 c f env = (f env).bind c := rfl
@[simp] theorem q_x2 (c : W → W → Option W) : x2 c f g env = (f env).bind fun x => (g env).bind fun y => c x y := rfl
@[simp] theorem q_B : xB p env = (p env).map bw := rfl
@[simp] theorem q_bw (c : Bool) : bw c = .d (.bool c) := rfl
@[simp] theorem q_t2 (c : W → W → Option Bool) : t2 c f g env = (f env).bind fun x => (g env).bind fun y => c x y := rfl
@[simp] theorem q_tV : tV f env = (f env).bind tru := rfl
@[simp] theorem q_tN : tN p env = (p env).map (!·) := rfl
@[simp] theorem q_tA : tA p q env = (p env).bind fun c => if c then q env else some false := rfl
@[simp] theorem q_tO : tO p q env = (p env).bind fun c => if c then some true else q env := rfl
@[simp] theorem q_xIf : xIf p f g env = (p env).bind fun c => if c then f env else g env := rfl
@[simp] theorem q_xA : xA f g env = (f env).bind fun x => (tru x).bind fun c => if c then g env else match x with | .d d => some (.d d) | _ => none := rfl
@[simp] theorem q_xO : xO f g env = (f env).bind fun x => (tru x).bind fun c => if c then (match x with | .d d => some (.d d) | _ => none) else g env := rfl
@[simp] theorem q_aN : aN env = some [] := rfl
@[simp] theorem q_aC : aC f fs env = (f env).bind fun w => (dat w).bind fun d => (fs env).map (d :: ·) := rfl
@[simp] theorem q_tup : xTup fs env = (fs env).bind fun ds => if ds.length ≤ 16777216 then some (.d (.tuple ds)) else none := rfl
@[simp] theorem q_lst : xLst fs env = (fs env).bind fun ds => if ds.length ≤ 16777216 then some (.o (.lst ds)) else none := rfl
@[simp] theorem q_call (n : Nat) (φ : List D → Option W) : xCall n φ fs env = (fs env).bind fun ds => if ds.length = n then φ ds else none := rfl
@[simp] theorem q_rd (i : Nat) : xRd i env = (env[i]?).join := rfl
/-- an escaping read of data -/
@[simp] theorem q_var (i : Nat) : xVar i env = (env[i]?).join.bind fun w => match w with | .d x => some (.d x) | _ => none := by
  unfold xVar
  cases env[i]? with
  | none => rfl
  | some o => cases o with
    | none => rfl
    | some w => cases w <;> rfl
@[simp] theorem q_pY : pY env = some true := rfl
@[simp] theorem q_pN : pN env = some none := rfl
@[simp] theorem q_pS : pS f env = (f env).bind fun w => (wI w).map some := rfl
@[simp] theorem q_sl (l h : En → Option (Option Int)) : xSl f l h env = (f env).bind fun w => (l env).bind fun lo => (h env).bind fun hi => wSl w lo hi := rfl
@[simp] theorem q_wI (i : Int) : wI (.d (.int i)) = some i := rfl
@[simp] theorem q_iS : iS f env = (f env).bind fun w => (dat w).bind seqD := rfl
@[simp] theorem q_iB : iB f env = (f env).bind asS := rfl
theorem rgB_nat {n : Nat} (h : n < 4000000000000000000) : rgB (n : Int) = true := rgB_of (by omega)
@[simp] theorem q_iR1 : iR1 f env = (f env).bind fun w => (wI w).bind fun j => if rgB j then some (intsD 0 j.toNat) else none := rfl
@[simp] theorem q_iR2 : iR2 f g env = (f env).bind fun v => (g env).bind fun w => (wI v).bind fun i => (wI w).bind fun j => if rgB i && rgB j then some (intsD i (j - i).toNat) else none := rfl
@[simp] theorem q_iEn : iEn f env = (f env).bind fun w => ((dat w).bind seqD).map enD := rfl
@[simp] theorem q_iZp : iZp f g env = (f env).bind fun v => (g env).bind fun w => (dat v).bind fun x => (dat w).bind fun y => zpW x y := rfl
@[simp] theorem q_iRv : iRv f env = (f env).bind fun w => ((dat w).bind seqD).map List.reverse := rfl
/-! values -/
@[simp] theorem v_add (i j : Int) : wAdd (.d (.int i)) (.d (.int j)) = some (.d (.int (i + j))) := rfl
@[simp] theorem v_addT (xs ys : List D) : wAdd (.d (.tuple xs)) (.d (.tuple ys)) = if xs.length + ys.length ≤ 16777216 then some (.d (.tuple (xs ++ ys))) else none := rfl
@[simp] theorem v_addoo (xs ys : List D) : wAdd (.o (.lst xs)) (.o (.lst ys)) = if xs.length + ys.length ≤ 16777216 then some (.o (.lst (xs ++ ys))) else none := rfl
@[simp] theorem v_adddo (xs ys : List D) : wAdd (.d (.list xs)) (.o (.lst ys)) = if xs.length + ys.length ≤ 16777216 then some (.o (.lst (xs ++ ys))) else none := rfl
@[simp] theorem v_addod (xs ys : List D) : wAdd (.o (.lst xs)) (.d (.list ys)) = if xs.length + ys.length ≤ 16777216 then some (.o (.lst (xs ++ ys))) else none := rfl
@[simp] theorem v_adddd (xs ys : List D) : wAdd (.d (.list xs)) (.d (.list ys)) = if xs.length + ys.length ≤ 16777216 then some (.o (.lst (xs ++ ys))) else none := rfl
@[simp] theorem v_int (F : Int → Int → Int) (i j : Int) : wInt F (.d (.int i)) (.d (.int j)) = some (.d (.int (F i j))) := rfl
@[simp] theorem v_intC (C : Int → Int → Bool) (F : Int → Int → Int) (i j : Int) : wIntC C F (.d (.int i)) (.d (.int j)) = if C i j then some (.d (.int (F i j))) else none := rfl
@[simp] theorem v_mul (i j : Int) : wMul (.d (.int i)) (.d (.int j)) = if mulOk i j then some (.d (.int (i * j))) else none := rfl
@[simp] theorem v_mulL (xs : List D) (k : Int) : wMul (.o (.lst xs)) (.d (.int k)) = if k < 16777216 ∧ -16777216 ≤ k ∧ xs.length * k.toNat ≤ 16777216 then some (.o (.lst (List.replicate k.toNat xs).flatten)) else none := by
  have p24 : (2 : Int) ^ 24 = 16777216 := by decide +kernel
  unfold wMul
  simp only [p24]
@[simp] theorem v_neg (i : Int) : wNeg (.d (.int i)) = some (.d (.int (-i))) := rfl
@[simp] theorem v_inv (i : Int) : wInv (.d (.int i)) = some (.d (.int (Builtin.bitNot i))) := rfl
@[simp] theorem v_abs (i : Int) : wAbs (.d (.int i)) = some (.d (.int i.natAbs)) := rfl
@[simp] theorem v_toI (i : Int) : wToI (.d (.int i)) = some (.d (.int i)) := rfl
@[simp] theorem v_toIb (b : Bool) : wToI (.d (.bool b)) = some (.d (.int (if b then 1 else 0))) := rfl
@[simp] theorem v_toLt (xs : List D) : wToL (.d (.tuple xs)) = some (.o (.lst xs)) := rfl
@[simp] theorem v_toLd (xs : List D) : wToL (.d (.list xs)) = some (.o (.lst xs)) := rfl
@[simp] theorem v_toLo (xs : List D) : wToL (.o (.lst xs)) = some (.o (.lst xs)) := rfl
@[simp] theorem v_toTt (xs : List D) : wToT (.d (.tuple xs)) = some (.d (.tuple xs)) := rfl
@[simp] theorem v_toTd (xs : List D) : wToT (.d (.list xs)) = some (.d (.tuple xs)) := rfl
@[simp] theorem v_toTo (xs : List D) : wToT (.o (.lst xs)) = some (.d (.tuple xs)) := rfl
@[simp] theorem v_lenT (xs : List D) : wLen (.d (.tuple xs)) = some (.d (.int xs.length)) := rfl
@[simp] theorem v_lenL (xs : List D) : wLen (.d (.list xs)) = some (.d (.int xs.length)) := rfl
@[simp] theorem v_lenO (xs : List D) : wLen (.o (.lst xs)) = some (.d (.int xs.length)) := rfl
@[simp] theorem v_ixT (xs : List D) (i : Int) : wIx (.d (.tuple xs)) (.d (.int i)) = (atI xs i).map .d := rfl
@[simp] theorem v_ixL (xs : List D) (i : Int) : wIx (.d (.list xs)) (.d (.int i)) = (atI xs i).map .d := rfl
@[simp] theorem v_ixO (xs : List D) (i : Int) : wIx (.o (.lst xs)) (.d (.int i)) = (atI xs i).map .d := rfl
@[simp] theorem v_slT (xs : List D) (l h : Option Int) : wSl (.d (.tuple xs)) l h = some (.d (.tuple (cutD xs l h))) := rfl
@[simp] theorem v_slL (xs : List D) (l h : Option Int) : wSl (.d (.list xs)) l h = some (.o (.lst (cutD xs l h))) := rfl
@[simp] theorem v_slO (xs : List D) (l h : Option Int) : wSl (.o (.lst xs)) l h = some (.o (.lst (cutD xs l h))) := rfl
@[simp] theorem v_max2 (i j : Int) : wMax2 (.d (.int i)) (.d (.int j)) = some (.d (.int (max i j))) := rfl
@[simp] theorem v_min2 (i j : Int) : wMin2 (.d (.int i)) (.d (.int j)) = some (.d (.int (min i j))) := rfl
@[simp] theorem v_cInt (F : Int → Int → Bool) (i j : Int) : cInt F (.d (.int i)) (.d (.int j)) = some (F i j) := rfl
@[simp] theorem v_cLt (i j : Int) : cLt (.d (.int i)) (.d (.int j)) = some (decide (i < j)) := rfl
@[simp] theorem v_cEq (i j : Int) : cEq (.d (.int i)) (.d (.int j)) = some (i == j) := rfl
@[simp] theorem v_cNe (i j : Int) : cNe (.d (.int i)) (.d (.int j)) = some (!(i == j)) := rfl
@[simp] theorem v_cEqB (i j : Bool) : cEq (.d (.bool i)) (.d (.bool j)) = some (i == j) := rfl
@[simp] theorem v_cNeB (i j : Bool) : cNe (.d (.bool i)) (.d (.bool j)) = some (!(i == j)) := rfl
@[simp] theorem v_cIsN (x : W) : cIs x (.d .none) = some (isN x) := rfl
@[simp] theorem v_cIsNotN (x : W) : cIsNot x (.d .none) = some (!isN x) := rfl
@[simp] theorem v_isN_int (i : Int) : isN (.d (.int i)) = false := rfl
@[simp] theorem v_isN_bool (i : Bool) : isN (.d (.bool i)) = false := rfl
@[simp] theorem v_isN_tuple (i : List D) : isN (.d (.tuple i)) = false := rfl
@[simp] theorem v_isN_list (i : List D) : isN (.d (.list i)) = false := rfl
@[simp] theorem v_isN_o (i : Ob) : isN (.o i) = false := rfl
@[simp] theorem v_isN_none : isN (.d .none) = true := rfl
@[simp] theorem v_tru_int (i : Int) : tru (.d (.int i)) = some (i != 0) := rfl
@[simp] theorem v_tru_bool (i : Bool) : tru (.d (.bool i)) = some i := rfl
@[simp] theorem v_tru_none : tru (.d .none) = some false := rfl
@[simp] theorem v_tru_tuple (xs : List D) : tru (.d (.tuple xs)) = some (!xs.isEmpty) := rfl
@[simp] theorem v_tru_list (xs : List D) : tru (.d (.list xs)) = some (!xs.isEmpty) := rfl
@[simp] theorem v_tru_o (xs : List D) : tru (.o (.lst xs)) = some (!xs.isEmpty) := rfl
/-! statements -/
@[simp] theorem s_nil : sNil env = some (.nx, env) := rfl
@[simp] theorem s_pass : sPass env = some (.nx, env) := rfl
@[simp] theorem s_brk : sBrk env = some (.bk, env) := rfl
@[simp] theorem s_cnt : sCnt env = some (.ct, env) := rfl
@[simp] theorem s_seq : sSeq F G env = (F env).bind fun r => match r with | (.nx, e1) => G e1 | r => some r := rfl
@[simp] theorem s_set (i : Nat) : sSet i f env = (f env).map fun w => (.nx, env.set i (some w)) := rfl
@[simp] theorem s_par (i j : Nat) : sPar i j f g env = (f env).bind fun v => (g env).map fun w => (.nx, (env.set i (some v)).set j (some w)) := rfl
@[simp] theorem s_asg (t : D → En → Option En) : sAsg f t env = (f env).bind fun w => (dat w).bind fun d => (t d env).map fun e1 => (.nx, e1) := rfl
@[simp] theorem s_gN (i : Nat) (d : D) : gN i d env = some (env.set i (some (.d d))) := rfl
@[simp] theorem s_gT (n : Nat) (ts : List D → En → Option En) (ds : List D) : gT n ts (.tuple ds) env = if ds.length = n then ts ds env else none := rfl
@[simp] theorem s_gsN : gsN [] env = some env := rfl
@[simp] theorem s_gsC (t : D → En → Option En) (ts : List D → En → Option En) (d : D) (r : List D) : gsC t ts (d :: r) env = (t d env).bind fun e1 => ts r e1 := rfl
@[simp] theorem s_ret : sRet f env = (f env).map fun w => (.rt w, env) := rfl
@[simp] theorem s_if : sIf p F G env = (p env).bind fun c => if c then F env else G env := rfl
@[simp] theorem s_kill (is : List Nat) : sKill is F env = (F env).map fun r => (r.1, killAt is r.2) := rfl
@[simp] theorem s_killN : killAt [] env = env := rfl
@[simp] theorem s_killC (i : Nat) (is : List Nat) : killAt (i :: is) env = killAt is (env.set i none) := rfl
@[simp] theorem s_frz (i : Nat) : sFrz i F env = F (frzAt i env) := rfl
@[simp] theorem s_app (i : Nat) : sApp i f env = (f env).bind fun w => (dat w).bind fun d => (lstAt i env).bind fun xs => if xs.length < 16777216 then some (.nx, putL i (xs ++ [d]) env) else none := rfl
@[simp] theorem s_ext (i : Nat) : sExt i f env = (f env).bind fun w => (wOL w).bind fun ds => (lstAt i env).bind fun xs => if xs.length + ds.length ≤ 16777216 then some (.nx, putL i (xs ++ ds) env) else none := rfl
@[simp] theorem s_wOL (xs : List D) : wOL (.o (.lst xs)) = some xs := rfl
@[simp] theorem s_store (i : Nat) : sStore i f g env = (f env).bind fun w => (dat w).bind fun d => (g env).bind fun v => (wI v).bind fun k => (lstAt i env).bind fun xs => (ixN xs.length k).map fun j => (.nx, putL i (xs.set j d) env) := rfl
@[simp] theorem s_aug (i : Nat) (c : W → W → Option W) : sAug i c f env = (xRd i env).bind fun x => (f env).bind fun y => (c x y).map fun w => (.nx, env.set i (some w)) := rfl
@[simp] theorem s_expr : sExpr f env = (f env).map fun _ => (.nx, env) := rfl
@[simp] theorem s_putL (i : Nat) (xs : List D) : putL i xs env = env.set i (some (.o (.lst xs))) := rfl
@[simp] theorem s_frzAt (i : Nat) : frzAt i env = match env[i]? with | some (some (.o (.lst xs))) => env.set i (some (.d (.list xs))) | _ => env := rfl
@[simp] theorem s_lstAt (i : Nat) : lstAt i env = match env[i]? with | some (some (.o (.lst xs))) => some xs | _ => none := rfl
@[simp] theorem s_for (src : En → Option (List D)) (t : D → En → Option En) : sFor src t F env = (src env).bind fun xs => forL t F xs env := rfl
@[simp] theorem s_run (n : Nat) (ds : List D) : runF n F ds = match F (ds.map (fun d => some (.d d)) ++ List.replicate (n - ds.length) none) with | some (.nx, _) => some (.d .none) | some (.rt w, _) => some w | _ => none := rfl
@[simp] theorem s_lc (vs : List Nat) (src : En → Option (List D)) (t : D → En → Option En) : xLc vs src t p f env = (src env).bind fun xs => if xs.length ≤ 16777216 then (lcL t p f xs (wipeE env vs)).map fun ds => .o (.lst ds) else none := rfl
@[simp] theorem s_wipeN : wipeE env [] = env := rfl
@[simp] theorem s_wipeC (v : Nat) (vs : List Nat) : wipeE env (v :: vs) = (wipeE env vs).set v none := rfl
end
/-! guards -/
@[simp] theorem intsD_length (lo : Int) (n : Nat) : (intsD lo n).length = n := intsD_len lo n
theorem mulOk_l {i j : Int} (h : i.natAbs < 2 ^ 64) : mulOk i j = true := by unfold mulOk; simp [h]
theorem mulOk_r {i j : Int} (h : j.natAbs < 2 ^ 64) : mulOk i j = true := by unfold mulOk; simp [h]
theorem log2_lt {n k : Nat} (h : n < 2 ^ k) (h0 : 0 < k) : n.log2 < k := PySem.Flt.log2_lt_of h0 h
theorem mulOk_w {i j : Int} {a b : Nat} (ha : i.natAbs < 2 ^ a) (hb : j.natAbs < 2 ^ b) (h0 : 0 < a) (h1 : 0 < b) (h : a + b ≤ 1000000) : mulOk i j = true := by
  have x := log2_lt ha h0
  have y := log2_lt hb h1
  unfold mulOk
  simp only [Bool.or_eq_true, decide_eq_true_eq]
  left; omega
theorem fdOk_pos {i j : Int} (h : 0 < j) (hb : j.natAbs < 2 ^ 9000) : fdOk i j = true := by
  have x := log2_lt hb (by omega)
  unfold fdOk
  simp [h, x]
theorem atI_nat {xs : List D} {i : Int} {k : Nat} (h0 : i = (k : Nat)) : atI xs i = xs[k]? := by
  subst h0
  unfold atI ixN
  by_cases hk : k < xs.length
  · simp [hk]
  · simp [hk, List.getElem?_eq_none (Nat.le_of_not_lt hk)]
@[simp] theorem atI_lit (xs : List D) (k : Nat) : atI xs (no_index (@OfNat.ofNat Int k instOfNat)) = xs[k]? := atI_nat rfl
@[simp] theorem atI_cast (xs : List D) (k : Nat) : atI xs (k : Int) = xs[k]? := atI_nat rfl
theorem atI_neg1 (xs : List D) (x : D) : atI (xs ++ [x]) (-1) = some x := by
  unfold atI ixN
  have : -((xs ++ [x]).length : Int) ≤ -1 := by simp; omega
  rw [if_neg (by omega), if_pos this]
  have e : (-1 + ((xs ++ [x]).length : Int)).toNat = xs.length := by simp; omega
  show (xs ++ [x])[(-1 + ((xs ++ [x]).length : Int)).toNat]? = some x
  rw [e]
  simp
/-! loops -/
def turn (t : D → En → Option En) (F : SF) (x : D) (env : En) : Option (Fl × En) := (t x env).bind F
theorem forL_cons (t : D → En → Option En) (F : SF) (x : D) (xs : List D) (env : En) : forL t F (x :: xs) env = (turn t F x env).bind fun r => match r with
    | (.nx, e2) => forL t F xs e2 | (.ct, e2) => forL t F xs e2 | (.bk, e2) => some (.nx, e2) | (.rt w, e2) => some (.rt w, e2) := by
  show ((t x env).bind fun e1 => (F e1).bind _) = ((t x env).bind F).bind _
  cases t x env <;> rfl
@[simp] theorem forL_nil (t : D → En → Option En) (F : SF) (env : En) : forL t F [] env = some (.nx, env) := rfl
/-- all turns go on: st i is what stands ahead of the i-th turn -/
theorem forL_all {t : D → En → Option En} {F : SF} : ∀ (xs : List D) (st : Nat → En), (∀ i x, xs[i]? = some x → turn t F x (st i) = some (.nx, st (i + 1))) → forL t F xs (st 0) = some (.nx, st xs.length)
  | [], _, _ => rfl
  | x :: xs, st, h => by
    rw [forL_cons, h 0 x rfl]
    show forL t F xs (st 1) = _
    have := forL_all xs (fun i => st (i + 1)) fun i y e => h (i + 1) y (by simpa using e)
    simpa using this
/-- the turns below k go on, the k-th returns -/
theorem forL_ret {t : D → En → Option En} {F : SF} {w : W} {e' : En} : ∀ (xs : List D) (st : Nat → En) (k : Nat) (y : D), xs[k]? = some y → (∀ i x, i < k → xs[i]? = some x → turn t F x (st i) = some (.nx, st (i + 1))) → turn t F y (st k) = some (.rt w, e') → forL t F xs (st 0) = some (.rt w, e')
  | [], _, k, y, hk, _, _ => by simp at hk
  | x :: xs, st, 0, y, hk, _, hr => by
    simp at hk
    subst hk
    rw [forL_cons, hr]; rfl
  | x :: xs, st, k + 1, y, hk, h, hr => by
    rw [forL_cons, h 0 x (by omega) rfl]
    show forL t F xs (st 1) = _
    exact forL_ret xs (fun i => st (i + 1)) k y (by simpa using hk) (fun i z hi e => h (i + 1) z (by omega) (by simpa using e)) hr
/-- a loop by what holds between the turns -/
theorem forL_inv {t : D → En → Option En} {F : SF} : ∀ (xs : List D) (P : Nat → En → Prop) (env : En), P 0 env → (∀ (i : Nat) (x : D) (env : En), xs[i]? = some x → P i env → ∃ env', turn t F x env = some (.nx, env') ∧ P (i + 1) env') → ∃ env', forL t F xs env = some (.nx, env') ∧ P xs.length env'
  | [], _, env, h0, _ => ⟨env, rfl, h0⟩
  | x :: xs, P, env, h0, h => by
    obtain ⟨e1, h1, h2⟩ := h 0 x env rfl h0
    obtain ⟨e2, h3, h4⟩ := forL_inv xs (fun i => P (i + 1)) e1 h2 fun i y e hy p => h (i + 1) y e (by simpa using hy) p
    refine ⟨e2, ?_, by simpa using h4⟩
    rw [forL_cons, h1]
    exact h3
theorem intsD_get {lo : Int} {n i : Nat} {x : D} (h : (intsD lo n)[i]? = some x) : i < n ∧ x = .int (lo + (i : Nat)) := by
  have hi : i < n := by
    have := (List.getElem?_eq_some_iff.mp h).1
    simpa using this
  simp [intsD, hi] at h
  exact ⟨hi, h.symm⟩
theorem forL_intsI {t : D → En → Option En} {F : SF} {lo : Int} {n : Nat} (P : Nat → En → Prop) (env : En) (h0 : P 0 env) (h : ∀ (i : Nat) (env : En), i < n → P i env → ∃ env', turn t F (.int (lo + (i : Nat))) env = some (.nx, env') ∧ P (i + 1) env') : ∃ env', forL t F (intsD lo n) env = some (.nx, env') ∧ P n env' := by
  have := forL_inv (intsD lo n) P env h0 fun i x e hx p => by
    obtain ⟨hi, rfl⟩ := intsD_get hx
    exact h i e hi p
  simpa using this
theorem forL_ints {t : D → En → Option En} {F : SF} {lo : Int} {n : Nat} (st : Nat → En) (h : ∀ i : Nat, i < n → turn t F (.int (lo + (i : Nat))) (st i) = some (.nx, st (i + 1))) : forL t F (intsD lo n) (st 0) = some (.nx, st n) := by
  have := forL_all (intsD lo n) st fun i x e => by
    obtain ⟨hi, rfl⟩ := intsD_get e
    exact h i hi
  simpa using this
/-- the comprehension: each item as told -/
theorem lcL_all {t : D → En → Option En} {f : En → Option W} {env : En} (φ : D → D) : ∀ (xs : List D), (∀ x ∈ xs, ((t x env).bind f).bind dat = some (φ x)) → lcL t pY f xs env = some (xs.map φ)
  | [], _ => rfl
  | x :: xs, h => by
    have h0 := h x (by simp)
    have h1 := lcL_all φ xs fun y hy => h y (by simp [hy])
    obtain ⟨w, e1, e2⟩ := Option.bind_eq_some_iff.mp h0
    obtain ⟨e, e3, e4⟩ := Option.bind_eq_some_iff.mp e1
    unfold lcL
    simp [e3, e4, e2, h1]
theorem lcL_filter {t : D → En → Option En} {p : En → Option Bool} {f : En → Option W} {env : En} (φ : D → D) (π : D → Bool) : ∀ (xs : List D), (∀ x ∈ xs, (t x env).bind p = some (π x) ∧ (π x = true → ((t x env).bind f).bind dat = some (φ x))) → lcL t p f xs env = some ((xs.filter π).map φ)
  | [], _ => rfl
  | x :: xs, h => by
    obtain ⟨h0, h00⟩ := h x (by simp)
    have h1 := lcL_filter φ π xs fun y hy => h y (by simp [hy])
    obtain ⟨e, e1, e2⟩ := Option.bind_eq_some_iff.mp h0
    unfold lcL
    cases hp : π x with
    | false =>
      rw [hp] at e2
      simp [e1, e2, h1, hp]
    | true =>
      rw [hp] at e2
      obtain ⟨w, e3, e4⟩ := Option.bind_eq_some_iff.mp (h00 hp)
      rw [e1] at e3
      simp at e3
      simp [e1, e2, e3, e4, h1, hp]
/-- while: the state falls -/
theorem whileL_by {S : Type} {p : En → Option Bool} {F : SF} (enc : S → En) (c : S → Bool) (f : S → S) (μ : S → Nat) (P : S → Prop)
    (hp : ∀ s, P s → p (enc s) = some (c s)) (hF : ∀ s, P s → c s = true → F (enc s) = some (.nx, enc (f s)) ∧ P (f s) ∧ μ (f s) < μ s) :
    ∀ (n : Nat) (s : S), P s → μ s < n → ∃ s', whileL p F n (enc s) = some (.nx, enc s') ∧ P s' ∧ c s' = false
  | 0, s, _, h => by omega
  | n + 1, s, hs, h => by
    unfold whileL
    rw [hp s hs]
    cases hc : c s with
    | false => exact ⟨s, by simp, hs, hc⟩
    | true =>
      obtain ⟨h1, h2, h3⟩ := hF s hs hc
      obtain ⟨s', q1, q2, q3⟩ := whileL_by enc c f μ P hp hF n (f s) h2 (by omega)
      exact ⟨s', by simp [h1, q1], q2, q3⟩
end EV

set_option Elab.async false
set_option linter.all false
set_option maxRecDepth 100000
set_option maxHeartbeats 1000000
set_option exponentiation.threshold 20000
/-! what all laws have in common: _law_mixed, _law_row, _law_is_int, _law_like, _law_common, _law_ratio -/
namespace EV
open PySem L2
def C_mixed : SF := sSeq (sSet 2 (xC (.int 0))) (sSeq (sIf (tGt (x1 wLen (xRd 0)) (xC (.int 0))) (sSet 2 (x2 wIx (xRd 0) (xMod (xRd 1) (x1 wLen (xRd 0))))) (sNil)) (sSeq (sSet 3 (xMod (x1 wToI (xAdd (xAdd (xMul (xRd 2) (xC (.int 48271))) (xMul (xRd 1) (xC (.int 69621)))) (xC (.int 8191)))) (xC (.int 2147483647)))) (sSeq (sSet 4 (xMod (x1 wToI (xAdd (xAdd (xMul (xRd 3) (xRd 3)) (xFd (xRd 3) (xC (.int 7)))) (xMul (xRd 1) (xC (.int 16807))))) (xC (.int 2147483629)))) (sSeq (sSet 5 (xMod (x1 wToI (xAdd (xAdd (xMul (xRd 4) (xRd 4)) (xFd (xRd 4) (xC (.int 11)))) (xC (.int 40692)))) (xC (.int 2147483563)))) (sRet (xMod (xFd (xRd 5) (xC (.int 5))) (xC (.int 1000003))))))))
def d_mixed : List D → Option W := runF 6 C_mixed
theorem fmod_bd (a : Int) {m : Int} (h : 0 < m) : 0 ≤ a.fmod m ∧ a.fmod m < m := ⟨Int.fmod_nonneg_of_pos a h, Int.fmod_lt_of_pos a h⟩
theorem fdOk_lit {i j : Int} (h : 0 < j) (hb : j < 2 ^ 64) : fdOk i j = true := fdOk_pos h (Nat.lt_of_lt_of_le (show j.natAbs < 2 ^ 64 by omega) (Nat.pow_le_pow_right (by omega) (by omega)))
theorem mixed_ok (ns : List Int) (k : Nat) (hk : k < 1000000) : ∃ v : Int, d_mixed [.list (ns.map .int), .int k] = some (.d (.int v)) ∧ 0 ≤ v ∧ v < 1000003 := by
  have hm1 : ∀ c : Int, mulOk c 48271 = true := fun c => mulOk_r (by decide)
  have hm2 : ∀ c : Int, mulOk c 69621 = true := fun c => mulOk_r (by decide)
  have hm3 : ∀ c : Int, mulOk c 16807 = true := fun c => mulOk_r (by decide)
  have hd1 : ∀ c : Int, fdOk c 7 = true := fun c => fdOk_lit (by decide) (by decide)
  have hd2 : ∀ c : Int, fdOk c 11 = true := fun c => fdOk_lit (by decide) (by decide)
  have hd3 : ∀ c : Int, fdOk c 5 = true := fun c => fdOk_lit (by decide) (by decide)
  have hs1 : ∀ c : Int, mulOk (c.fmod 2147483647) (c.fmod 2147483647) = true := fun c => mulOk_r (by have := fmod_bd c (m := 2147483647) (by decide); omega)
  have hs2 : ∀ c : Int, mulOk (c.fmod 2147483629) (c.fmod 2147483629) = true := fun c => mulOk_r (by have := fmod_bd c (m := 2147483629) (by decide); omega)
  unfold d_mixed C_mixed
  cases ns with
  | nil =>
    simp [hm1, hm2, hm3, hd1, hd2, hd3, hs1, hs2]
    exact fmod_bd _ (m := 1000003) (by decide)
  | cons n ns =>
    have hlen : ((k : Int).fmod ((ns.length : Int) + 1)) = ((k % (ns.length + 1) : Nat) : Int) := by
      rw [Int.fmod_eq_emod_of_nonneg _ (by omega)]
      rfl
    have hlt : k % (ns.length + 1) < ((n :: ns).map PyData.int).length := by
      simpa using Nat.mod_lt k (by omega)
    have hpos : (0 : Int) < (ns.length : Int) + 1 := by omega
    have hne : ¬ ((ns.length : Int) + 1 = 0) := by omega
    have hget : ∃ c : Int, ((n :: ns).map PyData.int)[k % (ns.length + 1)]? = some (.int c) := by
      rw [List.getElem?_map]
      have hlt2 : k % (ns.length + 1) < (n :: ns).length := by simpa using hlt
      exact ⟨_, by rw [List.getElem?_eq_getElem hlt2]; rfl⟩
    obtain ⟨c, hc⟩ := hget
    simp only [List.map_cons] at hc
    have hat : atI (PyData.int n :: ns.map PyData.int) ((k : Int).fmod ((ns.length : Int) + 1)) = some (.int c) := by rw [hlen, atI_cast]; exact hc
    simp [hpos, hne, hat, hm1, hm2, hm3, hd1, hd2, hd3, hs1, hs2]
    exact fmod_bd _ (m := 1000003) (by decide)
def C_row : SF := sSeq (sSet 2 (xC (.int 0))) (sSeq (sIf (tA (tGt (x1 wLen (xRd 0)) (xC (.int 0))) (tGe (x2 wIx (xRd 0) (xC (.int 0))) (xPow (xC (.int 10)) (xC (.int 18))))) (sSet 2 (x2 wIx (xRd 0) (xC (.int 0)))) (sNil)) (sSeq (sSet 3 (xLst (aN))) (sSeq (sKill [2, 4] (sFor (iR1 (xRd 1)) (gN 4) (sKill [4] (sIf (tGt (xRd 2) (xC (.int 0))) (sSeq (sApp 3 (xMod (x1 wToI (xRd 2)) (xC (.int 1000)))) (sSet 2 (xFd (xRd 2) (xC (.int 1000))))) (sApp 3 (xCall 2 d_mixed (aC (xVar 0) (aC (xVar 4) (aN))))))))) (sRet (xRd 3)))))
def d_row : List D → Option W := runF 5 C_row
theorem pow1018 : powOk 10 18 = true := by decide +kernel
theorem row_ok (ns : List Int) (many : Nat) (hm : many < 1000000) : ∃ vs : List Int, d_row [.list (ns.map .int), .int many] = some (.o (.lst (vs.map .int))) ∧ vs.length = many ∧ ∀ v ∈ vs, 0 ≤ v ∧ v < 1000003 := by
  unfold d_row C_row
  have hd : ∀ c : Int, fdOk c 1000 = true := fun c => fdOk_lit (by decide) (by decide)
  have loop := fun big : Int => forL_intsI (t := gN 4) (F := sKill [4] (sIf (tGt (xRd 2) (xC (.int 0))) (sSeq (sApp 3 (xMod (x1 wToI (xRd 2)) (xC (.int 1000)))) (sSet 2 (xFd (xRd 2) (xC (.int 1000))))) (sApp 3 (xCall 2 d_mixed (aC (xVar 0) (aC (xVar 4) (aN))))))) (lo := 0) (n := many)
    (fun i env => ∃ (b : Int) (vs : List Int), env = [some (.d (.list (ns.map .int))), some (.d (.int many)), some (.d (.int b)), some (.o (.lst (vs.map .int))), none] ∧ vs.length = i ∧ ∀ v ∈ vs, 0 ≤ v ∧ v < 1000003)
    [some (.d (.list (ns.map .int))), some (.d (.int many)), some (.d (.int big)), some (.o (.lst [])), none] ⟨big, [], rfl, rfl, by simp⟩ fun i env hi ⟨b, vs, e, hl, hv⟩ => by
      subst e
      have hlen : vs.length < 16777216 := by omega
      obtain ⟨v, h1, h2⟩ := mixed_ok ns i (by omega)
      by_cases hb : 0 < b
      · refine ⟨_, ?_, b.fdiv 1000, vs ++ [b.fmod 1000], rfl, by simp [hl], ?_⟩
        · simp [turn, hb, hlen, hd]
        · intro v hv2
          rcases List.mem_append.mp hv2 with q | q
          · exact hv v q
          · have e : v = b.fmod 1000 := by simpa using q
            have := fmod_bd b (m := 1000) (by decide)
            rw [e]; omega
      · refine ⟨_, ?_, b, vs ++ [v], rfl, by simp [hl], ?_⟩
        · simp [turn, hb, hlen, h1]
        · intro v' hv2
          rcases List.mem_append.mp hv2 with q | q
          · exact hv v' q
          · have e : v' = v := by simpa using q
            rw [e]; exact h2
  have hmany : rgB (many : Int) = true := rgB_nat (by omega)
  have hp := pow1018
  cases ns with
  | nil =>
    obtain ⟨e, h1, b, vs, rfl, h2, h3⟩ := loop 0
    exact ⟨vs, by simp at h1; simp [hmany, h1], h2, h3⟩
  | cons n ns =>
    have hpos : (0 : Int) < (ns.length : Int) + 1 := by omega
    by_cases hb : (10 : Int) ^ 18 ≤ n
    · obtain ⟨e, h1, b, vs, rfl, h2, h3⟩ := loop n
      exact ⟨vs, by simp at h1 hb; simp [hmany, hpos, hp, hb, h1], h2, h3⟩
    · obtain ⟨e, h1, b, vs, rfl, h2, h3⟩ := loop 0
      exact ⟨vs, by simp at h1 hb; simp [hmany, hpos, hp, Int.not_le.mpr hb, h1], h2, h3⟩
def C_is_int : SF := sRet (xA (x1 (wIsi "int") (xRd 0)) (xB (tN (tV (x1 (wIsi "bool") (xRd 0))))))
def d_is_int : List D → Option W := runF 1 C_is_int
def C_like (φ : List D → Option W) : SF := sSeq (sIf (tIs (xRd 1) (xC .none)) (sRet (xB (tIs (xRd 0) (xC .none)))) (sNil)) (sSeq (sIf (tV (x1 (wIsi "bool") (xRd 1))) (sRet (xA (x1 (wIsi "bool") (xRd 0)) (xB (tEq (xRd 0) (xRd 1))))) (sNil)) (sSeq (sIf (tV (x1 (wIsi "tuple") (xRd 1))) (sSeq (sIf (tO (tN (tV (x1 (wIsi "tuple") (xRd 0)))) (tNe (x1 wLen (xRd 0)) (x1 wLen (xRd 1)))) (sRet (xC (.bool false))) (sNil)) (sRet (x1 wAll (xLc [2] (iR1 (x1 wLen (xRd 1))) (gN 2) (pY) (xCall 2 φ (aC (x2 wIx (xRd 0) (xRd 2)) (aC (x2 wIx (xRd 1) (xRd 2)) (aN)))))))) (sNil)) (sSeq (sIf (tV (x1 (wIsi "str") (xRd 1))) (sRet (xA (x1 (wIsi "str") (xRd 0)) (xB (tEq (xRd 0) (xRd 1))))) (sNil)) (sRet (xA (xCall 1 d_is_int (aC (xVar 0) (aN))) (xB (tEq (xRd 0) (xRd 1))))))))
def dr_like : Nat → List D → Option W
  | 0 => fun _ => none
  | n + 1 => runF 3 (C_like (dr_like n))
def d_like : List D → Option W := dr_like 12
/-- data without lists, texts of a sane size, at most n deep -/
def flatD : Nat → D → Bool
  | 0, _ => false
  | n + 1, .tuple xs => decide (xs.length ≤ 16777216) && xs.all (flatD n)
  | _ + 1, .none => true
  | _ + 1, .bool _ => true
  | _ + 1, .int _ => true
  | _ + 1, _ => false
@[simp] theorem k_ii : kitB "int" "int" = some true := by decide +kernel
@[simp] theorem k_ib : kitB "int" "bool" = some false := by decide +kernel
@[simp] theorem k_it : kitB "int" "tuple" = some false := by decide +kernel
@[simp] theorem k_is : kitB "int" "str" = some false := by decide +kernel
@[simp] theorem k_il : kitB "int" "list" = some false := by decide +kernel
@[simp] theorem k_bi : kitB "bool" "int" = some true := by decide +kernel
@[simp] theorem k_bb : kitB "bool" "bool" = some true := by decide +kernel
@[simp] theorem k_bt : kitB "bool" "tuple" = some false := by decide +kernel
@[simp] theorem k_bs : kitB "bool" "str" = some false := by decide +kernel
@[simp] theorem k_ti : kitB "tuple" "int" = some false := by decide +kernel
@[simp] theorem k_tb : kitB "tuple" "bool" = some false := by decide +kernel
@[simp] theorem k_tt : kitB "tuple" "tuple" = some true := by decide +kernel
@[simp] theorem k_ts : kitB "tuple" "str" = some false := by decide +kernel
@[simp] theorem k_tl : kitB "tuple" "list" = some false := by decide +kernel
@[simp] theorem k_ni : kitB "NoneType" "int" = some false := by decide +kernel
@[simp] theorem k_nb : kitB "NoneType" "bool" = some false := by decide +kernel
@[simp] theorem k_nt : kitB "NoneType" "tuple" = some false := by decide +kernel
@[simp] theorem k_ns : kitB "NoneType" "str" = some false := by decide +kernel
@[simp] theorem k_ss : kitB "str" "str" = some true := by decide +kernel
@[simp] theorem k_sb : kitB "str" "bool" = some false := by decide +kernel
@[simp] theorem k_si : kitB "str" "int" = some false := by decide +kernel
@[simp] theorem k_st : kitB "str" "tuple" = some false := by decide +kernel
@[simp] theorem q_isi (T : String) (w : W) : wIsi T w = (tyW w).bind fun t => (kitB t T).map fun b => .d (.bool b) := rfl
@[simp] theorem q_tyi (i : Int) : tyW (.d (.int i)) = some "int" := rfl
@[simp] theorem q_tyb (i : Bool) : tyW (.d (.bool i)) = some "bool" := rfl
@[simp] theorem q_tyt (i : List D) : tyW (.d (.tuple i)) = some "tuple" := rfl
@[simp] theorem q_tyn : tyW (.d .none) = some "NoneType" := rfl
@[simp] theorem q_tys (x : Str) : tyW (.d (.str x)) = some "str" := rfl
theorem asBls_rep : ∀ n : Nat, asBls (List.replicate n (.bool true)) = some (List.replicate n true)
  | 0 => rfl
  | n + 1 => by simp [List.replicate_succ, asBls, asBls_rep n]
theorem is_int_ok (i : Int) : d_is_int [.int i] = some (.d (.bool true)) := by simp [d_is_int, C_is_int]
theorem like_ok (n : Nat) : ∀ (d : D), flatD n d = true → dr_like n [d, d] = some (.d (.bool true)) := by
  induction n with
  | zero => intro d h; simp [flatD] at h
  | succ n ih =>
    intro d h
    unfold dr_like C_like
    cases d with
    | none => simp
    | bool b => simp
    | int i => simp [is_int_ok]
    | str s => simp [flatD] at h
    | list xs => simp [flatD] at h
    | dict k => simp [flatD] at h
    | tuple xs =>
      simp only [flatD, Bool.and_eq_true, decide_eq_true_eq, List.all_eq_true] at h
      have hl : rgB (xs.length : Int) = true := rgB_nat (by omega)
      have key : lcL (gN 2) pY (xCall 2 (dr_like n) (aC (x2 wIx (xRd 0) (xRd 2)) (aC (x2 wIx (xRd 1) (xRd 2)) aN))) (intsD 0 xs.length) [some (.d (.tuple xs)), some (.d (.tuple xs)), none] = some ((intsD 0 xs.length).map fun _ => .bool true) := by
        refine lcL_all _ _ fun x hx => ?_
        obtain ⟨i, hi⟩ := List.getElem?_of_mem hx
        obtain ⟨h1, rfl⟩ := intsD_get hi
        have h2 : xs[i]? = some xs[i] := by simp [h1]
        have h3 := ih xs[i] (h.2 _ (List.getElem_mem h1))
        simp [h2, h3]
      have e : (intsD 0 xs.length).map (fun _ => PyData.bool true) = List.replicate xs.length (.bool true) := by
        rw [List.map_const', intsD_length]
      rw [e] at key
      simp [hl, h.1, key, wAll, asBls_rep]
end EV

set_option Elab.async false
set_option linter.all false
set_option maxRecDepth 100000
set_option maxHeartbeats 1000000
set_option exponentiation.threshold 2000000
/-! the greatest common divisor and the lowest terms -/
namespace EV
open PySem L2
theorem log2_dbl {x y : Nat} (h0 : 0 < x) (h : 2 * x ≤ y) : x.log2 < y.log2 := by
  have h1 : 2 ^ x.log2 ≤ x := Nat.log2_self_le (by omega)
  have h2 : 2 ^ (x.log2 + 1) ≤ y := by rw [Nat.pow_succ]; omega
  exact (Nat.le_log2 (by omega)).mpr h2
def gMu (s : Nat × Nat) : Nat := if s.2 = 0 then 0 else (if s.1 < s.2 then 1 else 0) + (s.1 * s.2).log2 + 1
theorem gMu_lt (a b : Nat) (hb : 0 < b) : gMu (b, a % b) < gMu (a, b) := by
  unfold gMu
  rw [if_neg (show ¬ (a, b).2 = 0 by show ¬ b = 0; omega)]
  by_cases hr : a % b = 0
  · rw [if_pos hr]; show 0 < (if a < b then 1 else 0) + (a * b).log2 + 1; omega
  · rw [if_neg hr]
    have hm : a % b < b := Nat.mod_lt _ hb
    show (if b < a % b then 1 else 0) + (b * (a % b)).log2 + 1 < (if a < b then 1 else 0) + (a * b).log2 + 1
    rw [if_neg (by omega)]
    by_cases hab : a < b
    · rw [if_pos hab, Nat.mod_eq_of_lt hab, Nat.mul_comm b a]; omega
    · rw [if_neg hab]
      have h1 : b + a % b ≤ a := by
        have := Nat.div_add_mod a b
        have h2 : 1 ≤ a / b := (Nat.one_le_div_iff hb).mpr (by omega)
        have h3 : b * 1 ≤ b * (a / b) := Nat.mul_le_mul_left b h2
        omega
      have h2 : 2 * (b * (a % b)) ≤ a * b := by
        have : 2 * (a % b) ≤ a := by omega
        calc 2 * (b * (a % b)) = (2 * (a % b)) * b := by rw [Nat.mul_comm b, Nat.mul_assoc]
          _ ≤ a * b := Nat.mul_le_mul_right b this
      have := log2_dbl (x := b * (a % b)) (Nat.mul_pos hb (by omega)) h2
      omega
def gEnc (s : Nat × Nat) : En := [some (.d (.int s.1)), some (.d (.int s.2))]
theorem gcd_loop {F : SF} (hF : ∀ a b : Nat, 0 < b → F (gEnc (a, b)) = some (.nx, gEnc (b, a % b))) (a b n : Nat) (hn : gMu (a, b) < n) : whileL (tGt (xRd 1) (xC (.int 0))) F n (gEnc (a, b)) = some (.nx, gEnc (Nat.gcd a b, 0)) := by
  obtain ⟨s, h1, h2, h3⟩ := whileL_by (p := tGt (xRd 1) (xC (.int 0))) (F := F) gEnc (fun s => decide (0 < s.2)) (fun s => (s.2, s.1 % s.2)) gMu (fun s => Nat.gcd s.1 s.2 = Nat.gcd a b)
    (fun s _ => by simp [gEnc]) (fun s h hc => by
      have hc : 0 < s.2 := by simpa using hc
      refine ⟨hF s.1 s.2 hc, ?_, gMu_lt s.1 s.2 hc⟩
      show Nat.gcd s.2 (s.1 % s.2) = _
      rw [← h, Nat.gcd_comm s.1, Nat.gcd_rec s.2 s.1, Nat.gcd_comm]) n (a, b) rfl hn
  rw [h1]
  have : s.2 = 0 := by simpa using h3
  obtain ⟨x, y⟩ := s
  have : y = 0 := this
  subst this
  have h2 : Nat.gcd x 0 = Nat.gcd a b := h2
  rw [Nat.gcd_zero_right] at h2
  rw [h2]
theorem fmod_nat (a b : Nat) : (a : Int).fmod b = ((a % b : Nat) : Int) := by
  rw [Int.fmod_eq_emod_of_nonneg _ (by omega)]
  rfl
def C_common : SF := sSeq (sPar 0 1 (x1 wAbs (xRd 0)) (x1 wAbs (xRd 1))) (sSeq (sKill [1] (whileL (tGt (xRd 1) (xC (.int 0))) (sPar 0 1 (xVar 1) (xMod (x1 wToI (xRd 0)) (xRd 1))) 1048576)) (sRet (xVar 0)))
def d_common : List D → Option W := runF 2 C_common
def C_commonB : SF := sSeq (sPar 0 1 (x1 wAbs (xRd 0)) (x1 wAbs (xRd 1))) (sSeq (sKill [1] (whileL (tGt (xRd 1) (xC (.int 0))) (sPar 0 1 (xVar 1) (xMod (xRd 0) (xRd 1))) 1048576)) (sRet (xVar 0)))
def d_commonB : List D → Option W := runF 2 C_commonB
def small (a : Int) : Prop := a.natAbs < 2 ^ 8000
theorem gMu_small {a b : Int} (ha : small a) (hb : small b) : gMu (a.natAbs, b.natAbs) < 1048576 := by
  unfold gMu
  show (if b.natAbs = 0 then 0 else (if a.natAbs < b.natAbs then 1 else 0) + (a.natAbs * b.natAbs).log2 + 1) < 1048576
  have h : a.natAbs * b.natAbs < 2 ^ 16000 := by
    have : 2 ^ 16000 = 2 ^ 8000 * 2 ^ 8000 := by rw [← Nat.pow_add]
    rw [this]
    exact Nat.mul_lt_mul'' ha hb
  have := log2_lt h (by omega)
  split
  · omega
  · split <;> omega
theorem common_ok {a b : Int} (ha : small a) (hb : small b) : d_common [.int a, .int b] = some (.d (.int (Int.gcd a b))) := by
  have h := gcd_loop (F := sPar 0 1 (xVar 1) (xMod (x1 wToI (xRd 0)) (xRd 1))) (fun x y hy => by
    simp [gEnc, fmod_nat, show ¬ y = 0 by omega]) a.natAbs b.natAbs 1048576 (gMu_small ha hb)
  simp only [gEnc] at h
  unfold d_common C_common
  simp [h, Int.gcd]
theorem commonB_ok {a b : Int} (ha : small a) (hb : small b) : d_commonB [.int a, .int b] = some (.d (.int (Int.gcd a b))) := by
  have h := gcd_loop (F := sPar 0 1 (xVar 1) (xMod (xRd 0) (xRd 1))) (fun x y hy => by
    simp [gEnc, fmod_nat, show ¬ y = 0 by omega]) a.natAbs b.natAbs 1048576 (gMu_small ha hb)
  simp only [gEnc] at h
  unfold d_commonB C_commonB
  simp [h, Int.gcd]
def C_ratio : SF := sSeq (sSet 2 (xCall 2 d_common (aC (xVar 0) (aC (xVar 1) (aN))))) (sSeq (sIf (tLt (xRd 1) (xC (.int 0))) (sSet 2 (x1 wNeg (xRd 2))) (sNil)) (sRet (xTup (aC (xFd (xRd 0) (xRd 2)) (aC (xFd (xRd 1) (xRd 2)) (aN))))))
def d_ratio : List D → Option W := runF 3 C_ratio
def rat (a b : Int) : D := .tuple [.int (a / (Int.gcd a b : Int)), .int (b / (Int.gcd a b : Int))]
theorem fdOk_gcd {a b : Int} (hb : small b) (h : 0 < b) (c : Int) : fdOk c (Int.gcd a b) = true := by
  have hp : 0 < Int.gcd a b := Int.gcd_pos_of_ne_zero_right a (by omega)
  refine fdOk_pos (by omega) ?_
  have h1 : Int.gcd a b ≤ b.natAbs := Nat.gcd_le_right _ (by omega)
  have h2 : b.natAbs < 2 ^ 8000 := hb
  have h3 : (2 : Nat) ^ 8000 ≤ 2 ^ 9000 := Nat.pow_le_pow_right (by omega) (by omega)
  show Int.gcd a b < 2 ^ 9000
  omega
theorem ratio_ok {a b : Int} (ha : small a) (hb : small b) (h : 0 < b) : d_ratio [.int a, .int b] = some (.d (rat a b)) := by
  unfold d_ratio C_ratio rat
  have hl : ¬ b < 0 := by omega
  simp [common_ok ha hb, hl, fdOk_gcd hb h, Int.fdiv_eq_ediv_of_nonneg]
theorem rat_cmp {a b c d : Int} (hb : 0 < b) : (a / (Int.gcd a b : Int)) * d ≤ c * (b / (Int.gcd a b : Int)) ↔ a * d ≤ c * b := by
  have hp : (0 : Int) < Int.gcd a b := by
    have := Int.gcd_pos_of_ne_zero_right a (b := b) (by omega)
    omega
  obtain ⟨x, hx⟩ := Int.gcd_dvd_left (a := a) (b := b)
  obtain ⟨y, hy⟩ := Int.gcd_dvd_right (a := a) (b := b)
  generalize hg : (Int.gcd a b : Int) = g at *
  subst hx hy
  rw [Int.mul_ediv_cancel_left _ (by omega), Int.mul_ediv_cancel_left _ (by omega)]
  rw [Int.mul_assoc, show c * (g * y) = g * (c * y) by rw [← Int.mul_assoc, Int.mul_comm c g, Int.mul_assoc]]
  exact ⟨fun h => Int.mul_le_mul_of_nonneg_left h (by omega), fun h => Int.le_of_mul_le_mul_left h hp⟩
theorem rat_zero {b : Int} (hb : 0 < b) : rat 0 b = .tuple [.int 0, .int 1] := by
  unfold rat
  rw [Int.gcd_zero_left]
  have : (b.natAbs : Int) = b := by omega
  rw [this, Int.ediv_self (by omega)]
  simp
theorem rat_one : rat 1 1 = .tuple [.int 1, .int 1] := by simp [rat]
@[simp] theorem flat_rat (a b : Int) : flatD 12 (rat a b) = true := by simp [rat, flatD]
end EV

set_option Elab.async false
set_option linter.all false
set_option maxRecDepth 100000
set_option maxHeartbeats 1000000
set_option exponentiation.threshold 2000000
/-! steps of a body, drawn numbers, memberships -/
namespace EV
open PySem L2
theorem seq1 {F G : SF} {e e1 : En} (h : F e = some (.nx, e1)) : sSeq F G e = G e1 := by rw [s_seq, h]; rfl
theorem stp {F G : SF} {e e1 : En} {w : W} (h : F e = some (.nx, e1)) (k : ∃ e', G e1 = some (.rt w, e')) : ∃ e', sSeq F G e = some (.rt w, e') := by
  obtain ⟨e', q⟩ := k
  exact ⟨e', by rw [seq1 h, q]⟩
theorem stpE {F G : SF} {e : En} {w : W} {α : Type} {Q : α → Prop} {E : α → En} (h : ∃ s, Q s ∧ F e = some (.nx, E s)) (k : ∀ s, Q s → ∃ e', G (E s) = some (.rt w, e')) : ∃ e', sSeq F G e = some (.rt w, e') := by
  obtain ⟨s, h1, h2⟩ := h
  exact stp h2 (k s h1)
theorem stpF {i : Nat} {G : SF} {e : En} {w : W} (k : ∃ e', G (frzAt i e) = some (.rt w, e')) : ∃ e', sFrz i G e = some (.rt w, e') := k
theorem cut_take (xs : List D) (k : Nat) (h : k ≤ xs.length) : cutD xs none (some (k : Int)) = xs.take k := by
  unfold cutD
  rw [HT.sIx_none, HT.sIx_nat]
  simp [Nat.min_eq_left h]
theorem cut_drop (xs : List D) (k : Nat) (h : k ≤ xs.length) : cutD xs (some (k : Int)) none = xs.drop k := by
  unfold cutD
  rw [HT.sIx_none, HT.sIx_nat]
  rw [Nat.min_eq_left h]
  exact List.take_of_length_le (by simp)
/-- the remainder of a drawn number -/
theorem dr (v : Int) (m : Nat) (hm : 0 < m) : ∃ r : Nat, v.fmod m = (r : Int) ∧ r < m := by
  have := fmod_bd v (m := (m : Int)) (by omega)
  exact ⟨(v.fmod m).toNat, by omega, by omega⟩
theorem intsD_cons (k n : Nat) : intsD (k : Int) (n + 1) = .int k :: intsD ((k + 1 : Nat) : Int) n := by
  unfold intsD
  rw [List.range_succ_eq_map]
  simp
  intro a _
  omega
theorem intsD_two : intsD 0 2 = [.int 0, .int 1] := rfl
def bI (x : Bool) : D := .int (if x then 1 else 0)
@[simp] theorem bI_t : bI true = .int 1 := rfl
@[simp] theorem bI_f : bI false = .int 0 := rfl
@[simp] theorem kk_aa : cEq (.d (.str "and")) (.d (.str "and")) = some true := by decide +kernel
@[simp] theorem kk_oa : cEq (.d (.str "or")) (.d (.str "and")) = some false := by decide +kernel
@[simp] theorem kk_xa : cEq (.d (.str "xor")) (.d (.str "and")) = some false := by decide +kernel
@[simp] theorem kk_oo : cEq (.d (.str "or")) (.d (.str "or")) = some true := by decide +kernel
@[simp] theorem kk_xo : cEq (.d (.str "xor")) (.d (.str "or")) = some false := by decide +kernel
@[simp] theorem asInts_map : ∀ ns : List Int, asInts (ns.map .int) = some ns
  | [] => rfl
  | n :: ns => by simp [asInts, asInts_map ns]
theorem asInts_mapF {α : Type} (f : α → Int) : ∀ ns : List α, asInts (ns.map fun a => .int (f a)) = some (ns.map f)
  | [] => rfl
  | n :: ns => by simp [asInts, asInts_mapF f ns]
theorem asBls_mapF {α : Type} (f : α → Bool) : ∀ ns : List α, asBls (ns.map fun a => .bool (f a)) = some (ns.map f)
  | [] => rfl
  | n :: ns => by simp [asBls, asBls_mapF f ns]
theorem all_true (n : Nat) {xs : List D} (h : ∀ x ∈ xs, x = .bool true) : asBls xs = some (List.replicate xs.length true) := by
  have : xs = List.replicate xs.length (.bool true) := List.eq_replicate_of_mem h
  rw [this, asBls_rep]
  simp
/-- data of plain parts, at most n deep -/
def flatS : Nat → D → Bool
  | 0, _ => false
  | n + 1, .tuple xs => xs.all (flatS n)
  | n + 1, .list xs => xs.all (flatS n)
  | _ + 1, .none => true
  | _ + 1, .bool _ => true
  | _ + 1, .int _ => true
  | _ + 1, .str x => (PyData.str x).canLay0
  | _ + 1, .dict _ => false
theorem flatS_all {n : Nat} (ih : ∀ d : D, flatS n d = true → d.canLay0 = true ∧ d.depth ≤ n) : ∀ xs : List D, xs.all (flatS n) = true → PyData.canLayAll0 xs = true ∧ PyData.depthAll xs ≤ n
  | [], _ => ⟨rfl, by simp [PyData.depthAll]⟩
  | x :: xs, h => by
    rw [List.all_cons, Bool.and_eq_true] at h
    obtain ⟨h1, h2⟩ := ih x h.1
    obtain ⟨h3, h4⟩ := flatS_all ih xs h.2
    refine ⟨by simp [PyData.canLayAll0, h1, h3], ?_⟩
    simp only [PyData.depthAll]
    omega
theorem flatS_ok : ∀ (n : Nat) (d : D), flatS n d = true → d.canLay0 = true ∧ d.depth ≤ n := by
  intro n
  induction n with
  | zero => intro d h; simp [flatS] at h
  | succ n ih =>
    intro d h
    cases d with
    | none => exact ⟨rfl, by simp [PyData.depth]⟩
    | bool b => exact ⟨rfl, by simp [PyData.depth]⟩
    | int b => exact ⟨rfl, by simp [PyData.depth]⟩
    | str b => exact ⟨by simpa [flatS] using h, by simp [PyData.depth]⟩
    | dict b => simp [flatS] at h
    | tuple xs =>
      obtain ⟨h1, h2⟩ := flatS_all ih xs (by simpa only [flatS] using h)
      exact ⟨by simpa [PyData.canLay0] using h1, by simp only [PyData.depth]; omega⟩
    | list xs =>
      obtain ⟨h1, h2⟩ := flatS_all ih xs (by simpa only [flatS] using h)
      exact ⟨by simpa [PyData.canLay0] using h1, by simp only [PyData.depth]; omega⟩
theorem shaped_of {n : Nat} {d : D} (h : flatS n d = true) (hn : n ≤ 64) : SeqAt.shaped d = true := by
  obtain ⟨h1, h2⟩ := flatS_ok n d h
  unfold SeqAt.shaped
  rw [h1, decide_eq_true (show d.depth ≤ 64 by omega)]
  rfl
theorem ints_flat (n : Nat) (ns : List Int) : flatS (n + 2) (.list (ns.map .int)) = true := by
  simp [flatS]
theorem any_ints (k : Int) (ns : List Int) : ((ns.map PyData.int).any fun z => PyData.eqv z (.int k)) = decide (k ∈ ns) := by
  induction ns with
  | nil => simp
  | cons n ns ih =>
    rw [List.map_cons, List.any_cons, ih]
    have e : PyData.eqv (.int n) (.int k) = (n == k) := by simp [PyData.eqv]
    rw [e]
    by_cases h : n = k
    · subst h; simp
    · have h2 : ¬ k = n := fun q => h q.symm
      simp [h, h2]
theorem cIn_ints (k : Int) (ns : List Int) : cIn (.d (.int k)) (.d (.tuple (ns.map .int))) = some (decide (k ∈ ns)) := by
  unfold cIn
  simp only [dat, asS_t]
  rw [shaped_of (n := 2) (d := .int k) rfl (by omega), shaped_of (ints_flat 0 ns) (by omega), any_ints]
  rfl
theorem cIn_intsL (k : Int) (ns : List Int) : cIn (.d (.int k)) (.d (.list (ns.map .int))) = some (decide (k ∈ ns)) := by
  unfold cIn
  simp only [dat, asS_d]
  rw [shaped_of (n := 2) (d := .int k) rfl (by omega), shaped_of (ints_flat 0 ns) (by omega), any_ints]
  rfl
theorem cIn_intsO (k : Int) (ns : List Int) : cIn (.d (.int k)) (.o (.lst (ns.map .int))) = some (decide (k ∈ ns)) := by
  unfold cIn
  simp only [dat, asS_o]
  rw [shaped_of (n := 2) (d := .int k) rfl (by omega), shaped_of (ints_flat 0 ns) (by omega), any_ints]
  rfl
theorem ixN_nat {n k : Nat} (h : k < n) : ixN n (k : Int) = some k := by
  unfold ixN
  simp [h]
theorem map_setR {α : Type} (f : Nat → α) (m j : Nat) (v : α) : ((List.range m).map f).set j v = (List.range m).map fun k => if k = j then v else f k := by
  refine List.ext_getElem (by simp) fun i h1 h2 => ?_
  simp only [List.getElem_set, List.getElem_map, List.getElem_range]
  by_cases e : j = i
  · subst e; simp
  · rw [if_neg e, if_neg (fun q => e q.symm)]
theorem zpD_map (f g : Nat → D) : ∀ (l : List Nat), zpD (l.map f) (l.map g) = l.map fun k => .tuple [f k, g k]
  | [] => rfl
  | x :: l => by simp [zpD, zpD_map f g l]
theorem enD_map (f : Nat → D) (m : Nat) : enD ((List.range m).map f) = (List.range m).map fun j => .tuple [.int (j : Nat), f j] := by
  refine List.ext_getElem (by simp [enD]) fun i h1 h2 => ?_
  simp [enD]
theorem map_range {α β : Type} (f : α → β) (d : α) (l : List α) : l.map f = (List.range l.length).map fun i => f (l.getD i d) := by
  refine List.ext_getElem (by simp) fun i h1 h2 => ?_
  have : i < l.length := by simpa using h1
  simp [this]
theorem bitXor_nat (x y : Nat) : Builtin.bitXor (x : Int) y = ((x ^^^ y : Nat) : Int) := by
  rw [Bits.bitXor_pp (by omega) (by omega)]
  simp
theorem forL_two {t : D → En → Option En} {F : SF} {x y : D} {e0 e1 e2 : En} (h1 : turn t F x e0 = some (.nx, e1)) (h2 : turn t F y e1 = some (.nx, e2)) : forL t F [x, y] e0 = some (.nx, e2) := by
  rw [forL_cons, h1]
  show forL t F [y] e1 = _
  rw [forL_cons, h2]
  rfl
theorem lcL_map {α : Type} {t : D → En → Option En} {f : En → Option W} {env : En} (h φ : α → D) : ∀ (xs : List α), (∀ x ∈ xs, ((t (h x) env).bind f).bind dat = some (φ x)) → lcL t pY f (xs.map h) env = some (xs.map φ)
  | [], _ => rfl
  | x :: xs, hh => by
    have h0 := hh x (by simp)
    have h1 := lcL_map h φ xs fun y hy => hh y (by simp [hy])
    obtain ⟨w, e1, e2⟩ := Option.bind_eq_some_iff.mp h0
    obtain ⟨e, e3, e4⟩ := Option.bind_eq_some_iff.mp e1
    rw [List.map_cons]
    unfold lcL
    simp [e3, e4, e2, h1]
theorem lcL_mapF {α : Type} {t : D → En → Option En} {p : En → Option Bool} {f : En → Option W} {env : En} (h φ : α → D) (π : α → Bool) : ∀ (xs : List α), (∀ x ∈ xs, (t (h x) env).bind p = some (π x) ∧ (π x = true → ((t (h x) env).bind f).bind dat = some (φ x))) → lcL t p f (xs.map h) env = some ((xs.filter π).map φ)
  | [], _ => rfl
  | x :: xs, hh => by
    obtain ⟨h0, h00⟩ := hh x (by simp)
    have h1 := lcL_mapF h φ π xs fun y hy => hh y (by simp [hy])
    obtain ⟨e, e1, e2⟩ := Option.bind_eq_some_iff.mp h0
    rw [List.map_cons]
    unfold lcL
    cases hp : π x with
    | false =>
      rw [hp] at e2
      simp [e1, e2, h1, hp]
    | true =>
      rw [hp] at e2
      obtain ⟨w, e3, e4⟩ := Option.bind_eq_some_iff.mp (h00 hp)
      rw [e1] at e3
      simp at e3
      simp [e1, e2, e3, e4, h1, hp]
theorem intsD_map (n : Nat) : intsD 0 n = (List.range n).map fun i => .int (i : Nat) := by simp [intsD]
theorem forL_const {t : D → En → Option En} {F : SF} {env : En} : ∀ (xs : List D), (∀ x ∈ xs, turn t F x env = some (.nx, env)) → forL t F xs env = some (.nx, env)
  | [], _ => rfl
  | x :: xs, h => by
    rw [forL_cons, h x (by simp)]
    exact forL_const xs fun y hy => h y (by simp [hy])
theorem sum_cast {α : Type} (b : α → Nat) : ∀ l : List α, (l.map fun a => ((b a : Nat) : Int)).sum = (((l.map b).sum : Nat) : Int)
  | [] => rfl
  | x :: l => by
    have := sum_cast b l
    simp only [List.map_cons, List.sum_cons, this]
    omega
theorem run_rt {n : Nat} {B : SF} {ds : List D} {w : W} (e0 : En) (he : ds.map (fun d => some (.d d)) ++ List.replicate (n - ds.length) none = e0) (h : ∃ e', B e0 = some (.rt w, e')) : runF n B ds = some w := by
  obtain ⟨e', h⟩ := h
  rw [s_run, he, h]
end EV

set_option Elab.async false
set_option linter.all false
set_option maxRecDepth 100000
set_option maxHeartbeats 1000000
set_option exponentiation.threshold 2000000
/-! powers in a ring: power_in, _law_power, turned_number -/
namespace EV
open PySem L2
theorem pow_half (b e : Nat) : (b * b) ^ (e / 2) * (if e % 2 = 1 then b else 1) = b ^ e := by
  have h : e = 2 * (e / 2) + e % 2 := by omega
  have h2 : (b * b) ^ (e / 2) = b ^ (2 * (e / 2)) := by rw [Nat.pow_mul, Nat.pow_two]
  rw [h2]
  rcases (by omega : e % 2 = 0 ∨ e % 2 = 1) with q | q
  · rw [if_neg (by omega), Nat.mul_one]
    congr 1; omega
  · rw [if_pos q, ← Nat.pow_succ]
    congr 1; omega
theorem pow_step {n f b e R : Nat} (h : f * b ^ e % n = R) : (if e % 2 = 1 then f * b % n else f) * (b * b % n) ^ (e / 2) % n = R := by
  rw [← h]
  rw [Nat.mul_mod, Nat.pow_mod, Nat.mod_mod, ← Nat.pow_mod, ← Nat.mul_mod]
  have e1 : (if e % 2 = 1 then f * b % n else f) * (b * b) ^ (e / 2) % n = (f * (if e % 2 = 1 then b else 1)) * (b * b) ^ (e / 2) % n := by
    split
    · rw [Nat.mul_mod, Nat.mod_mod, ← Nat.mul_mod]
    · rw [Nat.mul_one]
  rw [e1, Nat.mul_assoc, Nat.mul_comm (if e % 2 = 1 then b else 1), pow_half]
structure PwS where
  f : Nat
  b : Nat
  e : Nat
def pwN (s : PwS) (n : Nat) : PwS := ⟨if s.e % 2 = 1 then s.f * s.b % n else s.f, s.b * s.b % n, s.e / 2⟩
theorem pw_loop {enc : PwS → En} {p : En → Option Bool} {F : SF} {n : Nat} (hn : 0 < n) (hp : ∀ s, p (enc s) = some (decide (0 < s.e))) (hF : ∀ s, s.f < n → s.b < n → 0 < s.e → F (enc s) = some (.nx, enc (pwN s n)))
    (a e : Nat) (ha : a < n) (he : e < 1048576) : ∃ b, whileL p F 1048576 (enc ⟨1 % n, a, e⟩) = some (.nx, enc ⟨a ^ e % n, b, 0⟩) := by
  obtain ⟨s, h1, ⟨h2, h3, h4⟩, h5⟩ := whileL_by (p := p) (F := F) enc (fun s => decide (0 < s.e)) (fun s => pwN s n) (fun s => s.e) (fun s => s.f < n ∧ s.b < n ∧ s.f * s.b ^ s.e % n = a ^ e % n)
    (fun s _ => hp s) (fun s ⟨q1, q2, q3⟩ hc => by
      have hc : 0 < s.e := by simpa using hc
      refine ⟨hF s q1 q2 hc, ⟨?_, Nat.mod_lt _ hn, pow_step q3⟩, by show s.e / 2 < s.e; omega⟩
      show (if s.e % 2 = 1 then s.f * s.b % n else s.f) < n
      split
      · exact Nat.mod_lt _ hn
      · exact q1) 1048576 ⟨1 % n, a, e⟩ ⟨Nat.mod_lt _ hn, ha, by show 1 % n * a ^ e % n = _; rw [Nat.mod_mul_mod, Nat.one_mul]⟩ he
  obtain ⟨f, b, e'⟩ := s
  have h5 : e' = 0 := by simpa using h5
  subst h5
  have h4 : f * b ^ 0 % n = a ^ e % n := h4
  rw [Nat.pow_zero, Nat.mul_one, Nat.mod_eq_of_lt h2] at h4
  subst h4
  exact ⟨b, h1⟩
def C_power_in : SF := sSeq (sPar 3 4 (xMod (xC (.int 1)) (xRd 2)) (xMod (xRd 0) (xRd 2))) (sSeq (sKill [1, 4] (whileL (tGt (xRd 1) (xC (.int 0))) (sSeq (sIf (tEq (xMod (xRd 1) (xC (.int 2))) (xC (.int 1))) (sSet 3 (xMod (xMul (xRd 3) (xRd 4)) (xRd 2))) (sNil)) (sPar 4 1 (xMod (xMul (xRd 4) (xRd 4)) (xRd 2)) (xFd (xRd 1) (xC (.int 2))))) 1048576)) (sRet (xVar 3)))
def d_power_in : List D → Option W := runF 5 C_power_in
def C_power : SF := sSeq (sPar3 3 4 5 (xMod (xC (.int 1)) (xRd 2)) (xMod (x1 wToI (xRd 0)) (xRd 2)) (xVar 1)) (sSeq (sKill [4, 5] (whileL (tGt (xRd 5) (xC (.int 0))) (sSeq (sIf (tEq (xMod (x1 wToI (xRd 5)) (xC (.int 2))) (xC (.int 1))) (sSet 3 (xMod (xMul (xRd 3) (xRd 4)) (xRd 2))) (sNil)) (sPar 4 5 (xMod (xMul (xRd 4) (xRd 4)) (xRd 2)) (xFd (xRd 5) (xC (.int 2))))) 1048576)) (sRet (xVar 3)))
def d_power : List D → Option W := runF 6 C_power
@[simp] theorem s_par3 (i j l : Nat) (f g h : En → Option W) (env : En) : sPar3 i j l f g h env = (f env).bind fun u => (g env).bind fun v => (h env).map fun w => (.nx, ((env.set i (some u)).set j (some v)).set l (some w)) := rfl
theorem one_mod (n : Nat) : (1 : Int).fmod n = ((1 % n : Nat) : Int) := fmod_nat 1 n
theorem power_in_ok {a : Int} {e n : Nat} (hn : 0 < n) (hn2 : n < 4294967296) (he : e < 1048576) : d_power_in [.int a, .int e, .int n] = some (.d (.int (((a.fmod n).toNat ^ e % n : Nat) : Int))) := by
  have hb := fmod_bd a (m := (n : Int)) (by omega)
  obtain ⟨r, hr, hr1⟩ : ∃ r : Nat, a.fmod n = r ∧ r < n := ⟨(a.fmod n).toNat, by omega, by omega⟩
  have nz : ¬ ((n : Int) = 0) := by omega
  have nz1 : ¬ (n = 0) := by omega
  have fd : ∀ c : Int, fdOk c 2 = true := fun c => fdOk_lit (by decide) (by decide)
  obtain ⟨b, L⟩ := pw_loop (enc := fun s => [some (.d (.int a)), some (.d (.int s.e)), some (.d (.int n)), some (.d (.int s.f)), some (.d (.int s.b))]) (n := n) (p := tGt (xRd 1) (xC (.int 0))) (F := sSeq (sIf (tEq (xMod (xRd 1) (xC (.int 2))) (xC (.int 1))) (sSet 3 (xMod (xMul (xRd 3) (xRd 4)) (xRd 2))) (sNil)) (sPar 4 1 (xMod (xMul (xRd 4) (xRd 4)) (xRd 2)) (xFd (xRd 1) (xC (.int 2))))) hn (fun s => by simp) (fun s h1 h2 h3 => by
    have m1 : mulOk s.f s.b = true := mulOk_l (by omega)
    have m2 : mulOk s.b s.b = true := mulOk_l (by omega)
    have e2 : (s.e : Int).fmod 2 = ((s.e % 2 : Nat) : Int) := fmod_nat s.e 2
    have e3 : ((s.b : Int) * s.b).fmod n = ((s.b * s.b % n : Nat) : Int) := fmod_nat (s.b * s.b) n
    have e4 : ((s.f : Int) * s.b).fmod n = ((s.f * s.b % n : Nat) : Int) := fmod_nat (s.f * s.b) n
    have e5 : (s.e : Int).fdiv 2 = ((s.e / 2 : Nat) : Int) := by rw [Int.fdiv_eq_ediv_of_nonneg _ (by omega)]; rfl
    unfold pwN
    simp only
    generalize s.b * s.b % n = bb at *
    generalize s.f * s.b % n = fb at *
    generalize s.e / 2 = hh at *
    rcases (by omega : s.e % 2 = 0 ∨ s.e % 2 = 1) with q | q
    · rw [q] at e2
      simp [m2, e2, e3, e5, nz, nz1, fd, q]
    · rw [q] at e2
      simp [m1, m2, e2, e3, e4, e5, nz, nz1, fd, q]) r e hr1 he
  rw [hr]
  have o := one_mod n
  unfold d_power_in C_power_in
  simp only at L
  simp only [Int.toNat_natCast]
  generalize r ^ e % n = res at *
  generalize 1 % n = on at *
  simp [nz, nz1, hr, o, L]
theorem power_ok {a : Int} {e n : Nat} (hn : 0 < n) (hn2 : n < 4294967296) (he : e < 1048576) : d_power [.int a, .int e, .int n] = some (.d (.int (((a.fmod n).toNat ^ e % n : Nat) : Int))) := by
  have hb := fmod_bd a (m := (n : Int)) (by omega)
  obtain ⟨r, hr, hr1⟩ : ∃ r : Nat, a.fmod n = r ∧ r < n := ⟨(a.fmod n).toNat, by omega, by omega⟩
  have nz : ¬ ((n : Int) = 0) := by omega
  have nz1 : ¬ (n = 0) := by omega
  have fd : ∀ c : Int, fdOk c 2 = true := fun c => fdOk_lit (by decide) (by decide)
  obtain ⟨b, L⟩ := pw_loop (enc := fun s => [some (.d (.int a)), some (.d (.int e)), some (.d (.int n)), some (.d (.int s.f)), some (.d (.int s.b)), some (.d (.int s.e))]) (n := n) (p := tGt (xRd 5) (xC (.int 0))) (F := sSeq (sIf (tEq (xMod (x1 wToI (xRd 5)) (xC (.int 2))) (xC (.int 1))) (sSet 3 (xMod (xMul (xRd 3) (xRd 4)) (xRd 2))) (sNil)) (sPar 4 5 (xMod (xMul (xRd 4) (xRd 4)) (xRd 2)) (xFd (xRd 5) (xC (.int 2))))) hn (fun s => by simp) (fun s h1 h2 h3 => by
    have m1 : mulOk s.f s.b = true := mulOk_l (by omega)
    have m2 : mulOk s.b s.b = true := mulOk_l (by omega)
    have e2 : (s.e : Int).fmod 2 = ((s.e % 2 : Nat) : Int) := fmod_nat s.e 2
    have e3 : ((s.b : Int) * s.b).fmod n = ((s.b * s.b % n : Nat) : Int) := fmod_nat (s.b * s.b) n
    have e4 : ((s.f : Int) * s.b).fmod n = ((s.f * s.b % n : Nat) : Int) := fmod_nat (s.f * s.b) n
    have e5 : (s.e : Int).fdiv 2 = ((s.e / 2 : Nat) : Int) := by rw [Int.fdiv_eq_ediv_of_nonneg _ (by omega)]; rfl
    unfold pwN
    simp only
    generalize s.b * s.b % n = bb at *
    generalize s.f * s.b % n = fb at *
    generalize s.e / 2 = hh at *
    rcases (by omega : s.e % 2 = 0 ∨ s.e % 2 = 1) with q | q
    · rw [q] at e2
      simp [m2, e2, e3, e5, nz, nz1, fd, q]
    · rw [q] at e2
      simp [m1, m2, e2, e3, e4, e5, nz, nz1, fd, q]) r e hr1 he
  rw [hr]
  have o := one_mod n
  unfold d_power C_power
  simp only at L
  simp only [Int.toNat_natCast]
  generalize r ^ e % n = res at *
  generalize 1 % n = on at *
  simp [nz, nz1, hr, o, L]
/-! turned_number -/
def C_turned : SF := sSeq (sKill [2] (sFor (iR1 (xRd 1)) (gN 2) (sKill [2] (sIf (tEq (xMod (xMul (xRd 0) (xRd 2)) (xRd 1)) (xC (.int 1))) (sRet (xVar 2)) (sNil))))) (sRet (xC .none))
def d_turned : List D → Option W := runF 3 C_turned
def optN : Option Nat → D
  | none => .none
  | some k => .int k
def turnedN (a n : Nat) : Option Nat := (List.range n).find? fun x => a * x % n == 1
theorem find_loop {env : En} {t : D → En → Option En} {F : SF} (π : Nat → Bool) (hT : ∀ k : Nat, turn t F (.int k) env = some (if π k then .rt (.d (.int k)) else .nx, env)) : ∀ (l : List Nat), forL t F (l.map fun k => .int (k : Nat)) env = some (match l.find? π with | some k => .rt (.d (.int k)) | none => .nx, env)
  | [] => rfl
  | k :: l => by
    rw [List.map_cons, forL_cons, hT k, List.find?_cons]
    cases π k with
    | true => rfl
    | false => exact find_loop π hT l
theorem turned_ok {a n : Nat} (hn : 0 < n) (hn2 : n < 4294967296) (ha : a < 4294967296) : d_turned [.int a, .int n] = some (.d (optN (turnedN a n))) := by
  have nz : ¬ ((n : Int) = 0) := by omega
  have nz1 : ¬ (n = 0) := by omega
  have L := find_loop (t := gN 2) (F := sKill [2] (sIf (tEq (xMod (xMul (xRd 0) (xRd 2)) (xRd 1)) (xC (.int 1))) (sRet (xVar 2)) (sNil))) (env := [some (.d (.int a)), some (.d (.int n)), none]) (fun x => a * x % n == 1) (fun k => by
    have m1 : mulOk a k = true := mulOk_l (by omega)
    have e1 : ((a : Int) * k).fmod n = ((a * k % n : Nat) : Int) := fmod_nat (a * k) n
    generalize a * k % n = v at *
    by_cases h : v = 1
    · subst h; simp [turn, m1, nz, nz1, e1]
    · have h2 : ¬ (v : Int) = 1 := by omega
      simp [turn, m1, nz, nz1, e1, h, h2]) (List.range n)
  rw [← intsD_map] at L
  have hr : rgB (n : Int) = true := rgB_nat (by omega)
  unfold d_turned C_turned turnedN
  simp [hr, L]
  cases (List.range n).find? (fun x => a * x % n == 1) <;> simp [optN]
end EV

set_option maxRecDepth 100000
namespace L
open PySem L2 EV
def topS (i : Nat) : Stmt := PySem.Challenge.pw_sealskept_k16_whole_taken_names.main.body.getD i (.Pass ⟨0, 0, 0, 0⟩)
structure Nb (mg : Str → Option Value) : Prop where
  b_abs : mg "abs" = none
  b_all : mg "all" = none
  b_bool : mg "bool" = none
  b_enumerate : mg "enumerate" = none
  b_int : mg "int" = none
  b_isinstance : mg "isinstance" = none
  b_len : mg "len" = none
  b_list : mg "list" = none
  b_max : mg "max" = none
  b_range : mg "range" = none
  b_str : mg "str" = none
  b_tuple : mg "tuple" = none
  b_zip : mg "zip" = none
abbrev s_l_mixed : Stmt := topS 21
abbrev N_l_mixed : List Str := ["script", "k", "cell", "first", "second", "third"]
theorem sc_l_mixed : FnScope N_l_mixed ["script", "k"] (defScope s_l_mixed) := ⟨rfl, rfl, rfl, by decide +kernel, rfl, by decide +kernel, by decide +kernel⟩
def B_l_mixed : SF := sSeq (sSet 2 (xC (.int 0))) (sSeq (sIf (tGt (x1 wLen (xRd 0)) (xC (.int 0))) (sSet 2 (x2 wIx (xRd 0) (xMod (xRd 1) (x1 wLen (xRd 0))))) (sNil)) (sSeq (sSet 3 (xMod (x1 wToI (xAdd (xAdd (xMul (xRd 2) (xC (.int 48271))) (xMul (xRd 1) (xC (.int 69621)))) (xC (.int 8191)))) (xC (.int 2147483647)))) (sSeq (sSet 4 (xMod (x1 wToI (xAdd (xAdd (xMul (xRd 3) (xRd 3)) (xFd (xRd 3) (xC (.int 7)))) (xMul (xRd 1) (xC (.int 16807))))) (xC (.int 2147483629)))) (sSeq (sSet 5 (xMod (x1 wToI (xAdd (xAdd (xMul (xRd 4) (xRd 4)) (xFd (xRd 4) (xC (.int 11)))) (xC (.int 40692)))) (xC (.int 2147483563)))) (sRet (xMod (xFd (xRd 5) (xC (.int 5))) (xC (.int 1000003))))))))
def m_l_mixed : List D → Option W := runF 6 B_l_mixed
abbrev s_l_row : Stmt := topS 22
abbrev N_l_row : List Str := ["script", "many", "big", "row", "k"]
theorem sc_l_row : FnScope N_l_row ["script", "many"] (defScope s_l_row) := ⟨rfl, rfl, rfl, by decide +kernel, rfl, by decide +kernel, by decide +kernel⟩
def B_l_row : SF := sSeq (sSet 2 (xC (.int 0))) (sSeq (sIf (tA (tGt (x1 wLen (xRd 0)) (xC (.int 0))) (tGe (x2 wIx (xRd 0) (xC (.int 0))) (xPow (xC (.int 10)) (xC (.int 18))))) (sSet 2 (x2 wIx (xRd 0) (xC (.int 0)))) (sNil)) (sSeq (sSet 3 (xLst (aN))) (sSeq (sKill [2, 4] (sFor (iR1 (xRd 1)) (gN 4) (sKill [4] (sIf (tGt (xRd 2) (xC (.int 0))) (sSeq (sApp 3 (xMod (x1 wToI (xRd 2)) (xC (.int 1000)))) (sSet 2 (xFd (xRd 2) (xC (.int 1000))))) (sApp 3 (xCall 2 m_l_mixed (aC (xVar 0) (aC (xVar 4) (aN))))))))) (sRet (xRd 3)))))
def m_l_row : List D → Option W := runF 5 B_l_row
abbrev s_l_common : Stmt := topS 25
abbrev N_l_common : List Str := ["first", "second"]
theorem sc_l_common : FnScope N_l_common ["first", "second"] (defScope s_l_common) := ⟨rfl, rfl, rfl, by decide +kernel, rfl, by decide +kernel, by decide +kernel⟩
def B_l_common : SF := sSeq (sPar 0 1 (x1 wAbs (xRd 0)) (x1 wAbs (xRd 1))) (sSeq (sKill [1] (whileL (tGt (xRd 1) (xC (.int 0))) (sPar 0 1 (xVar 1) (xMod (x1 wToI (xRd 0)) (xRd 1))) 1048576)) (sRet (xVar 0)))
def m_l_common : List D → Option W := runF 2 B_l_common
abbrev s_l_is_int : Stmt := topS 23
abbrev N_l_is_int : List Str := ["value"]
theorem sc_l_is_int : FnScope N_l_is_int ["value"] (defScope s_l_is_int) := ⟨rfl, rfl, rfl, by decide +kernel, rfl, by decide +kernel, by decide +kernel⟩
def B_l_is_int : SF := sRet (xA (x1 (wIsi "int") (xRd 0)) (xB (tN (tV (x1 (wIsi "bool") (xRd 0))))))
def m_l_is_int : List D → Option W := runF 1 B_l_is_int
abbrev s_l_like : Stmt := topS 24
abbrev N_l_like : List Str := ["value", "due", "k"]
theorem sc_l_like : FnScope N_l_like ["value", "due"] (defScope s_l_like) := ⟨rfl, rfl, rfl, by decide +kernel, rfl, by decide +kernel, by decide +kernel⟩
def B_l_like (φ : List D → Option W) : SF := sSeq (sIf (tIs (xRd 1) (xC .none)) (sRet (xB (tIs (xRd 0) (xC .none)))) (sNil)) (sSeq (sIf (tV (x1 (wIsi "bool") (xRd 1))) (sRet (xA (x1 (wIsi "bool") (xRd 0)) (xB (tEq (xRd 0) (xRd 1))))) (sNil)) (sSeq (sIf (tV (x1 (wIsi "tuple") (xRd 1))) (sSeq (sIf (tO (tN (tV (x1 (wIsi "tuple") (xRd 0)))) (tNe (x1 wLen (xRd 0)) (x1 wLen (xRd 1)))) (sRet (xC (.bool false))) (sNil)) (sRet (x1 wAll (xLc [2] (iR1 (x1 wLen (xRd 1))) (gN 2) (pY) (xCall 2 φ (aC (x2 wIx (xRd 0) (xRd 2)) (aC (x2 wIx (xRd 1) (xRd 2)) (aN)))))))) (sNil)) (sSeq (sIf (tV (x1 (wIsi "str") (xRd 1))) (sRet (xA (x1 (wIsi "str") (xRd 0)) (xB (tEq (xRd 0) (xRd 1))))) (sNil)) (sRet (xA (xCall 1 m_l_is_int (aC (xVar 0) (aN))) (xB (tEq (xRd 0) (xRd 1))))))))
def mr_l_like : Nat → List D → Option W
  | 0 => fun _ => none
  | n + 1 => runF 3 (B_l_like (mr_l_like n))
def m_l_like : List D → Option W := mr_l_like 12
abbrev s_divisor : Stmt := topS 1
abbrev N_divisor : List Str := ["first", "second"]
theorem sc_divisor : FnScope N_divisor ["first", "second"] (defScope s_divisor) := ⟨rfl, rfl, rfl, by decide +kernel, rfl, by decide +kernel, by decide +kernel⟩
def B_divisor : SF := sSeq (sPar 0 1 (x1 wAbs (xRd 0)) (x1 wAbs (xRd 1))) (sSeq (sKill [1] (whileL (tGt (xRd 1) (xC (.int 0))) (sPar 0 1 (xVar 1) (xMod (xRd 0) (xRd 1))) 1048576)) (sRet (xVar 0)))
def m_divisor : List D → Option W := runF 2 B_divisor
abbrev s_common_round : Stmt := topS 6
abbrev N_common_round : List Str := ["p", "q"]
theorem sc_common_round : FnScope N_common_round ["p", "q"] (defScope s_common_round) := ⟨rfl, rfl, rfl, by decide +kernel, rfl, by decide +kernel, by decide +kernel⟩
def B_common_round : SF := sRet (xFd (xMul (xSub (xRd 0) (xC (.int 1))) (xSub (xRd 1) (xC (.int 1)))) (xCall 2 m_divisor (aC (xSub (xRd 0) (xC (.int 1))) (aC (xSub (xRd 1) (xC (.int 1))) (aN)))))
def m_common_round : List D → Option W := runF 2 B_common_round
abbrev s_turned_number : Stmt := topS 3
abbrev N_turned_number : List Str := ["a", "n", "x"]
theorem sc_turned_number : FnScope N_turned_number ["a", "n"] (defScope s_turned_number) := ⟨rfl, rfl, rfl, by decide +kernel, rfl, by decide +kernel, by decide +kernel⟩
def B_turned_number : SF := sSeq (sKill [2] (sFor (iR1 (xRd 1)) (gN 2) (sKill [2] (sIf (tEq (xMod (xMul (xRd 0) (xRd 2)) (xRd 1)) (xC (.int 1))) (sRet (xVar 2)) (sNil))))) (sRet (xC .none))
def m_turned_number : List D → Option W := runF 3 B_turned_number
abbrev s_lock_key : Stmt := topS 7
abbrev N_lock_key : List Str := ["p", "q", "e", "ring", "d"]
theorem sc_lock_key : FnScope N_lock_key ["p", "q", "e"] (defScope s_lock_key) := ⟨rfl, rfl, rfl, by decide +kernel, rfl, by decide +kernel, by decide +kernel⟩
def B_lock_key : SF := sSeq (sSet 3 (xCall 2 m_common_round (aC (xVar 0) (aC (xVar 1) (aN))))) (sSeq (sSet 4 (xIf (tGt (xRd 3) (xC (.int 1))) (xCall 2 m_turned_number (aC (xMod (xRd 2) (xRd 3)) (aC (xVar 3) (aN)))) (xC .none))) (sRet (xIf (tIs (xRd 4) (xC .none)) (xC .none) (xTup (aC (xMul (xRd 0) (xRd 1)) (aC (xVar 2) (aC (xVar 4) (aN))))))))
def m_lock_key : List D → Option W := runF 5 B_lock_key
abbrev s_l_key : Stmt := topS 32
abbrev N_l_key : List Str := ["row", "pairs", "p", "q", "ring", "fitting", "e", "turned", "d"]
theorem sc_l_key : FnScope N_l_key ["row"] (defScope s_l_key) := ⟨rfl, rfl, rfl, by decide +kernel, rfl, by decide +kernel, by decide +kernel⟩
def B_l_key : SF := sSeq (sSet 1 (xTup (aC (xTup (aC (xC (.int 5)) (aC (xC (.int 17)) (aN)))) (aC (xTup (aC (xC (.int 7)) (aC (xC (.int 11)) (aN)))) (aC (xTup (aC (xC (.int 19)) (aC (xC (.int 5)) (aN)))) (aC (xTup (aC (xC (.int 7)) (aC (xC (.int 13)) (aN)))) (aC (xTup (aC (xC (.int 17)) (aC (xC (.int 7)) (aN)))) (aC (xTup (aC (xC (.int 11)) (aC (xC (.int 13)) (aN)))) (aC (xTup (aC (xC (.int 7)) (aC (xC (.int 19)) (aN)))) (aC (xTup (aC (xC (.int 17)) (aC (xC (.int 11)) (aN)))) (aC (xTup (aC (xC (.int 13)) (aC (xC (.int 17)) (aN)))) (aC (xTup (aC (xC (.int 19)) (aC (xC (.int 13)) (aN)))) (aN))))))))))))) (sSeq (sAsg (x2 wIx (xRd 1) (xMod (x1 wToI (x2 wIx (xRd 0) (xC (.int 0)))) (xC (.int 10)))) (gT 2 (gsC (gN 2) (gsC (gN 3) (gsN))))) (sSeq (sSet 4 (xFd (xMul (xSub (xRd 2) (xC (.int 1))) (xSub (xRd 3) (xC (.int 1)))) (xCall 2 m_l_common (aC (xSub (xRd 2) (xC (.int 1))) (aC (xSub (xRd 3) (xC (.int 1))) (aN)))))) (sSeq (sSet 5 (xLc [6] (iR2 (xC (.int 2)) (xC (.int 40))) (gN 6) (tEq (xCall 2 m_l_common (aC (xVar 6) (aC (xVar 4) (aN)))) (xC (.int 1))) (xVar 6))) (sSeq (sSet 6 (x2 wIx (xRd 5) (xMod (x1 wToI (x2 wIx (xRd 0) (xC (.int 1)))) (x1 wLen (xRd 5))))) (sSeq (sSet 7 (xLc [8] (iR2 (xC (.int 1)) (xRd 4)) (gN 8) (tEq (xMod (x1 wToI (xMul (xRd 6) (xRd 8))) (xRd 4)) (xC (.int 1))) (xVar 8))) (sSeq (sIf (tN (tV (xCall 2 m_l_like (aC (xCall 3 m_lock_key (aC (xVar 2) (aC (xVar 3) (aC (xVar 6) (aN))))) (aC (xTup (aC (xMul (xRd 2) (xRd 3)) (aC (xVar 6) (aC (x2 wIx (xRd 7) (xC (.int 0))) (aN))))) (aN)))))) (sRet (xC .none)) (sNil)) (sRet (xTup (aC (xMul (xRd 2) (xRd 3)) (aC (xVar 6) (aC (x2 wIx (xRd 7) (xC (.int 0))) (aN))))))))))))
def m_l_key : List D → Option W := runF 9 B_l_key
abbrev s_l_gate : Stmt := topS 27
abbrev N_l_gate : List Str := ["kind", "a", "b"]
theorem sc_l_gate : FnScope N_l_gate ["kind", "a", "b"] (defScope s_l_gate) := ⟨rfl, rfl, rfl, by decide +kernel, rfl, by decide +kernel, by decide +kernel⟩
def B_l_gate : SF := sSeq (sIf (tEq (xRd 0) (xC (.str "and"))) (sRet (xMul (xRd 1) (xRd 2))) (sNil)) (sSeq (sIf (tEq (xRd 0) (xC (.str "or"))) (sRet (x2 wMax2 (xRd 1) (xRd 2))) (sNil)) (sRet (xMod (x1 wToI (xAdd (xRd 1) (xRd 2))) (xC (.int 2)))))
def m_l_gate : List D → Option W := runF 3 B_l_gate
abbrev s_l_veil : Stmt := topS 31
abbrev N_l_veil : List Str := ["n", "circuit", "names", "rows", "gate", "kind", "i", "j", "four", "a", "b", "x", "y", "hidden"]
theorem sc_l_veil : FnScope N_l_veil ["n", "circuit", "names"] (defScope s_l_veil) := ⟨rfl, rfl, rfl, by decide +kernel, rfl, by decide +kernel, by decide +kernel⟩
def B_l_veil : SF := sSeq (sSet 3 (xLst (aN))) (sSeq (sKill [4, 5, 6, 7, 8, 9, 10, 11, 12, 13] (sFor (iR1 (x1 wLen (xRd 1))) (gN 4) (sKill [4, 5, 6, 7, 8, 9, 10, 11, 12, 13] (sSeq (sAsg (x2 wIx (xRd 1) (xRd 4)) (gT 3 (gsC (gN 5) (gsC (gN 6) (gsC (gN 7) (gsN)))))) (sSeq (sSet 8 (xMul (xLst (aC (xC (.int 0)) (aN))) (xC (.int 4)))) (sSeq (sKill [9, 10, 11, 12, 13] (sFor (iS (xTup (aC (xC (.int 0)) (aC (xC (.int 1)) (aN))))) (gN 9) (sKill [9, 10, 11, 12, 13] (sKill [10, 11, 12, 13] (sFor (iS (xTup (aC (xC (.int 0)) (aC (xC (.int 1)) (aN))))) (gN 10) (sKill [10, 11, 12, 13] (sSeq (sPar 11 12 (x2 wIx (x2 wIx (xRd 2) (xRd 6)) (xRd 9)) (x2 wIx (x2 wIx (xRd 2) (xRd 7)) (xRd 10))) (sSeq (sSet 13 (xMod (x1 wToI (xAdd (xAdd (xMul (xC (.int 37)) (xRd 11)) (xMul (xC (.int 11)) (xRd 12))) (xRd 4))) (xC (.int 64)))) (sStore 8 (xXor (x2 wIx (x2 wIx (xRd 2) (xAdd (xRd 0) (xRd 4))) (xCall 3 m_l_gate (aC (xVar 5) (aC (xVar 9) (aC (xVar 10) (aN)))))) (xRd 13)) (xAdd (xMul (xC (.int 2)) (xMod (x1 wToI (xRd 11)) (xC (.int 2)))) (xMod (x1 wToI (xRd 12)) (xC (.int 2))))))))))))) (sApp 3 (x1 wToT (xRd 8))))))))) (sRet (x1 wToT (xRd 3))))
def m_l_veil : List D → Option W := runF 14 B_l_veil
abbrev s_l_lines : Stmt := topS 28
abbrev N_l_lines : List Str := ["circuit", "bits", "lines", "kind", "i", "j"]
theorem sc_l_lines : FnScope N_l_lines ["circuit", "bits"] (defScope s_l_lines) := ⟨rfl, rfl, rfl, by decide +kernel, rfl, by decide +kernel, by decide +kernel⟩
def B_l_lines : SF := sSeq (sSet 2 (x1 wToL (xRd 1))) (sSeq (sKill [3, 4, 5] (sFor (iS (xVar 0)) (gT 3 (gsC (gN 3) (gsC (gN 4) (gsC (gN 5) (gsN))))) (sKill [3, 4, 5] (sApp 2 (xCall 3 m_l_gate (aC (xVar 3) (aC (x2 wIx (xRd 2) (xRd 4)) (aC (x2 wIx (xRd 2) (xRd 5)) (aN))))))))) (sRet (x1 wToT (xRd 2))))
def m_l_lines : List D → Option W := runF 6 B_l_lines
abbrev s_l_circuit : Stmt := topS 29
abbrev N_l_circuit : List Str := ["row", "at", "n", "count", "gates", "k", "i", "j"]
theorem sc_l_circuit : FnScope N_l_circuit ["row", "at", "n", "count"] (defScope s_l_circuit) := ⟨rfl, rfl, rfl, by decide +kernel, rfl, by decide +kernel, by decide +kernel⟩
def B_l_circuit : SF := sSeq (sSet 4 (xLst (aN))) (sSeq (sKill [5, 6, 7] (sFor (iR1 (xRd 3)) (gN 5) (sKill [5, 6, 7] (sSeq (sPar 6 7 (xMod (x1 wToI (x2 wIx (xRd 0) (xAdd (xRd 1) (xMul (xC (.int 3)) (xRd 5))))) (xAdd (xRd 2) (xRd 5))) (xMod (x1 wToI (x2 wIx (xRd 0) (xAdd (xAdd (xRd 1) (xMul (xC (.int 3)) (xRd 5))) (xC (.int 1))))) (xSub (xAdd (xRd 2) (xRd 5)) (xC (.int 1))))) (sSeq (sIf (tGe (xRd 7) (xRd 6)) (sSet 7 (xAdd (xRd 7) (xC (.int 1)))) (sNil)) (sApp 4 (xTup (aC (x2 wIx (xTup (aC (xC (.str "and")) (aC (xC (.str "or")) (aC (xC (.str "xor")) (aN))))) (xMod (x1 wToI (x2 wIx (xRd 0) (xAdd (xAdd (xRd 1) (xMul (xC (.int 3)) (xRd 5))) (xC (.int 2))))) (xC (.int 3)))) (aC (xVar 6) (aC (xVar 7) (aN))))))))))) (sRet (x1 wToT (xRd 4))))
def m_l_circuit : List D → Option W := runF 8 B_l_circuit
abbrev s_l_names : Stmt := topS 30
abbrev N_l_names : List Str := ["row", "at", "count", "names", "k", "one"]
theorem sc_l_names : FnScope N_l_names ["row", "at", "count"] (defScope s_l_names) := ⟨rfl, rfl, rfl, by decide +kernel, rfl, by decide +kernel, by decide +kernel⟩
def B_l_names : SF := sSeq (sSet 3 (xLst (aN))) (sSeq (sKill [4, 5] (sFor (iR1 (xRd 2)) (gN 4) (sKill [4, 5] (sSeq (sSet 5 (xMod (x1 wToI (x2 wIx (xRd 0) (xAdd (xRd 1) (xMul (xC (.int 2)) (xRd 4))))) (xC (.int 64)))) (sApp 3 (xTup (aC (xVar 5) (aC (xSub (xAdd (xMul (xC (.int 2)) (xMod (x1 wToI (x2 wIx (xRd 0) (xAdd (xAdd (xRd 1) (xMul (xC (.int 2)) (xRd 4))) (xC (.int 1))))) (xC (.int 32)))) (xC (.int 1))) (xMod (xRd 5) (xC (.int 2)))) (aN))))))))) (sRet (x1 wToT (xRd 3))))
def m_l_names : List D → Option W := runF 6 B_l_names
abbrev s_taken : Stmt := topS 9
abbrev N_taken : List Str := ["n", "answer", "draw"]
theorem sc_taken : FnScope N_taken ["n", "answer", "draw"] (defScope s_taken) := ⟨rfl, rfl, rfl, by decide +kernel, rfl, by decide +kernel, by decide +kernel⟩
def B_taken : SF := sRet (xMod (xSub (xRd 1) (xRd 2)) (xRd 0))
def m_taken : List D → Option W := runF 3 B_taken
abbrev s_l_power : Stmt := topS 26
abbrev N_l_power : List Str := ["a", "e", "n", "found", "base", "left"]
theorem sc_l_power : FnScope N_l_power ["a", "e", "n"] (defScope s_l_power) := ⟨rfl, rfl, rfl, by decide +kernel, rfl, by decide +kernel, by decide +kernel⟩
def B_l_power : SF := sSeq (sPar3 3 4 5 (xMod (xC (.int 1)) (xRd 2)) (xMod (x1 wToI (xRd 0)) (xRd 2)) (xVar 1)) (sSeq (sKill [4, 5] (whileL (tGt (xRd 5) (xC (.int 0))) (sSeq (sIf (tEq (xMod (x1 wToI (xRd 5)) (xC (.int 2))) (xC (.int 1))) (sSet 3 (xMod (xMul (xRd 3) (xRd 4)) (xRd 2))) (sNil)) (sPar 4 5 (xMod (xMul (xRd 4) (xRd 4)) (xRd 2)) (xFd (xRd 5) (xC (.int 2))))) 1048576)) (sRet (xVar 3)))
def m_l_power : List D → Option W := runF 6 B_l_power
abbrev s_power_in : Stmt := topS 4
abbrev N_power_in : List Str := ["a", "e", "n", "found", "base"]
theorem sc_power_in : FnScope N_power_in ["a", "e", "n"] (defScope s_power_in) := ⟨rfl, rfl, rfl, by decide +kernel, rfl, by decide +kernel, by decide +kernel⟩
def B_power_in : SF := sSeq (sPar 3 4 (xMod (xC (.int 1)) (xRd 2)) (xMod (xRd 0) (xRd 2))) (sSeq (sKill [1, 4] (whileL (tGt (xRd 1) (xC (.int 0))) (sSeq (sIf (tEq (xMod (xRd 1) (xC (.int 2))) (xC (.int 1))) (sSet 3 (xMod (xMul (xRd 3) (xRd 4)) (xRd 2))) (sNil)) (sPar 4 1 (xMod (xMul (xRd 4) (xRd 4)) (xRd 2)) (xFd (xRd 1) (xC (.int 2))))) 1048576)) (sRet (xVar 3)))
def m_power_in : List D → Option W := runF 5 B_power_in
abbrev s_taken_one : Stmt := topS 8
abbrev N_taken_one : List Str := ["key", "numbers", "told", "choice", "draw", "n", "e", "d", "asked", "answers", "number", "one"]
theorem sc_taken_one : FnScope N_taken_one ["key", "numbers", "told", "choice", "draw"] (defScope s_taken_one) := ⟨rfl, rfl, rfl, by decide +kernel, rfl, by decide +kernel, by decide +kernel⟩
def B_taken_one : SF := sSeq (sAsg (xVar 0) (gT 3 (gsC (gN 5) (gsC (gN 6) (gsC (gN 7) (gsN)))))) (sSeq (sSet 8 (xMod (xAdd (x2 wIx (xRd 2) (xRd 3)) (xCall 3 m_power_in (aC (xVar 4) (aC (xVar 6) (aC (xVar 5) (aN)))))) (xRd 5))) (sSeq (sSet 9 (xLc [10, 11] (iZp (xVar 1) (xVar 2)) (gT 2 (gsC (gN 10) (gsC (gN 11) (gsN)))) (pY) (xMod (xAdd (xRd 10) (xCall 3 m_power_in (aC (xSub (xRd 8) (xRd 11)) (aC (xVar 7) (aC (xVar 5) (aN)))))) (xRd 5)))) (sRet (xTup (aC (xVar 8) (aC (x2 wIx (xRd 9) (xC (.int 0))) (aC (x2 wIx (xRd 9) (xC (.int 1))) (aN))))))))
def m_taken_one : List D → Option W := runF 12 B_taken_one
abbrev s_choice_draws : Stmt := topS 10
abbrev N_choice_draws : List Str := ["n", "e", "told", "asked", "choice", "k"]
theorem sc_choice_draws : FnScope N_choice_draws ["n", "e", "told", "asked"] (defScope s_choice_draws) := ⟨rfl, rfl, rfl, by decide +kernel, rfl, by decide +kernel, by decide +kernel⟩
def B_choice_draws : SF := sRet (x1 wToT (xLc [4] (iB (xTup (aC (xC (.int 0)) (aC (xC (.int 1)) (aN))))) (gN 4) (pY) (x1 wToT (xLc [5] (iR1 (xRd 0)) (gN 5) (tEq (xMod (xSub (xAdd (x2 wIx (xRd 2) (xRd 4)) (xCall 3 m_power_in (aC (xVar 5) (aC (xVar 1) (aC (xVar 0) (aN)))))) (xRd 3)) (xRd 0)) (xC (.int 0))) (xVar 5)))))
def m_choice_draws : List D → Option W := runF 6 B_choice_draws
abbrev s_l_taken : Stmt := topS 33
abbrev N_l_taken : List Str := ["key", "numbers", "told", "choice", "draw", "n", "e", "d", "asked", "answers", "powers", "ways", "k", "one"]
theorem sc_l_taken : FnScope N_l_taken ["key", "numbers", "told", "choice", "draw"] (defScope s_l_taken) := ⟨rfl, rfl, rfl, by decide +kernel, rfl, by decide +kernel, by decide +kernel⟩
def B_l_taken : SF := sSeq (sAsg (xVar 0) (gT 3 (gsC (gN 5) (gsC (gN 6) (gsC (gN 7) (gsN)))))) (sSeq (sSet 8 (xMod (x1 wToI (xAdd (x2 wIx (xRd 2) (xRd 3)) (xCall 3 m_l_power (aC (xVar 4) (aC (xVar 6) (aC (xVar 5) (aN))))))) (xRd 5))) (sSeq (sSet 9 (xLc [12] (iB (xTup (aC (xC (.int 0)) (aC (xC (.int 1)) (aN))))) (gN 12) (pY) (xMod (x1 wToI (xAdd (x2 wIx (xRd 1) (xRd 12)) (xCall 3 m_l_power (aC (xMod (x1 wToI (xSub (xRd 8) (x2 wIx (xRd 2) (xRd 12)))) (xRd 5)) (aC (xVar 7) (aC (xVar 5) (aN))))))) (xRd 5)))) (sSeq (sIf (tN (tV (xCall 2 m_l_like (aC (xCall 5 m_taken_one (aC (xVar 0) (aC (xVar 1) (aC (xVar 2) (aC (xVar 3) (aC (xVar 4) (aN))))))) (aC (xTup (aC (xVar 8) (aC (x2 wIx (xRd 9) (xC (.int 0))) (aC (x2 wIx (xRd 9) (xC (.int 1))) (aN))))) (aN)))))) (sRet (xC .none)) (sNil)) (sSeq (sSet 10 (xLc [13] (iR1 (xRd 5)) (gN 13) (pY) (xCall 3 m_l_power (aC (xVar 13) (aC (xVar 6) (aC (xVar 5) (aN))))))) (sSeq (sSet 11 (xLc [12] (iB (xTup (aC (xC (.int 0)) (aC (xC (.int 1)) (aN))))) (gN 12) (pY) (x1 wToT (xLc [13] (iR1 (xRd 5)) (gN 13) (tEq (xMod (x1 wToI (xAdd (x2 wIx (xRd 2) (xRd 12)) (x2 wIx (xRd 10) (xRd 13)))) (xRd 5)) (xRd 8)) (xVar 13))))) (sSeq (sIf (tO (tNe (x1 wLen (x2 wIx (xRd 11) (xC (.int 0)))) (xC (.int 1))) (tO (tNe (x1 wLen (x2 wIx (xRd 11) (xC (.int 1)))) (xC (.int 1))) (tNe (x2 wIx (xRd 11) (xRd 3)) (xTup (aC (xVar 4) (aN)))))) (sRet (xC .none)) (sNil)) (sSeq (sIf (tN (tV (xCall 2 m_l_like (aC (xCall 4 m_choice_draws (aC (xVar 5) (aC (xVar 6) (aC (xVar 2) (aC (xVar 8) (aN)))))) (aC (xTup (aC (x2 wIx (xRd 11) (xC (.int 0))) (aC (x2 wIx (xRd 11) (xC (.int 1))) (aN)))) (aN)))))) (sRet (xC .none)) (sNil)) (sSeq (sKill [12] (sFor (iS (xTup (aC (xC (.int 0)) (aC (xC (.int 1)) (aN))))) (gN 12) (sKill [12] (sIf (tN (tV (xCall 2 m_l_like (aC (xCall 3 m_taken (aC (xVar 5) (aC (x2 wIx (xRd 9) (xRd 12)) (aC (x2 wIx (x2 wIx (xRd 11) (xRd 12)) (xC (.int 0))) (aN))))) (aC (x2 wIx (xRd 1) (xRd 12)) (aN)))))) (sRet (xC .none)) (sNil))))) (sRet (xCall 3 m_taken (aC (xVar 5) (aC (x2 wIx (xRd 9) (xRd 3)) (aC (xVar 4) (aN))))))))))))))
def m_l_taken : List D → Option W := runF 14 B_l_taken
abbrev s_row_place : Stmt := topS 15
abbrev N_row_place : List Str := ["x", "y"]
theorem sc_row_place : FnScope N_row_place ["x", "y"] (defScope s_row_place) := ⟨rfl, rfl, rfl, by decide +kernel, rfl, by decide +kernel, by decide +kernel⟩
def B_row_place : SF := sRet (xAdd (xMul (xC (.int 2)) (xMod (xRd 0) (xC (.int 2)))) (xMod (xRd 1) (xC (.int 2))))
def m_row_place : List D → Option W := runF 2 B_row_place
abbrev s_veil_of : Stmt := topS 14
abbrev N_veil_of : List Str := ["x", "y", "gate"]
theorem sc_veil_of : FnScope N_veil_of ["x", "y", "gate"] (defScope s_veil_of) := ⟨rfl, rfl, rfl, by decide +kernel, rfl, by decide +kernel, by decide +kernel⟩
def B_veil_of : SF := sRet (xMod (xAdd (xAdd (xMul (xC (.int 37)) (xRd 0)) (xMul (xC (.int 11)) (xRd 1))) (xRd 2)) (xC (.int 64)))
def m_veil_of : List D → Option W := runF 3 B_veil_of
abbrev s_gate_bit : Stmt := topS 12
abbrev N_gate_bit : List Str := ["kind", "first", "second"]
theorem sc_gate_bit : FnScope N_gate_bit ["kind", "first", "second"] (defScope s_gate_bit) := ⟨rfl, rfl, rfl, by decide +kernel, rfl, by decide +kernel, by decide +kernel⟩
def B_gate_bit : SF := sSeq (sIf (tEq (xRd 0) (xC (.str "and"))) (sRet (xAnd (xRd 1) (xRd 2))) (sNil)) (sSeq (sIf (tEq (xRd 0) (xC (.str "or"))) (sRet (xOr (xRd 1) (xRd 2))) (sNil)) (sRet (xXor (xRd 1) (xRd 2))))
def m_gate_bit : List D → Option W := runF 3 B_gate_bit
abbrev s_veiled_gate : Stmt := topS 16
abbrev N_veiled_gate : List Str := ["names", "results", "gate", "place", "kind", "i", "j", "rows", "first", "second", "x", "y"]
theorem sc_veiled_gate : FnScope N_veiled_gate ["names", "results", "gate", "place"] (defScope s_veiled_gate) := ⟨rfl, rfl, rfl, by decide +kernel, rfl, by decide +kernel, by decide +kernel⟩
def B_veiled_gate : SF := sSeq (sAsg (xVar 2) (gT 3 (gsC (gN 4) (gsC (gN 5) (gsC (gN 6) (gsN)))))) (sSeq (sSet 7 (xMul (xLst (aC (xC (.int 0)) (aN))) (xC (.int 4)))) (sSeq (sKill [8, 9, 10, 11] (sFor (iR1 (xC (.int 2))) (gN 8) (sKill [8, 9, 10, 11] (sKill [9, 10, 11] (sFor (iR1 (xC (.int 2))) (gN 9) (sKill [9, 10, 11] (sSeq (sPar 10 11 (x2 wIx (x2 wIx (xRd 0) (xRd 5)) (xRd 8)) (x2 wIx (x2 wIx (xRd 0) (xRd 6)) (xRd 9))) (sStore 7 (xXor (x2 wIx (xRd 1) (xCall 3 m_gate_bit (aC (xVar 4) (aC (xVar 8) (aC (xVar 9) (aN)))))) (xCall 3 m_veil_of (aC (xVar 10) (aC (xVar 11) (aC (xVar 3) (aN)))))) (xCall 2 m_row_place (aC (xVar 10) (aC (xVar 11) (aN)))))))))))) (sRet (x1 wToT (xRd 7)))))
def m_veiled_gate : List D → Option W := runF 12 B_veiled_gate
abbrev s_veiled : Stmt := topS 17
abbrev N_veiled : List Str := ["n", "circuit", "names", "place", "gate"]
theorem sc_veiled : FnScope N_veiled ["n", "circuit", "names"] (defScope s_veiled) := ⟨rfl, rfl, rfl, by decide +kernel, rfl, by decide +kernel, by decide +kernel⟩
def B_veiled : SF := sRet (x1 wToT (xLc [3, 4] (iEn (xVar 1)) (gT 2 (gsC (gN 3) (gsC (gN 4) (gsN)))) (pY) (xCall 4 m_veiled_gate (aC (xVar 2) (aC (x2 wIx (xRd 2) (xAdd (xRd 0) (xRd 3))) (aC (xVar 4) (aC (xVar 3) (aN))))))))
def m_veiled : List D → Option W := runF 5 B_veiled
abbrev s_circuit_told : Stmt := topS 13
abbrev N_circuit_told : List Str := ["n", "circuit", "bits", "lines", "kind", "i", "j"]
theorem sc_circuit_told : FnScope N_circuit_told ["n", "circuit", "bits"] (defScope s_circuit_told) := ⟨rfl, rfl, rfl, by decide +kernel, rfl, by decide +kernel, by decide +kernel⟩
def B_circuit_told : SF := sSeq (sSet 3 (x1 wToL (xSl (xRd 2) (pN) (pS (xRd 0))))) (sSeq (sKill [4, 5, 6] (sFor (iS (xVar 1)) (gT 3 (gsC (gN 4) (gsC (gN 5) (gsC (gN 6) (gsN))))) (sKill [4, 5, 6] (sApp 3 (xCall 3 m_gate_bit (aC (xVar 4) (aC (x2 wIx (xRd 3) (xRd 5)) (aC (x2 wIx (xRd 3) (xRd 6)) (aN))))))))) (sRet (x1 wToT (xRd 3))))
def m_circuit_told : List D → Option W := runF 7 B_circuit_told
abbrev s_veiled_told : Stmt := topS 18
abbrev N_veiled_told : List Str := ["n", "circuit", "rows", "given", "lines", "place", "_", "i", "j", "x", "y"]
theorem sc_veiled_told : FnScope N_veiled_told ["n", "circuit", "rows", "given"] (defScope s_veiled_told) := ⟨rfl, rfl, rfl, by decide +kernel, rfl, by decide +kernel, by decide +kernel⟩
def B_veiled_told : SF := sSeq (sSet 4 (x1 wToL (xSl (xRd 3) (pN) (pS (xRd 0))))) (sSeq (sKill [5, 6, 7, 8, 9, 10] (sFor (iEn (xVar 1)) (gT 2 (gsC (gN 5) (gsC (gT 3 (gsC (gN 6) (gsC (gN 7) (gsC (gN 8) (gsN))))) (gsN)))) (sKill [5, 6, 7, 8, 9, 10] (sSeq (sPar 9 10 (x2 wIx (xRd 4) (xRd 7)) (x2 wIx (xRd 4) (xRd 8))) (sApp 4 (xXor (x2 wIx (x2 wIx (xRd 2) (xRd 5)) (xCall 2 m_row_place (aC (xVar 9) (aC (xVar 10) (aN))))) (xCall 3 m_veil_of (aC (xVar 9) (aC (xVar 10) (aC (xVar 5) (aN))))))))))) (sRet (x1 wToT (xRd 4))))
def m_veiled_told : List D → Option W := runF 11 B_veiled_told
abbrev s_name_bit : Stmt := topS 19
abbrev N_name_bit : List Str := ["names", "line", "name", "bit"]
theorem sc_name_bit : FnScope N_name_bit ["names", "line", "name"] (defScope s_name_bit) := ⟨rfl, rfl, rfl, by decide +kernel, rfl, by decide +kernel, by decide +kernel⟩
def B_name_bit : SF := sSeq (sKill [3] (sFor (iR1 (xC (.int 2))) (gN 3) (sKill [3] (sIf (tEq (x2 wIx (x2 wIx (xRd 0) (xRd 1)) (xRd 3)) (xRd 2)) (sRet (xVar 3)) (sNil))))) (sRet (xC .none))
def m_name_bit : List D → Option W := runF 4 B_name_bit
abbrev s_law : Stmt := topS 34
abbrev N_law : List Str := ["script", "row", "key", "n", "count", "circuit", "names", "bits", "rows", "given", "line", "first", "told", "found", "lines", "due", "k"]
theorem sc_law : FnScope N_law ["script"] (defScope s_law) := ⟨rfl, rfl, rfl, by decide +kernel, rfl, by decide +kernel, by decide +kernel⟩
def B_law : SF := sSeq (sSet 1 (xCall 2 m_l_row (aC (xVar 0) (aC (xC (.int 60)) (aN))))) (sFrz 1 (sSeq (sSet 2 (xCall 1 m_l_key (aC (xVar 1) (aN)))) (sSeq (sIf (tIs (xRd 2) (xC .none)) (sRet (xC (.bool false))) (sNil)) (sSeq (sPar 3 4 (x2 wIx (xRd 2) (xC (.int 0))) (xAdd (xC (.int 1)) (xMod (x1 wToI (x2 wIx (xRd 1) (xC (.int 2)))) (xC (.int 6))))) (sFrz 1 (sSeq (sAsg (xTup (aC (xCall 4 m_l_circuit (aC (xVar 1) (aC (xC (.int 3)) (aC (xC (.int 4)) (aC (xVar 4) (aN)))))) (aC (xCall 3 m_l_names (aC (xVar 1) (aC (xC (.int 21)) (aC (xAdd (xC (.int 4)) (xRd 4)) (aN))))) (aN)))) (gT 2 (gsC (gN 5) (gsC (gN 6) (gsN))))) (sSeq (sSet 7 (x1 wToT (xLc [16] (iR1 (xC (.int 4))) (gN 16) (pY) (xMod (x1 wToI (x2 wIx (xRd 1) (xAdd (xC (.int 41)) (xRd 16)))) (xC (.int 2)))))) (sSeq (sSet 8 (xCall 3 m_l_veil (aC (xC (.int 4)) (aC (xVar 5) (aC (xVar 6) (aN)))))) (sSeq (sIf (tN (tV (xCall 2 m_l_like (aC (xCall 3 m_veiled (aC (xC (.int 4)) (aC (xVar 5) (aC (xVar 6) (aN))))) (aC (xVar 8) (aN)))))) (sRet (xC (.bool false))) (sNil)) (sSeq (sSet 9 (xLst (aC (x2 wIx (x2 wIx (xRd 6) (xC (.int 0))) (x2 wIx (xRd 7) (xC (.int 0)))) (aC (x2 wIx (x2 wIx (xRd 6) (xC (.int 1))) (x2 wIx (xRd 7) (xC (.int 1)))) (aN))))) (sSeq (sKill [10, 11, 12, 13] (sFor (iS (xTup (aC (xC (.int 2)) (aC (xC (.int 3)) (aN))))) (gN 10) (sKill [10, 11, 12, 13] (sSeq (sSet 11 (xMod (x1 wToI (x2 wIx (xRd 1) (xAdd (xC (.int 43)) (xRd 10)))) (xRd 3))) (sSeq (sSet 12 (xTup (aC (xVar 11) (aC (xMod (x1 wToI (xAdd (xAdd (xRd 11) (xC (.int 1))) (xMod (x1 wToI (x2 wIx (xRd 1) (xAdd (xC (.int 45)) (xRd 10)))) (xSub (xRd 3) (xC (.int 1)))))) (xRd 3)) (aN))))) (sSeq (sSet 13 (xCall 5 m_l_taken (aC (xVar 2) (aC (x2 wIx (xRd 6) (xRd 10)) (aC (xVar 12) (aC (x2 wIx (xRd 7) (xRd 10)) (aC (xMod (x1 wToI (x2 wIx (xRd 1) (xAdd (xC (.int 47)) (xRd 10)))) (xRd 3)) (aN)))))))) (sSeq (sIf (tIs (xRd 13) (xC .none)) (sRet (xC (.bool false))) (sNil)) (sApp 9 (xVar 13))))))))) (sSeq (sSet 14 (xCall 2 m_l_lines (aC (xVar 5) (aC (xVar 7) (aN))))) (sSeq (sSet 15 (x1 wToT (xLc [16] (iR1 (xAdd (xC (.int 4)) (xRd 4))) (gN 16) (pY) (x2 wIx (x2 wIx (xRd 6) (xRd 16)) (x2 wIx (xRd 14) (xRd 16)))))) (sSeq (sIf (tN (tV (xCall 2 m_l_like (aC (xCall 3 m_circuit_told (aC (xC (.int 4)) (aC (xVar 5) (aC (xVar 7) (aN))))) (aC (xVar 14) (aN)))))) (sRet (xC (.bool false))) (sNil)) (sSeq (sIf (tN (tV (xCall 2 m_l_like (aC (xCall 4 m_veiled_told (aC (xC (.int 4)) (aC (xVar 5) (aC (xVar 8) (aC (x1 wToT (xRd 9)) (aN)))))) (aC (xVar 15) (aN)))))) (sRet (xC (.bool false))) (sNil)) (sRet (x1 wAll (xLc [16] (iR1 (xAdd (xC (.int 4)) (xRd 4))) (gN 16) (pY) (xCall 2 m_l_like (aC (xCall 3 m_name_bit (aC (xVar 6) (aC (xVar 16) (aC (x2 wIx (xRd 15) (xRd 16)) (aN))))) (aC (x2 wIx (xRd 14) (xRd 16)) (aN))))))))))))))))))))))
def m_law : List D → Option W := runF 17 B_law
section
variable {P : Program} {w : World} {K : PySem.W.Frag} {mg : Str → Option Value} {base : Heap}
set_option maxHeartbeats 4000000
theorem ok_l_mixed (Z : Nb mg)  (F : Fn0 K mg "_law_mixed" s_l_mixed ["script", "k"]) : Def P w K mg base 1 "_law_mixed" ["script", "k"] m_l_mixed :=
  def_ok F sc_l_mixed fun f _ cdv A outer s H E hr => (es_cons (es_set (i := 2) sc_l_mixed.nd rfl (Or.inl rfl) (ev_int)) (es_cons (es_if (et_gt (be (ev_len (by rfl) Z.b_len (ev_rd (i := 0) rfl (Or.inl rfl)))) (be (ev_int))) (es_one (es_set (i := 2) sc_l_mixed.nd rfl (Or.inl rfl) (ev_ix (ev_rd (i := 0) rfl (Or.inl rfl)) (be (ev_mod (ev_rd (i := 1) rfl (Or.inl rfl)) (be (ev_len (by rfl) Z.b_len (ev_rd (i := 0) rfl (Or.inl rfl)))))) (fun _ _ => rfl)))) (es_nil)) (es_cons (es_set (i := 3) sc_l_mixed.nd rfl (Or.inl rfl) (ev_mod (be (ev_toI (by rfl) Z.b_int (be (ev_add (be (ev_add (be (ev_mul (ev_rd (i := 2) rfl (Or.inl rfl)) (be (ev_int)))) (be (ev_mul (ev_rd (i := 1) rfl (Or.inl rfl)) (be (ev_int)))))) (be (ev_int)))))) (be (ev_int)))) (es_cons (es_set (i := 4) sc_l_mixed.nd rfl (Or.inl rfl) (ev_mod (be (ev_toI (by rfl) Z.b_int (be (ev_add (be (ev_add (be (ev_mul (ev_rd (i := 3) rfl (Or.inl rfl)) (ev_rd (i := 3) rfl (Or.inl rfl)))) (be (ev_fdiv (ev_rd (i := 3) rfl (Or.inl rfl)) (be (ev_int)))))) (be (ev_mul (ev_rd (i := 1) rfl (Or.inl rfl)) (be (ev_int)))))))) (be (ev_int)))) (es_cons (es_set (i := 5) sc_l_mixed.nd rfl (Or.inl rfl) (ev_mod (be (ev_toI (by rfl) Z.b_int (be (ev_add (be (ev_add (be (ev_mul (ev_rd (i := 4) rfl (Or.inl rfl)) (ev_rd (i := 4) rfl (Or.inl rfl)))) (be (ev_fdiv (ev_rd (i := 4) rfl (Or.inl rfl)) (be (ev_int)))))) (be (ev_int)))))) (be (ev_int)))) (es_one (es_ret (ev_mod (be (ev_fdiv (ev_rd (i := 5) rfl (Or.inl rfl)) (be (ev_int)))) (be (ev_int))))))))))
theorem ok_l_row (Z : Nb mg) (D_l_mixed : Def P w K mg base 1 "_law_mixed" ["script", "k"] m_l_mixed) (F : Fn0 K mg "_law_row" s_l_row ["script", "many"]) : Def P w K mg base 2 "_law_row" ["script", "many"] m_l_row :=
  def_ok F sc_l_row fun f _ cdv A outer s H E hr => (es_cons (es_set (i := 2) sc_l_row.nd rfl (Or.inl rfl) (ev_int)) (es_cons (es_if (PW.pt (ew_and (et_gt (be (ev_len (by rfl) Z.b_len (ev_rd (i := 0) rfl (Or.inl rfl)))) (be (ev_int))) (ew_and1 (et_ge (be (ev_ix (ev_rd (i := 0) rfl (Or.inl rfl)) (be (ev_int)) (fun _ _ => rfl))) (be (ev_pow (be (ev_int)) (be (ev_int)))))))) (es_one (es_set (i := 2) sc_l_row.nd rfl (Or.inl rfl) (ev_ix (ev_rd (i := 0) rfl (Or.inl rfl)) (be (ev_int)) (fun _ _ => rfl)))) (es_nil)) (es_cons (es_set (i := 3) sc_l_row.nd rfl (Or.inl rfl) (ev_lst (ea_nil))) (es_cons (es_kill [2, 4] (es_for PassesOwn.never rfl (ei_range1 (by rfl) Z.b_range (ev_rd (i := 1) rfl (Or.inl rfl))) (eg_name (i := 4) sc_l_row.nd rfl (Or.inl rfl)) (ess_kill [4] (es_one (es_if (et_gt (ev_rd (i := 2) rfl (Or.inl rfl)) (be (ev_int))) (es_cons (es_append (i := 3) (pv 3) (ev_mod (be (ev_toI (by rfl) Z.b_int (ev_rd (i := 2) rfl (Or.inl rfl)))) (be (ev_int)))) (es_one (es_set (i := 2) sc_l_row.nd rfl (Or.inl rfl) (ev_fdiv (ev_rd (i := 2) rfl (Or.inl rfl)) (be (ev_int)))))) (es_one (es_append (i := 3) (pv 3) (ev_callD D_l_mixed (hr.mono (by decide)) (by rfl) (ea_cons (ev_var (i := 0) rfl (Or.inl rfl)) (ea_cons (ev_var (i := 4) rfl (Or.inl rfl)) (ea_nil))))))))))) (es_one (es_retRd (i := 3) (pv 3)))))))
theorem ok_l_common (Z : Nb mg)  (F : Fn0 K mg "_law_common" s_l_common ["first", "second"]) : Def P w K mg base 1 "_law_common" ["first", "second"] m_l_common :=
  def_ok F sc_l_common fun f _ cdv A outer s H E hr => (es_cons (es_par (i := 0) (j := 1) rfl sc_l_common.nd rfl rfl (by decide) rfl rfl (ev_abs (by rfl) Z.b_abs (ev_rd (i := 0) rfl (Or.inl rfl))) (ev_abs (by rfl) Z.b_abs (ev_rd (i := 1) rfl (Or.inl rfl))) (by rfl)) (es_cons (es_kill [1] (es_while 1048576 PassesOwn.never (et_gt (ev_rd (i := 1) rfl (Or.inl rfl)) (be (ev_int))) (es_one (es_par (i := 0) (j := 1) rfl sc_l_common.nd rfl rfl (by decide) rfl rfl (ev_var (i := 1) rfl (Or.inl rfl)) (ev_mod (be (ev_toI (by rfl) Z.b_int (ev_rd (i := 0) rfl (Or.inl rfl)))) (ev_rd (i := 1) rfl (Or.inl rfl))) (by rfl))))) (es_one (es_ret (ev_var (i := 0) rfl (Or.inl rfl))))))
theorem ok_l_is_int (Z : Nb mg)  (F : Fn0 K mg "_law_is_int" s_l_is_int ["value"]) : Def P w K mg base 1 "_law_is_int" ["value"] m_l_is_int :=
  def_ok F sc_l_is_int fun f _ cdv A outer s H E hr => (es_one (es_ret (ev_andV (ev_isi (T := "int") .int (by rfl) Z.b_isinstance (by rfl) Z.b_int (ev_rd (i := 0) rfl (Or.inl rfl))) (ev_one (ev_notV (be (ev_isi (T := "bool") .bool (by rfl) Z.b_isinstance (by rfl) Z.b_bool (ev_rd (i := 0) rfl (Or.inl rfl)))))))))
theorem okr_l_like (Z : Nb mg) (D_l_is_int : Def P w K mg base 1 "_law_is_int" ["value"] m_l_is_int) (F : Fn0 K mg "_law_like" s_l_like ["value", "due"]) : ∀ n : Nat, Def P w K mg base (2 + n) "_law_like" ["value", "due"] (mr_l_like n)
  | 0 => def_none F
  | n + 1 => def_ok F sc_l_like fun f _ cdv A outer s H E hr => by
    have DR := okr_l_like Z D_l_is_int F n 
    exact (es_cons (es_if (et_is (ev_rd (i := 1) rfl (Or.inr (Or.inl rfl))) (be (ev_non))) (es_one (es_ret (ev_is (ev_rd (i := 0) rfl (Or.inr (Or.inl rfl))) (be (ev_non))))) (es_nil)) (es_cons (es_if (et_val (be (ev_isi (T := "bool") .bool (by rfl) Z.b_isinstance (by rfl) Z.b_bool (ev_rd (i := 1) rfl (Or.inr (Or.inl rfl))))) (fun _ => rfl)) (es_one (es_ret (ev_andV (ev_isi (T := "bool") .bool (by rfl) Z.b_isinstance (by rfl) Z.b_bool (ev_rd (i := 0) rfl (Or.inr (Or.inl rfl)))) (ev_one (ev_eq hr (ev_rd (i := 0) rfl (Or.inr (Or.inl rfl))) (ev_rd (i := 1) rfl (Or.inr (Or.inl rfl)))))))) (es_nil)) (es_cons (es_if (et_val (be (ev_isi (T := "tuple") .tuple (by rfl) Z.b_isinstance (by rfl) Z.b_tuple (ev_rd (i := 1) rfl (Or.inr (Or.inl rfl))))) (fun _ => rfl)) (es_cons (es_if (PW.pt (ew_or (et_not (et_val (be (ev_isi (T := "tuple") .tuple (by rfl) Z.b_isinstance (by rfl) Z.b_tuple (ev_rd (i := 0) rfl (Or.inr (Or.inl rfl))))) (fun _ => rfl))) (ew_or1 (et_ne hr (be (ev_len (by rfl) Z.b_len (ev_rd (i := 0) rfl (Or.inr (Or.inl rfl))))) (be (ev_len (by rfl) Z.b_len (ev_rd (i := 1) rfl (Or.inr (Or.inl rfl))))))))) (es_one (es_ret (ev_bl))) (es_nil)) (es_one (es_ret (ev_all rfl (by rfl) Z.b_all (be (ev_lc (own := [("k", 2)]) rfl sc_l_like.nd (eic (ei_range1 (by rfl) Z.b_range (be (ev_len (by rfl) Z.b_len (ev_rd (i := 1) rfl (Or.inr (Or.inl rfl))))))) (blkOk_by (N := N_l_like) (sc := defScope s_l_like) (by decide +kernel)) (by decide) (fun _ _ _ _ _ => eg_name (i := 2) sc_l_like.nd rfl (Or.inl rfl)) (fun _ _ _ _ _ => epts_nil) (fun _ _ _ _ _ => ev_callD DR (hr) (by rfl) (ea_cons (ev_ix (ev_rd (i := 0) rfl (Or.inr (Or.inl rfl))) (ev_rd (i := 2) rfl (Or.inl rfl)) (fun _ _ => rfl)) (ea_cons (ev_ix (ev_rd (i := 1) rfl (Or.inr (Or.inl rfl))) (ev_rd (i := 2) rfl (Or.inl rfl)) (fun _ _ => rfl)) (ea_nil)))))))))) (es_nil)) (es_cons (es_if (et_val (be (ev_isi (T := "str") .str (by rfl) Z.b_isinstance (by rfl) Z.b_str (ev_rd (i := 1) rfl (Or.inr (Or.inl rfl))))) (fun _ => rfl)) (es_one (es_ret (ev_andV (ev_isi (T := "str") .str (by rfl) Z.b_isinstance (by rfl) Z.b_str (ev_rd (i := 0) rfl (Or.inr (Or.inl rfl)))) (ev_one (ev_eq hr (ev_rd (i := 0) rfl (Or.inr (Or.inl rfl))) (ev_rd (i := 1) rfl (Or.inr (Or.inl rfl)))))))) (es_nil)) (es_one (es_ret (ev_andV (ev_callD D_l_is_int (hr.mono (by show 1 ≤ 2 + n; omega)) (by rfl) (ea_cons (ev_var (i := 0) rfl (Or.inr (Or.inl rfl))) (ea_nil))) (ev_one (ev_eq hr (ev_rd (i := 0) rfl (Or.inr (Or.inl rfl))) (ev_rd (i := 1) rfl (Or.inr (Or.inl rfl))))))))))))
theorem ok_l_like (Z : Nb mg) (D_l_is_int : Def P w K mg base 1 "_law_is_int" ["value"] m_l_is_int) (F : Fn0 K mg "_law_like" s_l_like ["value", "due"]) : Def P w K mg base 14 "_law_like" ["value", "due"] m_l_like := okr_l_like Z D_l_is_int F 12
theorem ok_divisor (Z : Nb mg)  (F : Fn0 K mg "divisor" s_divisor ["first", "second"]) : Def P w K mg base 1 "divisor" ["first", "second"] m_divisor :=
  def_ok F sc_divisor fun f _ cdv A outer s H E hr => (es_cons (es_par (i := 0) (j := 1) rfl sc_divisor.nd rfl rfl (by decide) rfl rfl (ev_abs (by rfl) Z.b_abs (ev_rd (i := 0) rfl (Or.inl rfl))) (ev_abs (by rfl) Z.b_abs (ev_rd (i := 1) rfl (Or.inl rfl))) (by rfl)) (es_cons (es_kill [1] (es_while 1048576 PassesOwn.never (et_gt (ev_rd (i := 1) rfl (Or.inl rfl)) (be (ev_int))) (es_one (es_par (i := 0) (j := 1) rfl sc_divisor.nd rfl rfl (by decide) rfl rfl (ev_var (i := 1) rfl (Or.inl rfl)) (ev_mod (ev_rd (i := 0) rfl (Or.inl rfl)) (ev_rd (i := 1) rfl (Or.inl rfl))) (by rfl))))) (es_one (es_ret (ev_var (i := 0) rfl (Or.inl rfl))))))
theorem ok_common_round (Z : Nb mg) (D_divisor : Def P w K mg base 1 "divisor" ["first", "second"] m_divisor) (F : Fn0 K mg "common_round" s_common_round ["p", "q"]) : Def P w K mg base 2 "common_round" ["p", "q"] m_common_round :=
  def_ok F sc_common_round fun f _ cdv A outer s H E hr => (es_one (es_ret (ev_fdiv (be (ev_mul (be (ev_sub (ev_rd (i := 0) rfl (Or.inl rfl)) (be (ev_int)))) (be (ev_sub (ev_rd (i := 1) rfl (Or.inl rfl)) (be (ev_int)))))) (be (ev_callD D_divisor (hr.mono (by decide)) (by rfl) (ea_cons (ev_sub (ev_rd (i := 0) rfl (Or.inl rfl)) (be (ev_int))) (ea_cons (ev_sub (ev_rd (i := 1) rfl (Or.inl rfl)) (be (ev_int))) (ea_nil))))))))
theorem ok_turned_number (Z : Nb mg)  (F : Fn0 K mg "turned_number" s_turned_number ["a", "n"]) : Def P w K mg base 1 "turned_number" ["a", "n"] m_turned_number :=
  def_ok F sc_turned_number fun f _ cdv A outer s H E hr => (es_cons (es_kill [2] (es_for PassesOwn.never rfl (ei_range1 (by rfl) Z.b_range (ev_rd (i := 1) rfl (Or.inl rfl))) (eg_name (i := 2) sc_turned_number.nd rfl (Or.inl rfl)) (ess_kill [2] (es_one (es_if (et_eq hr (be (ev_mod (be (ev_mul (ev_rd (i := 0) rfl (Or.inl rfl)) (ev_rd (i := 2) rfl (Or.inl rfl)))) (ev_rd (i := 1) rfl (Or.inl rfl)))) (be (ev_int))) (es_one (es_ret (ev_var (i := 2) rfl (Or.inl rfl)))) (es_nil)))))) (es_one (es_ret (ev_non))))
theorem ok_lock_key (Z : Nb mg) (D_common_round : Def P w K mg base 2 "common_round" ["p", "q"] m_common_round) (D_turned_number : Def P w K mg base 1 "turned_number" ["a", "n"] m_turned_number) (F : Fn0 K mg "lock_key" s_lock_key ["p", "q", "e"]) : Def P w K mg base 3 "lock_key" ["p", "q", "e"] m_lock_key :=
  def_ok F sc_lock_key fun f _ cdv A outer s H E hr => (es_cons (es_set (i := 3) sc_lock_key.nd rfl (Or.inl rfl) (ev_callD D_common_round (hr.mono (by decide)) (by rfl) (ea_cons (ev_var (i := 0) rfl (Or.inl rfl)) (ea_cons (ev_var (i := 1) rfl (Or.inl rfl)) (ea_nil))))) (es_cons (es_set (i := 4) sc_lock_key.nd rfl (Or.inl rfl) (ev_if (et_gt (ev_rd (i := 3) rfl (Or.inl rfl)) (be (ev_int))) (ev_callD D_turned_number (hr.mono (by decide)) (by rfl) (ea_cons (ev_mod (ev_rd (i := 2) rfl (Or.inl rfl)) (ev_rd (i := 3) rfl (Or.inl rfl))) (ea_cons (ev_var (i := 3) rfl (Or.inl rfl)) (ea_nil)))) (ev_non))) (es_one (es_ret (ev_if (et_is (ev_rd (i := 4) rfl (Or.inl rfl)) (be (ev_non))) (ev_non) (ev_tup (ea_cons (ev_mul (ev_rd (i := 0) rfl (Or.inl rfl)) (ev_rd (i := 1) rfl (Or.inl rfl))) (ea_cons (ev_var (i := 2) rfl (Or.inl rfl)) (ea_cons (ev_var (i := 4) rfl (Or.inl rfl)) (ea_nil))))))))))
theorem ok_l_key (Z : Nb mg) (D_l_common : Def P w K mg base 1 "_law_common" ["first", "second"] m_l_common) (D_l_like : Def P w K mg base 14 "_law_like" ["value", "due"] m_l_like) (D_lock_key : Def P w K mg base 3 "lock_key" ["p", "q", "e"] m_lock_key) (F : Fn0 K mg "_law_key" s_l_key ["row"]) : Def P w K mg base 15 "_law_key" ["row"] m_l_key :=
  def_ok F sc_l_key fun f _ cdv A outer s H E hr => (es_cons (es_set (i := 1) sc_l_key.nd rfl (Or.inl rfl) (ev_tup (ea_cons (ev_tup (ea_cons (ev_int) (ea_cons (ev_int) (ea_nil)))) (ea_cons (ev_tup (ea_cons (ev_int) (ea_cons (ev_int) (ea_nil)))) (ea_cons (ev_tup (ea_cons (ev_int) (ea_cons (ev_int) (ea_nil)))) (ea_cons (ev_tup (ea_cons (ev_int) (ea_cons (ev_int) (ea_nil)))) (ea_cons (ev_tup (ea_cons (ev_int) (ea_cons (ev_int) (ea_nil)))) (ea_cons (ev_tup (ea_cons (ev_int) (ea_cons (ev_int) (ea_nil)))) (ea_cons (ev_tup (ea_cons (ev_int) (ea_cons (ev_int) (ea_nil)))) (ea_cons (ev_tup (ea_cons (ev_int) (ea_cons (ev_int) (ea_nil)))) (ea_cons (ev_tup (ea_cons (ev_int) (ea_cons (ev_int) (ea_nil)))) (ea_cons (ev_tup (ea_cons (ev_int) (ea_cons (ev_int) (ea_nil)))) (ea_nil))))))))))))) (es_cons (es_asg (ev_ix (ev_rd (i := 1) rfl (Or.inl rfl)) (be (ev_mod (be (ev_toI (by rfl) Z.b_int (be (ev_ix (ev_rd (i := 0) rfl (Or.inl rfl)) (be (ev_int)) (fun _ _ => rfl))))) (be (ev_int)))) (fun _ _ => rfl)) (eg_tup rfl (egs_cons (eg_name (i := 2) sc_l_key.nd rfl (Or.inl rfl)) (egs_cons (eg_name (i := 3) sc_l_key.nd rfl (Or.inl rfl)) (egs_nil))))) (es_cons (es_set (i := 4) sc_l_key.nd rfl (Or.inr rfl) (ev_fdiv (be (ev_mul (be (ev_sub (ev_rd (i := 2) rfl (Or.inl rfl)) (be (ev_int)))) (be (ev_sub (ev_rd (i := 3) rfl (Or.inl rfl)) (be (ev_int)))))) (be (ev_callD D_l_common (hr.mono (by decide)) (by rfl) (ea_cons (ev_sub (ev_rd (i := 2) rfl (Or.inl rfl)) (be (ev_int))) (ea_cons (ev_sub (ev_rd (i := 3) rfl (Or.inl rfl)) (be (ev_int))) (ea_nil))))))) (es_cons (es_setLc (i := 5) (own := [("e", 6)]) rfl sc_l_key.nd rfl rfl (sw_true rfl rfl rfl (by decide +kernel)) (eic (ei_range2 (by rfl) Z.b_range (be (ev_int)) (be (ev_int)))) (blkOk_by (N := N_l_key) (sc := defScope s_l_key) (by decide +kernel)) (by decide) (fun _ _ _ _ _ => eg_name (i := 6) sc_l_key.nd rfl (Or.inl rfl)) (fun _ _ _ _ _ => epts_one (et_eq hr (be (ev_callD D_l_common (hr.mono (by decide)) (by rfl) (ea_cons (ev_var (i := 6) rfl (Or.inl rfl)) (ea_cons (ev_var (i := 4) rfl (Or.inr (Or.inl rfl))) (ea_nil))))) (be (ev_int)))) (fun _ _ _ _ _ => ev_var (i := 6) rfl (Or.inl rfl))) (es_cons (es_set (i := 6) sc_l_key.nd rfl (Or.inr rfl) (ev_ix (ev_rd (i := 5) rfl (Or.inl rfl)) (be (ev_mod (be (ev_toI (by rfl) Z.b_int (be (ev_ix (ev_rd (i := 0) rfl (Or.inl rfl)) (be (ev_int)) (fun _ _ => rfl))))) (be (ev_len (by rfl) Z.b_len (ev_rd (i := 5) rfl (Or.inl rfl)))))) (fun _ _ => rfl))) (es_cons (es_setLc (i := 7) (own := [("d", 8)]) rfl sc_l_key.nd rfl rfl (sw_true rfl rfl rfl (by decide +kernel)) (eic (ei_range2 (by rfl) Z.b_range (be (ev_int)) (ev_rd (i := 4) rfl (Or.inr (Or.inl rfl))))) (blkOk_by (N := N_l_key) (sc := defScope s_l_key) (by decide +kernel)) (by decide) (fun _ _ _ _ _ => eg_name (i := 8) sc_l_key.nd rfl (Or.inl rfl)) (fun _ _ _ _ _ => epts_one (et_eq hr (be (ev_mod (be (ev_toI (by rfl) Z.b_int (be (ev_mul (ev_rd (i := 6) rfl (Or.inr (Or.inl rfl))) (ev_rd (i := 8) rfl (Or.inl rfl)))))) (ev_rd (i := 4) rfl (Or.inr (Or.inl rfl))))) (be (ev_int)))) (fun _ _ _ _ _ => ev_var (i := 8) rfl (Or.inl rfl))) (es_cons (es_if (et_not (et_val (be (ev_callD D_l_like (hr.mono (by decide)) (by rfl) (ea_cons (ev_callD D_lock_key (hr.mono (by decide)) (by rfl) (ea_cons (ev_var (i := 2) rfl (Or.inl rfl)) (ea_cons (ev_var (i := 3) rfl (Or.inl rfl)) (ea_cons (ev_var (i := 6) rfl (Or.inr (Or.inl rfl))) (ea_nil))))) (ea_cons (ev_tup (ea_cons (ev_mul (ev_rd (i := 2) rfl (Or.inl rfl)) (ev_rd (i := 3) rfl (Or.inl rfl))) (ea_cons (ev_var (i := 6) rfl (Or.inr (Or.inl rfl))) (ea_cons (ev_ix (ev_rd (i := 7) rfl (Or.inl rfl)) (be (ev_int)) (fun _ _ => rfl)) (ea_nil))))) (ea_nil))))) (fun _ => rfl))) (es_one (es_ret (ev_non))) (es_nil)) (es_one (es_ret (ev_tup (ea_cons (ev_mul (ev_rd (i := 2) rfl (Or.inl rfl)) (ev_rd (i := 3) rfl (Or.inl rfl))) (ea_cons (ev_var (i := 6) rfl (Or.inr (Or.inl rfl))) (ea_cons (ev_ix (ev_rd (i := 7) rfl (Or.inl rfl)) (be (ev_int)) (fun _ _ => rfl)) (ea_nil))))))))))))))
theorem ok_l_gate (Z : Nb mg)  (F : Fn0 K mg "_law_gate" s_l_gate ["kind", "a", "b"]) : Def P w K mg base 1 "_law_gate" ["kind", "a", "b"] m_l_gate :=
  def_ok F sc_l_gate fun f _ cdv A outer s H E hr => (es_cons (es_if (et_eq hr (ev_rd (i := 0) rfl (Or.inl rfl)) (be (ev_str))) (es_one (es_ret (ev_mul (ev_rd (i := 1) rfl (Or.inl rfl)) (ev_rd (i := 2) rfl (Or.inl rfl))))) (es_nil)) (es_cons (es_if (et_eq hr (ev_rd (i := 0) rfl (Or.inl rfl)) (be (ev_str))) (es_one (es_ret (ev_max2 rfl (by rfl) Z.b_max (ev_rd (i := 1) rfl (Or.inl rfl)) (ev_rd (i := 2) rfl (Or.inl rfl))))) (es_nil)) (es_one (es_ret (ev_mod (be (ev_toI (by rfl) Z.b_int (be (ev_add (ev_rd (i := 1) rfl (Or.inl rfl)) (ev_rd (i := 2) rfl (Or.inl rfl)))))) (be (ev_int)))))))
theorem ok_l_veil (Z : Nb mg) (D_l_gate : Def P w K mg base 1 "_law_gate" ["kind", "a", "b"] m_l_gate) (F : Fn0 K mg "_law_veil" s_l_veil ["n", "circuit", "names"]) : Def P w K mg base 2 "_law_veil" ["n", "circuit", "names"] m_l_veil :=
  def_ok F sc_l_veil fun f _ cdv A outer s H E hr => (es_cons (es_set (i := 3) sc_l_veil.nd rfl (Or.inl rfl) (ev_lst (ea_nil))) (es_cons (es_kill [4, 5, 6, 7, 8, 9, 10, 11, 12, 13] (es_for PassesOwn.never rfl (ei_range1 (by rfl) Z.b_range (be (ev_len (by rfl) Z.b_len (ev_rd (i := 1) rfl (Or.inl rfl))))) (eg_name (i := 4) sc_l_veil.nd rfl (Or.inl rfl)) (ess_kill [4, 5, 6, 7, 8, 9, 10, 11, 12, 13] (es_cons (es_asg (ev_ix (ev_rd (i := 1) rfl (Or.inl rfl)) (ev_rd (i := 4) rfl (Or.inl rfl)) (fun _ _ => rfl)) (eg_tup rfl (egs_cons (eg_name (i := 5) sc_l_veil.nd rfl (Or.inl rfl)) (egs_cons (eg_name (i := 6) sc_l_veil.nd rfl (Or.inl rfl)) (egs_cons (eg_name (i := 7) sc_l_veil.nd rfl (Or.inl rfl)) (egs_nil)))))) (es_cons (es_set (i := 8) sc_l_veil.nd rfl (Or.inl rfl) (ev_mul (be (ev_lst (ea_cons (ev_int) (ea_nil)))) (be (ev_int)))) (es_cons (es_kill [9, 10, 11, 12, 13] (es_for PassesOwn.never rfl (ei_seq (ev_tup (ea_cons (ev_int) (ea_cons (ev_int) (ea_nil))))) (eg_name (i := 9) sc_l_veil.nd rfl (Or.inl rfl)) (ess_kill [9, 10, 11, 12, 13] (es_one (es_kill [10, 11, 12, 13] (es_for PassesOwn.never rfl (ei_seq (ev_tup (ea_cons (ev_int) (ea_cons (ev_int) (ea_nil))))) (eg_name (i := 10) sc_l_veil.nd rfl (Or.inl rfl)) (ess_kill [10, 11, 12, 13] (es_cons (es_par (i := 11) (j := 12) rfl sc_l_veil.nd rfl rfl (by decide) rfl rfl (ev_ix (be (ev_ix (ev_rd (i := 2) rfl (Or.inl rfl)) (ev_rd (i := 6) rfl (Or.inl rfl)) (fun _ _ => rfl))) (ev_rd (i := 9) rfl (Or.inl rfl)) (fun _ _ => rfl)) (ev_ix (be (ev_ix (ev_rd (i := 2) rfl (Or.inl rfl)) (ev_rd (i := 7) rfl (Or.inl rfl)) (fun _ _ => rfl))) (ev_rd (i := 10) rfl (Or.inl rfl)) (fun _ _ => rfl)) (by rfl)) (es_cons (es_set (i := 13) sc_l_veil.nd rfl (Or.inl rfl) (ev_mod (be (ev_toI (by rfl) Z.b_int (be (ev_add (be (ev_add (be (ev_mul (be (ev_int)) (ev_rd (i := 11) rfl (Or.inl rfl)))) (be (ev_mul (be (ev_int)) (ev_rd (i := 12) rfl (Or.inl rfl)))))) (ev_rd (i := 4) rfl (Or.inl rfl)))))) (be (ev_int)))) (es_one (es_store (i := 8) (pv 8) (ev_xor (be (ev_ix (be (ev_ix (ev_rd (i := 2) rfl (Or.inl rfl)) (be (ev_add (ev_rd (i := 0) rfl (Or.inl rfl)) (ev_rd (i := 4) rfl (Or.inl rfl)))) (fun _ _ => rfl))) (be (ev_callD D_l_gate (hr.mono (by decide)) (by rfl) (ea_cons (ev_var (i := 5) rfl (Or.inl rfl)) (ea_cons (ev_var (i := 9) rfl (Or.inl rfl)) (ea_cons (ev_var (i := 10) rfl (Or.inl rfl)) (ea_nil)))))) (fun _ _ => rfl))) (ev_rd (i := 13) rfl (Or.inl rfl))) (be (ev_add (be (ev_mul (be (ev_int)) (be (ev_mod (be (ev_toI (by rfl) Z.b_int (ev_rd (i := 11) rfl (Or.inl rfl)))) (be (ev_int)))))) (be (ev_mod (be (ev_toI (by rfl) Z.b_int (ev_rd (i := 12) rfl (Or.inl rfl)))) (be (ev_int))))))))))))))))) (es_one (es_append (i := 3) (pv 3) (ev_toT (by rfl) Z.b_tuple (ev_rd (i := 8) rfl (Or.inl rfl))))))))))) (es_one (es_ret (ev_toT (by rfl) Z.b_tuple (ev_rd (i := 3) rfl (Or.inl rfl)))))))
theorem ok_l_lines (Z : Nb mg) (D_l_gate : Def P w K mg base 1 "_law_gate" ["kind", "a", "b"] m_l_gate) (F : Fn0 K mg "_law_lines" s_l_lines ["circuit", "bits"]) : Def P w K mg base 2 "_law_lines" ["circuit", "bits"] m_l_lines :=
  def_ok F sc_l_lines fun f _ cdv A outer s H E hr => (es_cons (es_set (i := 2) sc_l_lines.nd rfl (Or.inl rfl) (ev_toL (by rfl) Z.b_list (ev_rd (i := 1) rfl (Or.inl rfl)))) (es_cons (es_kill [3, 4, 5] (es_for PassesOwn.never rfl (ei_seq (ev_var (i := 0) rfl (Or.inl rfl))) (eg_tup rfl (egs_cons (eg_name (i := 3) sc_l_lines.nd rfl (Or.inl rfl)) (egs_cons (eg_name (i := 4) sc_l_lines.nd rfl (Or.inl rfl)) (egs_cons (eg_name (i := 5) sc_l_lines.nd rfl (Or.inl rfl)) (egs_nil))))) (ess_kill [3, 4, 5] (es_one (es_append (i := 2) (pv 2) (ev_callD D_l_gate (hr.mono (by decide)) (by rfl) (ea_cons (ev_var (i := 3) rfl (Or.inl rfl)) (ea_cons (ev_ix (ev_rd (i := 2) rfl (Or.inl rfl)) (ev_rd (i := 4) rfl (Or.inl rfl)) (fun _ _ => rfl)) (ea_cons (ev_ix (ev_rd (i := 2) rfl (Or.inl rfl)) (ev_rd (i := 5) rfl (Or.inl rfl)) (fun _ _ => rfl)) (ea_nil)))))))))) (es_one (es_ret (ev_toT (by rfl) Z.b_tuple (ev_rd (i := 2) rfl (Or.inl rfl)))))))
theorem ok_l_circuit (Z : Nb mg)  (F : Fn0 K mg "_law_circuit" s_l_circuit ["row", "at", "n", "count"]) : Def P w K mg base 1 "_law_circuit" ["row", "at", "n", "count"] m_l_circuit :=
  def_ok F sc_l_circuit fun f _ cdv A outer s H E hr => (es_cons (es_set (i := 4) sc_l_circuit.nd rfl (Or.inl rfl) (ev_lst (ea_nil))) (es_cons (es_kill [5, 6, 7] (es_for PassesOwn.never rfl (ei_range1 (by rfl) Z.b_range (ev_rd (i := 3) rfl (Or.inl rfl))) (eg_name (i := 5) sc_l_circuit.nd rfl (Or.inl rfl)) (ess_kill [5, 6, 7] (es_cons (es_par (i := 6) (j := 7) rfl sc_l_circuit.nd rfl rfl (by decide) rfl rfl (ev_mod (be (ev_toI (by rfl) Z.b_int (be (ev_ix (ev_rd (i := 0) rfl (Or.inl rfl)) (be (ev_add (ev_rd (i := 1) rfl (Or.inl rfl)) (be (ev_mul (be (ev_int)) (ev_rd (i := 5) rfl (Or.inl rfl)))))) (fun _ _ => rfl))))) (be (ev_add (ev_rd (i := 2) rfl (Or.inl rfl)) (ev_rd (i := 5) rfl (Or.inl rfl))))) (ev_mod (be (ev_toI (by rfl) Z.b_int (be (ev_ix (ev_rd (i := 0) rfl (Or.inl rfl)) (be (ev_add (be (ev_add (ev_rd (i := 1) rfl (Or.inl rfl)) (be (ev_mul (be (ev_int)) (ev_rd (i := 5) rfl (Or.inl rfl)))))) (be (ev_int)))) (fun _ _ => rfl))))) (be (ev_sub (be (ev_add (ev_rd (i := 2) rfl (Or.inl rfl)) (ev_rd (i := 5) rfl (Or.inl rfl)))) (be (ev_int))))) (by rfl)) (es_cons (es_if (et_ge (ev_rd (i := 7) rfl (Or.inl rfl)) (ev_rd (i := 6) rfl (Or.inl rfl))) (es_one (es_set (i := 7) sc_l_circuit.nd rfl (Or.inl rfl) (ev_add (ev_rd (i := 7) rfl (Or.inl rfl)) (be (ev_int))))) (es_nil)) (es_one (es_append (i := 4) (pv 4) (ev_tup (ea_cons (ev_ix (be (ev_tup (ea_cons (ev_str) (ea_cons (ev_str) (ea_cons (ev_str) (ea_nil)))))) (be (ev_mod (be (ev_toI (by rfl) Z.b_int (be (ev_ix (ev_rd (i := 0) rfl (Or.inl rfl)) (be (ev_add (be (ev_add (ev_rd (i := 1) rfl (Or.inl rfl)) (be (ev_mul (be (ev_int)) (ev_rd (i := 5) rfl (Or.inl rfl)))))) (be (ev_int)))) (fun _ _ => rfl))))) (be (ev_int)))) (fun _ _ => rfl)) (ea_cons (ev_var (i := 6) rfl (Or.inl rfl)) (ea_cons (ev_var (i := 7) rfl (Or.inl rfl)) (ea_nil)))))))))))) (es_one (es_ret (ev_toT (by rfl) Z.b_tuple (ev_rd (i := 4) rfl (Or.inl rfl)))))))
theorem ok_l_names (Z : Nb mg)  (F : Fn0 K mg "_law_names" s_l_names ["row", "at", "count"]) : Def P w K mg base 1 "_law_names" ["row", "at", "count"] m_l_names :=
  def_ok F sc_l_names fun f _ cdv A outer s H E hr => (es_cons (es_set (i := 3) sc_l_names.nd rfl (Or.inl rfl) (ev_lst (ea_nil))) (es_cons (es_kill [4, 5] (es_for PassesOwn.never rfl (ei_range1 (by rfl) Z.b_range (ev_rd (i := 2) rfl (Or.inl rfl))) (eg_name (i := 4) sc_l_names.nd rfl (Or.inl rfl)) (ess_kill [4, 5] (es_cons (es_set (i := 5) sc_l_names.nd rfl (Or.inl rfl) (ev_mod (be (ev_toI (by rfl) Z.b_int (be (ev_ix (ev_rd (i := 0) rfl (Or.inl rfl)) (be (ev_add (ev_rd (i := 1) rfl (Or.inl rfl)) (be (ev_mul (be (ev_int)) (ev_rd (i := 4) rfl (Or.inl rfl)))))) (fun _ _ => rfl))))) (be (ev_int)))) (es_one (es_append (i := 3) (pv 3) (ev_tup (ea_cons (ev_var (i := 5) rfl (Or.inl rfl)) (ea_cons (ev_sub (be (ev_add (be (ev_mul (be (ev_int)) (be (ev_mod (be (ev_toI (by rfl) Z.b_int (be (ev_ix (ev_rd (i := 0) rfl (Or.inl rfl)) (be (ev_add (be (ev_add (ev_rd (i := 1) rfl (Or.inl rfl)) (be (ev_mul (be (ev_int)) (ev_rd (i := 4) rfl (Or.inl rfl)))))) (be (ev_int)))) (fun _ _ => rfl))))) (be (ev_int)))))) (be (ev_int)))) (be (ev_mod (ev_rd (i := 5) rfl (Or.inl rfl)) (be (ev_int))))) (ea_nil)))))))))) (es_one (es_ret (ev_toT (by rfl) Z.b_tuple (ev_rd (i := 3) rfl (Or.inl rfl)))))))
theorem ok_taken (Z : Nb mg)  (F : Fn0 K mg "taken" s_taken ["n", "answer", "draw"]) : Def P w K mg base 1 "taken" ["n", "answer", "draw"] m_taken :=
  def_ok F sc_taken fun f _ cdv A outer s H E hr => (es_one (es_ret (ev_mod (be (ev_sub (ev_rd (i := 1) rfl (Or.inl rfl)) (ev_rd (i := 2) rfl (Or.inl rfl)))) (ev_rd (i := 0) rfl (Or.inl rfl)))))
theorem ok_l_power (Z : Nb mg)  (F : Fn0 K mg "_law_power" s_l_power ["a", "e", "n"]) : Def P w K mg base 1 "_law_power" ["a", "e", "n"] m_l_power :=
  def_ok F sc_l_power fun f _ cdv A outer s H E hr => (es_cons (es_par3 (i := 3) (j := 4) (l := 5) rfl sc_l_power.nd rfl rfl rfl (by decide) (by decide) (by decide) rfl rfl rfl (ev_mod (be (ev_int)) (ev_rd (i := 2) rfl (Or.inl rfl))) (ev_mod (be (ev_toI (by rfl) Z.b_int (ev_rd (i := 0) rfl (Or.inl rfl)))) (ev_rd (i := 2) rfl (Or.inl rfl))) (ev_var (i := 1) rfl (Or.inl rfl)) (by rfl)) (es_cons (es_kill [4, 5] (es_while 1048576 PassesOwn.never (et_gt (ev_rd (i := 5) rfl (Or.inl rfl)) (be (ev_int))) (es_cons (es_if (et_eq hr (be (ev_mod (be (ev_toI (by rfl) Z.b_int (ev_rd (i := 5) rfl (Or.inl rfl)))) (be (ev_int)))) (be (ev_int))) (es_one (es_set (i := 3) sc_l_power.nd rfl (Or.inl rfl) (ev_mod (be (ev_mul (ev_rd (i := 3) rfl (Or.inl rfl)) (ev_rd (i := 4) rfl (Or.inl rfl)))) (ev_rd (i := 2) rfl (Or.inl rfl))))) (es_nil)) (es_one (es_par (i := 4) (j := 5) rfl sc_l_power.nd rfl rfl (by decide) rfl rfl (ev_mod (be (ev_mul (ev_rd (i := 4) rfl (Or.inl rfl)) (ev_rd (i := 4) rfl (Or.inl rfl)))) (ev_rd (i := 2) rfl (Or.inl rfl))) (ev_fdiv (ev_rd (i := 5) rfl (Or.inl rfl)) (be (ev_int))) (by rfl)))))) (es_one (es_ret (ev_var (i := 3) rfl (Or.inl rfl))))))
theorem ok_power_in (Z : Nb mg)  (F : Fn0 K mg "power_in" s_power_in ["a", "e", "n"]) : Def P w K mg base 1 "power_in" ["a", "e", "n"] m_power_in :=
  def_ok F sc_power_in fun f _ cdv A outer s H E hr => (es_cons (es_par (i := 3) (j := 4) rfl sc_power_in.nd rfl rfl (by decide) rfl rfl (ev_mod (be (ev_int)) (ev_rd (i := 2) rfl (Or.inl rfl))) (ev_mod (ev_rd (i := 0) rfl (Or.inl rfl)) (ev_rd (i := 2) rfl (Or.inl rfl))) (by rfl)) (es_cons (es_kill [1, 4] (es_while 1048576 PassesOwn.never (et_gt (ev_rd (i := 1) rfl (Or.inl rfl)) (be (ev_int))) (es_cons (es_if (et_eq hr (be (ev_mod (ev_rd (i := 1) rfl (Or.inl rfl)) (be (ev_int)))) (be (ev_int))) (es_one (es_set (i := 3) sc_power_in.nd rfl (Or.inl rfl) (ev_mod (be (ev_mul (ev_rd (i := 3) rfl (Or.inl rfl)) (ev_rd (i := 4) rfl (Or.inl rfl)))) (ev_rd (i := 2) rfl (Or.inl rfl))))) (es_nil)) (es_one (es_par (i := 4) (j := 1) rfl sc_power_in.nd rfl rfl (by decide) rfl rfl (ev_mod (be (ev_mul (ev_rd (i := 4) rfl (Or.inl rfl)) (ev_rd (i := 4) rfl (Or.inl rfl)))) (ev_rd (i := 2) rfl (Or.inl rfl))) (ev_fdiv (ev_rd (i := 1) rfl (Or.inl rfl)) (be (ev_int))) (by rfl)))))) (es_one (es_ret (ev_var (i := 3) rfl (Or.inl rfl))))))
theorem ok_taken_one (Z : Nb mg) (D_power_in : Def P w K mg base 1 "power_in" ["a", "e", "n"] m_power_in) (F : Fn0 K mg "taken_one" s_taken_one ["key", "numbers", "told", "choice", "draw"]) : Def P w K mg base 2 "taken_one" ["key", "numbers", "told", "choice", "draw"] m_taken_one :=
  def_ok F sc_taken_one fun f _ cdv A outer s H E hr => (es_cons (es_asg (ev_var (i := 0) rfl (Or.inl rfl)) (eg_tup rfl (egs_cons (eg_name (i := 5) sc_taken_one.nd rfl (Or.inr rfl)) (egs_cons (eg_name (i := 6) sc_taken_one.nd rfl (Or.inl rfl)) (egs_cons (eg_name (i := 7) sc_taken_one.nd rfl (Or.inr rfl)) (egs_nil)))))) (es_cons (es_set (i := 8) sc_taken_one.nd rfl (Or.inr rfl) (ev_mod (be (ev_add (be (ev_ix (ev_rd (i := 2) rfl (Or.inl rfl)) (ev_rd (i := 3) rfl (Or.inl rfl)) (fun _ _ => rfl))) (be (ev_callD D_power_in (hr.mono (by decide)) (by rfl) (ea_cons (ev_var (i := 4) rfl (Or.inl rfl)) (ea_cons (ev_var (i := 6) rfl (Or.inl rfl)) (ea_cons (ev_var (i := 5) rfl (Or.inr (Or.inl rfl))) (ea_nil)))))))) (ev_rd (i := 5) rfl (Or.inr (Or.inl rfl))))) (es_cons (es_setLc (i := 9) (own := [("number", 10), ("one", 11)]) rfl sc_taken_one.nd rfl rfl (sw_true rfl rfl rfl (by decide +kernel)) (eic (ei_zip (by rfl) Z.b_zip (ev_var (i := 1) rfl (Or.inl rfl)) (ev_var (i := 2) rfl (Or.inl rfl)))) (blkOk_by (N := N_taken_one) (sc := defScope s_taken_one) (by decide +kernel)) (by decide) (fun _ _ _ _ _ => eg_tup rfl (egs_cons (eg_name (i := 10) sc_taken_one.nd rfl (Or.inl rfl)) (egs_cons (eg_name (i := 11) sc_taken_one.nd rfl (Or.inl rfl)) (egs_nil)))) (fun _ _ _ _ _ => epts_nil) (fun _ _ _ _ _ => ev_mod (be (ev_add (ev_rd (i := 10) rfl (Or.inl rfl)) (be (ev_callD D_power_in (hr.mono (by decide)) (by rfl) (ea_cons (ev_sub (ev_rd (i := 8) rfl (Or.inr (Or.inl rfl))) (ev_rd (i := 11) rfl (Or.inl rfl))) (ea_cons (ev_var (i := 7) rfl (Or.inr (Or.inl rfl))) (ea_cons (ev_var (i := 5) rfl (Or.inr (Or.inl rfl))) (ea_nil)))))))) (ev_rd (i := 5) rfl (Or.inr (Or.inl rfl))))) (es_one (es_ret (ev_tup (ea_cons (ev_var (i := 8) rfl (Or.inr (Or.inl rfl))) (ea_cons (ev_ix (ev_rd (i := 9) rfl (Or.inl rfl)) (be (ev_int)) (fun _ _ => rfl)) (ea_cons (ev_ix (ev_rd (i := 9) rfl (Or.inl rfl)) (be (ev_int)) (fun _ _ => rfl)) (ea_nil))))))))))
theorem ok_choice_draws (Z : Nb mg) (D_power_in : Def P w K mg base 1 "power_in" ["a", "e", "n"] m_power_in) (F : Fn0 K mg "choice_draws" s_choice_draws ["n", "e", "told", "asked"]) : Def P w K mg base 2 "choice_draws" ["n", "e", "told", "asked"] m_choice_draws :=
  def_ok F sc_choice_draws fun f _ cdv A outer s H E hr => (es_one (es_ret (ev_toT (by rfl) Z.b_tuple (be (ev_lc (own := [("choice", 4)]) rfl sc_choice_draws.nd (eic_seq (be (ev_tup (ea_cons (ev_int) (ea_cons (ev_int) (ea_nil)))))) (blkOk_by (N := N_choice_draws) (sc := defScope s_choice_draws) (by decide +kernel)) (by decide) (fun _ _ _ _ _ => eg_name (i := 4) sc_choice_draws.nd rfl (Or.inr rfl)) (fun _ _ _ _ _ => epts_nil) (fun _ _ _ _ _ => ev_toT (by rfl) Z.b_tuple (be (ev_lc (own := [("k", 5)]) rfl sc_choice_draws.nd (eic (ei_range1 (by rfl) Z.b_range (ev_rd (i := 0) rfl (Or.inr (Or.inl rfl))))) (blkOk_by (N := N_choice_draws) (sc := relS _ (defScope s_choice_draws)) (by decide +kernel)) (by decide) (fun _ _ _ _ _ => eg_name (i := 5) sc_choice_draws.nd rfl (Or.inl rfl)) (fun _ _ _ _ _ => epts_one (et_eq hr (be (ev_mod (be (ev_sub (be (ev_add (be (ev_ix (ev_rd (i := 2) rfl (Or.inr (Or.inl rfl))) (ev_rd (i := 4) rfl (Or.inr (Or.inl rfl))) (fun _ _ => rfl))) (be (ev_callD D_power_in (hr.mono (by decide)) (by rfl) (ea_cons (ev_var (i := 5) rfl (Or.inl rfl)) (ea_cons (ev_var (i := 1) rfl (Or.inr (Or.inl rfl))) (ea_cons (ev_var (i := 0) rfl (Or.inr (Or.inl rfl))) (ea_nil)))))))) (ev_rd (i := 3) rfl (Or.inr (Or.inl rfl))))) (ev_rd (i := 0) rfl (Or.inr (Or.inl rfl))))) (be (ev_int)))) (fun _ _ _ _ _ => ev_var (i := 5) rfl (Or.inl rfl))))))))))
theorem ok_l_taken (Z : Nb mg) (D_taken : Def P w K mg base 1 "taken" ["n", "answer", "draw"] m_taken) (D_l_like : Def P w K mg base 14 "_law_like" ["value", "due"] m_l_like) (D_l_power : Def P w K mg base 1 "_law_power" ["a", "e", "n"] m_l_power) (D_taken_one : Def P w K mg base 2 "taken_one" ["key", "numbers", "told", "choice", "draw"] m_taken_one) (D_choice_draws : Def P w K mg base 2 "choice_draws" ["n", "e", "told", "asked"] m_choice_draws) (F : Fn0 K mg "_law_taken" s_l_taken ["key", "numbers", "told", "choice", "draw"]) : Def P w K mg base 15 "_law_taken" ["key", "numbers", "told", "choice", "draw"] m_l_taken :=
  def_ok F sc_l_taken fun f _ cdv A outer s H E hr => (es_cons (es_asg (ev_var (i := 0) rfl (Or.inl rfl)) (eg_tup rfl (egs_cons (eg_name (i := 5) sc_l_taken.nd rfl (Or.inr rfl)) (egs_cons (eg_name (i := 6) sc_l_taken.nd rfl (Or.inr rfl)) (egs_cons (eg_name (i := 7) sc_l_taken.nd rfl (Or.inr rfl)) (egs_nil)))))) (es_cons (es_set (i := 8) sc_l_taken.nd rfl (Or.inr rfl) (ev_mod (be (ev_toI (by rfl) Z.b_int (be (ev_add (be (ev_ix (ev_rd (i := 2) rfl (Or.inr (Or.inl rfl))) (ev_rd (i := 3) rfl (Or.inl rfl)) (fun _ _ => rfl))) (be (ev_callD D_l_power (hr.mono (by decide)) (by rfl) (ea_cons (ev_var (i := 4) rfl (Or.inl rfl)) (ea_cons (ev_var (i := 6) rfl (Or.inr (Or.inl rfl))) (ea_cons (ev_var (i := 5) rfl (Or.inr (Or.inl rfl))) (ea_nil)))))))))) (ev_rd (i := 5) rfl (Or.inr (Or.inl rfl))))) (es_cons (es_setLc (i := 9) (own := [("k", 12)]) rfl sc_l_taken.nd rfl rfl (sw_true rfl rfl rfl (by decide +kernel)) (eic_seq (be (ev_tup (ea_cons (ev_int) (ea_cons (ev_int) (ea_nil)))))) (blkOk_by (N := N_l_taken) (sc := defScope s_l_taken) (by decide +kernel)) (by decide) (fun _ _ _ _ _ => eg_name (i := 12) sc_l_taken.nd rfl (Or.inl rfl)) (fun _ _ _ _ _ => epts_nil) (fun _ _ _ _ _ => ev_mod (be (ev_toI (by rfl) Z.b_int (be (ev_add (be (ev_ix (ev_rd (i := 1) rfl (Or.inr (Or.inl rfl))) (ev_rd (i := 12) rfl (Or.inl rfl)) (fun _ _ => rfl))) (be (ev_callD D_l_power (hr.mono (by decide)) (by rfl) (ea_cons (ev_mod (be (ev_toI (by rfl) Z.b_int (be (ev_sub (ev_rd (i := 8) rfl (Or.inr (Or.inl rfl))) (be (ev_ix (ev_rd (i := 2) rfl (Or.inr (Or.inl rfl))) (ev_rd (i := 12) rfl (Or.inl rfl)) (fun _ _ => rfl))))))) (ev_rd (i := 5) rfl (Or.inr (Or.inl rfl)))) (ea_cons (ev_var (i := 7) rfl (Or.inr (Or.inl rfl))) (ea_cons (ev_var (i := 5) rfl (Or.inr (Or.inl rfl))) (ea_nil)))))))))) (ev_rd (i := 5) rfl (Or.inr (Or.inl rfl))))) (es_cons (es_if (et_not (et_val (be (ev_callD D_l_like (hr.mono (by decide)) (by rfl) (ea_cons (ev_callD D_taken_one (hr.mono (by decide)) (by rfl) (ea_cons (ev_var (i := 0) rfl (Or.inl rfl)) (ea_cons (ev_var (i := 1) rfl (Or.inr (Or.inl rfl))) (ea_cons (ev_var (i := 2) rfl (Or.inr (Or.inl rfl))) (ea_cons (ev_var (i := 3) rfl (Or.inl rfl)) (ea_cons (ev_var (i := 4) rfl (Or.inl rfl)) (ea_nil))))))) (ea_cons (ev_tup (ea_cons (ev_var (i := 8) rfl (Or.inr (Or.inl rfl))) (ea_cons (ev_ix (ev_rd (i := 9) rfl (Or.inl rfl)) (be (ev_int)) (fun _ _ => rfl)) (ea_cons (ev_ix (ev_rd (i := 9) rfl (Or.inl rfl)) (be (ev_int)) (fun _ _ => rfl)) (ea_nil))))) (ea_nil))))) (fun _ => rfl))) (es_one (es_ret (ev_non))) (es_nil)) (es_cons (es_set (i := 10) sc_l_taken.nd rfl (Or.inr rfl) (ev_lc (own := [("one", 13)]) rfl sc_l_taken.nd (eic (ei_range1 (by rfl) Z.b_range (ev_rd (i := 5) rfl (Or.inr (Or.inl rfl))))) (blkOk_by (N := N_l_taken) (sc := defScope s_l_taken) (by decide +kernel)) (by decide) (fun _ _ _ _ _ => eg_name (i := 13) sc_l_taken.nd rfl (Or.inl rfl)) (fun _ _ _ _ _ => epts_nil) (fun _ _ _ _ _ => ev_callD D_l_power (hr.mono (by decide)) (by rfl) (ea_cons (ev_var (i := 13) rfl (Or.inl rfl)) (ea_cons (ev_var (i := 6) rfl (Or.inr (Or.inl rfl))) (ea_cons (ev_var (i := 5) rfl (Or.inr (Or.inl rfl))) (ea_nil))))))) (es_cons (es_setLc (i := 11) (own := [("k", 12)]) rfl sc_l_taken.nd rfl rfl (sw_true rfl rfl rfl (by decide +kernel)) (eic_seq (be (ev_tup (ea_cons (ev_int) (ea_cons (ev_int) (ea_nil)))))) (blkOk_by (N := N_l_taken) (sc := defScope s_l_taken) (by decide +kernel)) (by decide) (fun _ _ _ _ _ => eg_name (i := 12) sc_l_taken.nd rfl (Or.inr rfl)) (fun _ _ _ _ _ => epts_nil) (fun _ _ _ _ _ => ev_toT (by rfl) Z.b_tuple (be (ev_lc (own := [("one", 13)]) rfl sc_l_taken.nd (eic (ei_range1 (by rfl) Z.b_range (ev_rd (i := 5) rfl (Or.inr (Or.inl rfl))))) (blkOk_by (N := N_l_taken) (sc := relS _ (defScope s_l_taken)) (by decide +kernel)) (by decide) (fun _ _ _ _ _ => eg_name (i := 13) sc_l_taken.nd rfl (Or.inl rfl)) (fun _ _ _ _ _ => epts_one (et_eq hr (be (ev_mod (be (ev_toI (by rfl) Z.b_int (be (ev_add (be (ev_ix (ev_rd (i := 2) rfl (Or.inr (Or.inl rfl))) (ev_rd (i := 12) rfl (Or.inr (Or.inl rfl))) (fun _ _ => rfl))) (be (ev_ix (ev_rd (i := 10) rfl (Or.inr (Or.inl rfl))) (ev_rd (i := 13) rfl (Or.inl rfl)) (fun _ _ => rfl))))))) (ev_rd (i := 5) rfl (Or.inr (Or.inl rfl))))) (ev_rd (i := 8) rfl (Or.inr (Or.inl rfl))))) (fun _ _ _ _ _ => ev_var (i := 13) rfl (Or.inl rfl)))))) (es_cons (es_if (PW.pt (ew_or (et_ne hr (be (ev_len (by rfl) Z.b_len (be (ev_ix (ev_rd (i := 11) rfl (Or.inl rfl)) (be (ev_int)) (fun _ _ => rfl))))) (be (ev_int))) (ew_or (et_ne hr (be (ev_len (by rfl) Z.b_len (be (ev_ix (ev_rd (i := 11) rfl (Or.inl rfl)) (be (ev_int)) (fun _ _ => rfl))))) (be (ev_int))) (ew_or1 (et_ne hr (be (ev_ix (ev_rd (i := 11) rfl (Or.inl rfl)) (ev_rd (i := 3) rfl (Or.inl rfl)) (fun _ _ => rfl))) (be (ev_tup (ea_cons (ev_var (i := 4) rfl (Or.inl rfl)) (ea_nil))))))))) (es_one (es_ret (ev_non))) (es_nil)) (es_cons (es_if (et_not (et_val (be (ev_callD D_l_like (hr.mono (by decide)) (by rfl) (ea_cons (ev_callD D_choice_draws (hr.mono (by decide)) (by rfl) (ea_cons (ev_var (i := 5) rfl (Or.inr (Or.inl rfl))) (ea_cons (ev_var (i := 6) rfl (Or.inr (Or.inl rfl))) (ea_cons (ev_var (i := 2) rfl (Or.inr (Or.inl rfl))) (ea_cons (ev_var (i := 8) rfl (Or.inr (Or.inl rfl))) (ea_nil)))))) (ea_cons (ev_tup (ea_cons (ev_ix (ev_rd (i := 11) rfl (Or.inl rfl)) (be (ev_int)) (fun _ _ => rfl)) (ea_cons (ev_ix (ev_rd (i := 11) rfl (Or.inl rfl)) (be (ev_int)) (fun _ _ => rfl)) (ea_nil)))) (ea_nil))))) (fun _ => rfl))) (es_one (es_ret (ev_non))) (es_nil)) (es_cons (es_kill [12] (es_for PassesOwn.never rfl (ei_seq (ev_tup (ea_cons (ev_int) (ea_cons (ev_int) (ea_nil))))) (eg_name (i := 12) sc_l_taken.nd rfl (Or.inl rfl)) (ess_kill [12] (es_one (es_if (et_not (et_val (be (ev_callD D_l_like (hr.mono (by decide)) (by rfl) (ea_cons (ev_callD D_taken (hr.mono (by decide)) (by rfl) (ea_cons (ev_var (i := 5) rfl (Or.inr (Or.inl rfl))) (ea_cons (ev_ix (ev_rd (i := 9) rfl (Or.inl rfl)) (ev_rd (i := 12) rfl (Or.inl rfl)) (fun _ _ => rfl)) (ea_cons (ev_ix (be (ev_ix (ev_rd (i := 11) rfl (Or.inl rfl)) (ev_rd (i := 12) rfl (Or.inl rfl)) (fun _ _ => rfl))) (be (ev_int)) (fun _ _ => rfl)) (ea_nil))))) (ea_cons (ev_ix (ev_rd (i := 1) rfl (Or.inr (Or.inl rfl))) (ev_rd (i := 12) rfl (Or.inl rfl)) (fun _ _ => rfl)) (ea_nil))))) (fun _ => rfl))) (es_one (es_ret (ev_non))) (es_nil)))))) (es_one (es_ret (ev_callD D_taken (hr.mono (by decide)) (by rfl) (ea_cons (ev_var (i := 5) rfl (Or.inr (Or.inl rfl))) (ea_cons (ev_ix (ev_rd (i := 9) rfl (Or.inl rfl)) (ev_rd (i := 3) rfl (Or.inl rfl)) (fun _ _ => rfl)) (ea_cons (ev_var (i := 4) rfl (Or.inl rfl)) (ea_nil))))))))))))))))
theorem ok_row_place (Z : Nb mg)  (F : Fn0 K mg "row_place" s_row_place ["x", "y"]) : Def P w K mg base 1 "row_place" ["x", "y"] m_row_place :=
  def_ok F sc_row_place fun f _ cdv A outer s H E hr => (es_one (es_ret (ev_add (be (ev_mul (be (ev_int)) (be (ev_mod (ev_rd (i := 0) rfl (Or.inl rfl)) (be (ev_int)))))) (be (ev_mod (ev_rd (i := 1) rfl (Or.inl rfl)) (be (ev_int)))))))
theorem ok_veil_of (Z : Nb mg)  (F : Fn0 K mg "veil_of" s_veil_of ["x", "y", "gate"]) : Def P w K mg base 1 "veil_of" ["x", "y", "gate"] m_veil_of :=
  def_ok F sc_veil_of fun f _ cdv A outer s H E hr => (es_one (es_ret (ev_mod (be (ev_add (be (ev_add (be (ev_mul (be (ev_int)) (ev_rd (i := 0) rfl (Or.inl rfl)))) (be (ev_mul (be (ev_int)) (ev_rd (i := 1) rfl (Or.inl rfl)))))) (ev_rd (i := 2) rfl (Or.inl rfl)))) (be (ev_int)))))
theorem ok_gate_bit (Z : Nb mg)  (F : Fn0 K mg "gate_bit" s_gate_bit ["kind", "first", "second"]) : Def P w K mg base 1 "gate_bit" ["kind", "first", "second"] m_gate_bit :=
  def_ok F sc_gate_bit fun f _ cdv A outer s H E hr => (es_cons (es_if (et_eq hr (ev_rd (i := 0) rfl (Or.inl rfl)) (be (ev_str))) (es_one (es_ret (ev_and (ev_rd (i := 1) rfl (Or.inl rfl)) (ev_rd (i := 2) rfl (Or.inl rfl))))) (es_nil)) (es_cons (es_if (et_eq hr (ev_rd (i := 0) rfl (Or.inl rfl)) (be (ev_str))) (es_one (es_ret (ev_or (ev_rd (i := 1) rfl (Or.inl rfl)) (ev_rd (i := 2) rfl (Or.inl rfl))))) (es_nil)) (es_one (es_ret (ev_xor (ev_rd (i := 1) rfl (Or.inl rfl)) (ev_rd (i := 2) rfl (Or.inl rfl)))))))
theorem ok_veiled_gate (Z : Nb mg) (D_row_place : Def P w K mg base 1 "row_place" ["x", "y"] m_row_place) (D_veil_of : Def P w K mg base 1 "veil_of" ["x", "y", "gate"] m_veil_of) (D_gate_bit : Def P w K mg base 1 "gate_bit" ["kind", "first", "second"] m_gate_bit) (F : Fn0 K mg "veiled_gate" s_veiled_gate ["names", "results", "gate", "place"]) : Def P w K mg base 2 "veiled_gate" ["names", "results", "gate", "place"] m_veiled_gate :=
  def_ok F sc_veiled_gate fun f _ cdv A outer s H E hr => (es_cons (es_asg (ev_var (i := 2) rfl (Or.inl rfl)) (eg_tup rfl (egs_cons (eg_name (i := 4) sc_veiled_gate.nd rfl (Or.inl rfl)) (egs_cons (eg_name (i := 5) sc_veiled_gate.nd rfl (Or.inl rfl)) (egs_cons (eg_name (i := 6) sc_veiled_gate.nd rfl (Or.inl rfl)) (egs_nil)))))) (es_cons (es_set (i := 7) sc_veiled_gate.nd rfl (Or.inl rfl) (ev_mul (be (ev_lst (ea_cons (ev_int) (ea_nil)))) (be (ev_int)))) (es_cons (es_kill [8, 9, 10, 11] (es_for PassesOwn.never rfl (ei_range1 (by rfl) Z.b_range (be (ev_int))) (eg_name (i := 8) sc_veiled_gate.nd rfl (Or.inl rfl)) (ess_kill [8, 9, 10, 11] (es_one (es_kill [9, 10, 11] (es_for PassesOwn.never rfl (ei_range1 (by rfl) Z.b_range (be (ev_int))) (eg_name (i := 9) sc_veiled_gate.nd rfl (Or.inl rfl)) (ess_kill [9, 10, 11] (es_cons (es_par (i := 10) (j := 11) rfl sc_veiled_gate.nd rfl rfl (by decide) rfl rfl (ev_ix (be (ev_ix (ev_rd (i := 0) rfl (Or.inl rfl)) (ev_rd (i := 5) rfl (Or.inl rfl)) (fun _ _ => rfl))) (ev_rd (i := 8) rfl (Or.inl rfl)) (fun _ _ => rfl)) (ev_ix (be (ev_ix (ev_rd (i := 0) rfl (Or.inl rfl)) (ev_rd (i := 6) rfl (Or.inl rfl)) (fun _ _ => rfl))) (ev_rd (i := 9) rfl (Or.inl rfl)) (fun _ _ => rfl)) (by rfl)) (es_one (es_store (i := 7) (pv 7) (ev_xor (be (ev_ix (ev_rd (i := 1) rfl (Or.inl rfl)) (be (ev_callD D_gate_bit (hr.mono (by decide)) (by rfl) (ea_cons (ev_var (i := 4) rfl (Or.inl rfl)) (ea_cons (ev_var (i := 8) rfl (Or.inl rfl)) (ea_cons (ev_var (i := 9) rfl (Or.inl rfl)) (ea_nil)))))) (fun _ _ => rfl))) (be (ev_callD D_veil_of (hr.mono (by decide)) (by rfl) (ea_cons (ev_var (i := 10) rfl (Or.inl rfl)) (ea_cons (ev_var (i := 11) rfl (Or.inl rfl)) (ea_cons (ev_var (i := 3) rfl (Or.inl rfl)) (ea_nil))))))) (be (ev_callD D_row_place (hr.mono (by decide)) (by rfl) (ea_cons (ev_var (i := 10) rfl (Or.inl rfl)) (ea_cons (ev_var (i := 11) rfl (Or.inl rfl)) (ea_nil))))))))))))))) (es_one (es_ret (ev_toT (by rfl) Z.b_tuple (ev_rd (i := 7) rfl (Or.inl rfl))))))))
theorem ok_veiled (Z : Nb mg) (D_veiled_gate : Def P w K mg base 2 "veiled_gate" ["names", "results", "gate", "place"] m_veiled_gate) (F : Fn0 K mg "veiled" s_veiled ["n", "circuit", "names"]) : Def P w K mg base 3 "veiled" ["n", "circuit", "names"] m_veiled :=
  def_ok F sc_veiled fun f _ cdv A outer s H E hr => (es_one (es_ret (ev_toT (by rfl) Z.b_tuple (be (ev_lc (own := [("place", 3), ("gate", 4)]) rfl sc_veiled.nd (eic (ei_enum (by rfl) Z.b_enumerate (ev_var (i := 1) rfl (Or.inl rfl)))) (blkOk_by (N := N_veiled) (sc := defScope s_veiled) (by decide +kernel)) (by decide) (fun _ _ _ _ _ => eg_tup rfl (egs_cons (eg_name (i := 3) sc_veiled.nd rfl (Or.inl rfl)) (egs_cons (eg_name (i := 4) sc_veiled.nd rfl (Or.inl rfl)) (egs_nil)))) (fun _ _ _ _ _ => epts_nil) (fun _ _ _ _ _ => ev_callD D_veiled_gate (hr.mono (by decide)) (by rfl) (ea_cons (ev_var (i := 2) rfl (Or.inr (Or.inl rfl))) (ea_cons (ev_ix (ev_rd (i := 2) rfl (Or.inr (Or.inl rfl))) (be (ev_add (ev_rd (i := 0) rfl (Or.inr (Or.inl rfl))) (ev_rd (i := 3) rfl (Or.inl rfl)))) (fun _ _ => rfl)) (ea_cons (ev_var (i := 4) rfl (Or.inl rfl)) (ea_cons (ev_var (i := 3) rfl (Or.inl rfl)) (ea_nil)))))))))))
theorem ok_circuit_told (Z : Nb mg) (D_gate_bit : Def P w K mg base 1 "gate_bit" ["kind", "first", "second"] m_gate_bit) (F : Fn0 K mg "circuit_told" s_circuit_told ["n", "circuit", "bits"]) : Def P w K mg base 2 "circuit_told" ["n", "circuit", "bits"] m_circuit_told :=
  def_ok F sc_circuit_told fun f _ cdv A outer s H E hr => (es_cons (es_set (i := 3) sc_circuit_told.nd rfl (Or.inl rfl) (ev_toL (by rfl) Z.b_list (be (ev_slice (ev_rd (i := 2) rfl (Or.inl rfl)) (eo_none) (eo_some (ev_rd (i := 0) rfl (Or.inl rfl))))))) (es_cons (es_kill [4, 5, 6] (es_for PassesOwn.never rfl (ei_seq (ev_var (i := 1) rfl (Or.inl rfl))) (eg_tup rfl (egs_cons (eg_name (i := 4) sc_circuit_told.nd rfl (Or.inl rfl)) (egs_cons (eg_name (i := 5) sc_circuit_told.nd rfl (Or.inl rfl)) (egs_cons (eg_name (i := 6) sc_circuit_told.nd rfl (Or.inl rfl)) (egs_nil))))) (ess_kill [4, 5, 6] (es_one (es_append (i := 3) (pv 3) (ev_callD D_gate_bit (hr.mono (by decide)) (by rfl) (ea_cons (ev_var (i := 4) rfl (Or.inl rfl)) (ea_cons (ev_ix (ev_rd (i := 3) rfl (Or.inl rfl)) (ev_rd (i := 5) rfl (Or.inl rfl)) (fun _ _ => rfl)) (ea_cons (ev_ix (ev_rd (i := 3) rfl (Or.inl rfl)) (ev_rd (i := 6) rfl (Or.inl rfl)) (fun _ _ => rfl)) (ea_nil)))))))))) (es_one (es_ret (ev_toT (by rfl) Z.b_tuple (ev_rd (i := 3) rfl (Or.inl rfl)))))))
theorem ok_veiled_told (Z : Nb mg) (D_veil_of : Def P w K mg base 1 "veil_of" ["x", "y", "gate"] m_veil_of) (D_row_place : Def P w K mg base 1 "row_place" ["x", "y"] m_row_place) (F : Fn0 K mg "veiled_told" s_veiled_told ["n", "circuit", "rows", "given"]) : Def P w K mg base 2 "veiled_told" ["n", "circuit", "rows", "given"] m_veiled_told :=
  def_ok F sc_veiled_told fun f _ cdv A outer s H E hr => (es_cons (es_set (i := 4) sc_veiled_told.nd rfl (Or.inl rfl) (ev_toL (by rfl) Z.b_list (be (ev_slice (ev_rd (i := 3) rfl (Or.inl rfl)) (eo_none) (eo_some (ev_rd (i := 0) rfl (Or.inl rfl))))))) (es_cons (es_kill [5, 6, 7, 8, 9, 10] (es_for PassesOwn.never rfl (ei_enum (by rfl) Z.b_enumerate (ev_var (i := 1) rfl (Or.inl rfl))) (eg_tup rfl (egs_cons (eg_name (i := 5) sc_veiled_told.nd rfl (Or.inl rfl)) (egs_cons (eg_tup rfl (egs_cons (eg_name (i := 6) sc_veiled_told.nd rfl (Or.inl rfl)) (egs_cons (eg_name (i := 7) sc_veiled_told.nd rfl (Or.inl rfl)) (egs_cons (eg_name (i := 8) sc_veiled_told.nd rfl (Or.inl rfl)) (egs_nil))))) (egs_nil)))) (ess_kill [5, 6, 7, 8, 9, 10] (es_cons (es_par (i := 9) (j := 10) rfl sc_veiled_told.nd rfl rfl (by decide) rfl rfl (ev_ix (ev_rd (i := 4) rfl (Or.inl rfl)) (ev_rd (i := 7) rfl (Or.inl rfl)) (fun _ _ => rfl)) (ev_ix (ev_rd (i := 4) rfl (Or.inl rfl)) (ev_rd (i := 8) rfl (Or.inl rfl)) (fun _ _ => rfl)) (by rfl)) (es_one (es_append (i := 4) (pv 4) (ev_xor (be (ev_ix (be (ev_ix (ev_rd (i := 2) rfl (Or.inl rfl)) (ev_rd (i := 5) rfl (Or.inl rfl)) (fun _ _ => rfl))) (be (ev_callD D_row_place (hr.mono (by decide)) (by rfl) (ea_cons (ev_var (i := 9) rfl (Or.inl rfl)) (ea_cons (ev_var (i := 10) rfl (Or.inl rfl)) (ea_nil))))) (fun _ _ => rfl))) (be (ev_callD D_veil_of (hr.mono (by decide)) (by rfl) (ea_cons (ev_var (i := 9) rfl (Or.inl rfl)) (ea_cons (ev_var (i := 10) rfl (Or.inl rfl)) (ea_cons (ev_var (i := 5) rfl (Or.inl rfl)) (ea_nil))))))))))))) (es_one (es_ret (ev_toT (by rfl) Z.b_tuple (ev_rd (i := 4) rfl (Or.inl rfl)))))))
theorem ok_name_bit (Z : Nb mg)  (F : Fn0 K mg "name_bit" s_name_bit ["names", "line", "name"]) : Def P w K mg base 1 "name_bit" ["names", "line", "name"] m_name_bit :=
  def_ok F sc_name_bit fun f _ cdv A outer s H E hr => (es_cons (es_kill [3] (es_for PassesOwn.never rfl (ei_range1 (by rfl) Z.b_range (be (ev_int))) (eg_name (i := 3) sc_name_bit.nd rfl (Or.inl rfl)) (ess_kill [3] (es_one (es_if (et_eq hr (be (ev_ix (be (ev_ix (ev_rd (i := 0) rfl (Or.inl rfl)) (ev_rd (i := 1) rfl (Or.inl rfl)) (fun _ _ => rfl))) (ev_rd (i := 3) rfl (Or.inl rfl)) (fun _ _ => rfl))) (ev_rd (i := 2) rfl (Or.inl rfl))) (es_one (es_ret (ev_var (i := 3) rfl (Or.inl rfl)))) (es_nil)))))) (es_one (es_ret (ev_non))))
theorem body_law {f : Addr} (Z : Nb mg) (D_l_row : Def P w K mg base 2 "_law_row" ["script", "many"] m_l_row) (D_l_key : Def P w K mg base 15 "_law_key" ["row"] m_l_key) (D_l_veil : Def P w K mg base 2 "_law_veil" ["n", "circuit", "names"] m_l_veil) (D_l_lines : Def P w K mg base 2 "_law_lines" ["circuit", "bits"] m_l_lines) (D_l_circuit : Def P w K mg base 1 "_law_circuit" ["row", "at", "n", "count"] m_l_circuit) (D_l_names : Def P w K mg base 1 "_law_names" ["row", "at", "count"] m_l_names) (D_l_like : Def P w K mg base 14 "_law_like" ["value", "due"] m_l_like) (D_l_taken : Def P w K mg base 15 "_law_taken" ["key", "numbers", "told", "choice", "draw"] m_l_taken) (D_veiled : Def P w K mg base 3 "veiled" ["n", "circuit", "names"] m_veiled) (D_circuit_told : Def P w K mg base 2 "circuit_told" ["n", "circuit", "bits"] m_circuit_told) (D_veiled_told : Def P w K mg base 2 "veiled_told" ["n", "circuit", "rows", "given"] m_veiled_told) (D_name_bit : Def P w K mg base 1 "name_bit" ["names", "line", "name"] m_name_bit) (cdv : Value) (A : Around) (outer : List Env) (s : Shared) (H : Hp) (E : XK) (hr : Room 15 (A.deeper (PyProof.Rows.envOfC "law" (defScope s_law) s.heap.objs.size f cdv))) :
    PSs (cxOf CX0 P w K mg base N_law "law" (defScope s_law) f cdv A outer s H E).nox (defBody s_law) (rS K B_law) :=
  (es_cons (es_set (i := 1) sc_law.nd rfl (Or.inr rfl) (ev_callD D_l_row (hr.mono (by decide)) (by rfl) (ea_cons (ev_var (i := 0) rfl (Or.inl rfl)) (ea_cons (ev_int) (ea_nil))))) (ess_frz 1 (es_cons (es_set (i := 2) sc_law.nd rfl (Or.inl rfl) (ev_callD D_l_key (hr.mono (by decide)) (by rfl) (ea_cons (ev_var (i := 1) rfl (Or.inr (Or.inl rfl))) (ea_nil)))) (es_cons (es_if (et_is (ev_rd (i := 2) rfl (Or.inl rfl)) (be (ev_non))) (es_one (es_ret (ev_bl))) (es_nil)) (es_cons (es_par (i := 3) (j := 4) rfl sc_law.nd rfl rfl (by decide) rfl rfl (ev_ix (ev_rd (i := 2) rfl (Or.inl rfl)) (be (ev_int)) (fun _ _ => rfl)) (ev_add (be (ev_int)) (be (ev_mod (be (ev_toI (by rfl) Z.b_int (be (ev_ix (ev_rd (i := 1) rfl (Or.inr (Or.inl rfl))) (be (ev_int)) (fun _ _ => rfl))))) (be (ev_int))))) (by rfl)) (ess_frz 1 (es_cons (es_asg (ev_tup (ea_cons (ev_callD D_l_circuit (hr.mono (by decide)) (by rfl) (ea_cons (ev_var (i := 1) rfl (Or.inr (Or.inl rfl))) (ea_cons (ev_int) (ea_cons (ev_int) (ea_cons (ev_var (i := 4) rfl (Or.inl rfl)) (ea_nil)))))) (ea_cons (ev_callD D_l_names (hr.mono (by decide)) (by rfl) (ea_cons (ev_var (i := 1) rfl (Or.inr (Or.inl rfl))) (ea_cons (ev_int) (ea_cons (ev_add (be (ev_int)) (ev_rd (i := 4) rfl (Or.inl rfl))) (ea_nil))))) (ea_nil)))) (eg_tup rfl (egs_cons (eg_name (i := 5) sc_law.nd rfl (Or.inl rfl)) (egs_cons (eg_name (i := 6) sc_law.nd rfl (Or.inr rfl)) (egs_nil))))) (es_cons (es_set (i := 7) sc_law.nd rfl (Or.inl rfl) (ev_toT (by rfl) Z.b_tuple (be (ev_lc (own := [("k", 16)]) rfl sc_law.nd (eic (ei_range1 (by rfl) Z.b_range (be (ev_int)))) (blkOk_by (N := N_law) (sc := defScope s_law) (by decide +kernel)) (by decide) (fun _ _ _ _ _ => eg_name (i := 16) sc_law.nd rfl (Or.inl rfl)) (fun _ _ _ _ _ => epts_nil) (fun _ _ _ _ _ => ev_mod (be (ev_toI (by rfl) Z.b_int (be (ev_ix (ev_rd (i := 1) rfl (Or.inr (Or.inl rfl))) (be (ev_add (be (ev_int)) (ev_rd (i := 16) rfl (Or.inl rfl)))) (fun _ _ => rfl))))) (be (ev_int))))))) (es_cons (es_set (i := 8) sc_law.nd rfl (Or.inl rfl) (ev_callD D_l_veil (hr.mono (by decide)) (by rfl) (ea_cons (ev_int) (ea_cons (ev_var (i := 5) rfl (Or.inl rfl)) (ea_cons (ev_var (i := 6) rfl (Or.inr (Or.inl rfl))) (ea_nil)))))) (es_cons (es_if (et_not (et_val (be (ev_callD D_l_like (hr.mono (by decide)) (by rfl) (ea_cons (ev_callD D_veiled (hr.mono (by decide)) (by rfl) (ea_cons (ev_int) (ea_cons (ev_var (i := 5) rfl (Or.inl rfl)) (ea_cons (ev_var (i := 6) rfl (Or.inr (Or.inl rfl))) (ea_nil))))) (ea_cons (ev_var (i := 8) rfl (Or.inl rfl)) (ea_nil))))) (fun _ => rfl))) (es_one (es_ret (ev_bl))) (es_nil)) (es_cons (es_set (i := 9) sc_law.nd rfl (Or.inl rfl) (ev_lst (ea_cons (ev_ix (be (ev_ix (ev_rd (i := 6) rfl (Or.inr (Or.inl rfl))) (be (ev_int)) (fun _ _ => rfl))) (be (ev_ix (ev_rd (i := 7) rfl (Or.inl rfl)) (be (ev_int)) (fun _ _ => rfl))) (fun _ _ => rfl)) (ea_cons (ev_ix (be (ev_ix (ev_rd (i := 6) rfl (Or.inr (Or.inl rfl))) (be (ev_int)) (fun _ _ => rfl))) (be (ev_ix (ev_rd (i := 7) rfl (Or.inl rfl)) (be (ev_int)) (fun _ _ => rfl))) (fun _ _ => rfl)) (ea_nil))))) (es_cons (es_kill [10, 11, 12, 13] (es_for PassesOwn.never rfl (ei_seq (ev_tup (ea_cons (ev_int) (ea_cons (ev_int) (ea_nil))))) (eg_name (i := 10) sc_law.nd rfl (Or.inl rfl)) (ess_kill [10, 11, 12, 13] (es_cons (es_set (i := 11) sc_law.nd rfl (Or.inl rfl) (ev_mod (be (ev_toI (by rfl) Z.b_int (be (ev_ix (ev_rd (i := 1) rfl (Or.inr (Or.inl rfl))) (be (ev_add (be (ev_int)) (ev_rd (i := 10) rfl (Or.inl rfl)))) (fun _ _ => rfl))))) (ev_rd (i := 3) rfl (Or.inl rfl)))) (es_cons (es_set (i := 12) sc_law.nd rfl (Or.inl rfl) (ev_tup (ea_cons (ev_var (i := 11) rfl (Or.inl rfl)) (ea_cons (ev_mod (be (ev_toI (by rfl) Z.b_int (be (ev_add (be (ev_add (ev_rd (i := 11) rfl (Or.inl rfl)) (be (ev_int)))) (be (ev_mod (be (ev_toI (by rfl) Z.b_int (be (ev_ix (ev_rd (i := 1) rfl (Or.inr (Or.inl rfl))) (be (ev_add (be (ev_int)) (ev_rd (i := 10) rfl (Or.inl rfl)))) (fun _ _ => rfl))))) (be (ev_sub (ev_rd (i := 3) rfl (Or.inl rfl)) (be (ev_int)))))))))) (ev_rd (i := 3) rfl (Or.inl rfl))) (ea_nil))))) (es_cons (es_set (i := 13) sc_law.nd rfl (Or.inl rfl) (ev_callD D_l_taken (hr.mono (by decide)) (by rfl) (ea_cons (ev_var (i := 2) rfl (Or.inl rfl)) (ea_cons (ev_ix (ev_rd (i := 6) rfl (Or.inr (Or.inl rfl))) (ev_rd (i := 10) rfl (Or.inl rfl)) (fun _ _ => rfl)) (ea_cons (ev_var (i := 12) rfl (Or.inl rfl)) (ea_cons (ev_ix (ev_rd (i := 7) rfl (Or.inl rfl)) (ev_rd (i := 10) rfl (Or.inl rfl)) (fun _ _ => rfl)) (ea_cons (ev_mod (be (ev_toI (by rfl) Z.b_int (be (ev_ix (ev_rd (i := 1) rfl (Or.inr (Or.inl rfl))) (be (ev_add (be (ev_int)) (ev_rd (i := 10) rfl (Or.inl rfl)))) (fun _ _ => rfl))))) (ev_rd (i := 3) rfl (Or.inl rfl))) (ea_nil)))))))) (es_cons (es_if (et_is (ev_rd (i := 13) rfl (Or.inl rfl)) (be (ev_non))) (es_one (es_ret (ev_bl))) (es_nil)) (es_one (es_append (i := 9) (pv 9) (ev_var (i := 13) rfl (Or.inl rfl))))))))))) (es_cons (es_set (i := 14) sc_law.nd rfl (Or.inr rfl) (ev_callD D_l_lines (hr.mono (by decide)) (by rfl) (ea_cons (ev_var (i := 5) rfl (Or.inl rfl)) (ea_cons (ev_var (i := 7) rfl (Or.inl rfl)) (ea_nil))))) (es_cons (es_set (i := 15) sc_law.nd rfl (Or.inr rfl) (ev_toT (by rfl) Z.b_tuple (be (ev_lc (own := [("k", 16)]) rfl sc_law.nd (eic (ei_range1 (by rfl) Z.b_range (be (ev_add (be (ev_int)) (ev_rd (i := 4) rfl (Or.inl rfl)))))) (blkOk_by (N := N_law) (sc := defScope s_law) (by decide +kernel)) (by decide) (fun _ _ _ _ _ => eg_name (i := 16) sc_law.nd rfl (Or.inl rfl)) (fun _ _ _ _ _ => epts_nil) (fun _ _ _ _ _ => ev_ix (be (ev_ix (ev_rd (i := 6) rfl (Or.inr (Or.inl rfl))) (ev_rd (i := 16) rfl (Or.inl rfl)) (fun _ _ => rfl))) (be (ev_ix (ev_rd (i := 14) rfl (Or.inr (Or.inl rfl))) (ev_rd (i := 16) rfl (Or.inl rfl)) (fun _ _ => rfl))) (fun _ _ => rfl)))))) (es_cons (es_if (et_not (et_val (be (ev_callD D_l_like (hr.mono (by decide)) (by rfl) (ea_cons (ev_callD D_circuit_told (hr.mono (by decide)) (by rfl) (ea_cons (ev_int) (ea_cons (ev_var (i := 5) rfl (Or.inl rfl)) (ea_cons (ev_var (i := 7) rfl (Or.inl rfl)) (ea_nil))))) (ea_cons (ev_var (i := 14) rfl (Or.inr (Or.inl rfl))) (ea_nil))))) (fun _ => rfl))) (es_one (es_ret (ev_bl))) (es_nil)) (es_cons (es_if (et_not (et_val (be (ev_callD D_l_like (hr.mono (by decide)) (by rfl) (ea_cons (ev_callD D_veiled_told (hr.mono (by decide)) (by rfl) (ea_cons (ev_int) (ea_cons (ev_var (i := 5) rfl (Or.inl rfl)) (ea_cons (ev_var (i := 8) rfl (Or.inl rfl)) (ea_cons (ev_toT (by rfl) Z.b_tuple (ev_rd (i := 9) rfl (Or.inl rfl))) (ea_nil)))))) (ea_cons (ev_var (i := 15) rfl (Or.inr (Or.inl rfl))) (ea_nil))))) (fun _ => rfl))) (es_one (es_ret (ev_bl))) (es_nil)) (es_one (es_ret (ev_all rfl (by rfl) Z.b_all (be (ev_lc (own := [("k", 16)]) rfl sc_law.nd (eic (ei_range1 (by rfl) Z.b_range (be (ev_add (be (ev_int)) (ev_rd (i := 4) rfl (Or.inl rfl)))))) (blkOk_by (N := N_law) (sc := defScope s_law) (by decide +kernel)) (by decide) (fun _ _ _ _ _ => eg_name (i := 16) sc_law.nd rfl (Or.inl rfl)) (fun _ _ _ _ _ => epts_nil) (fun _ _ _ _ _ => ev_callD D_l_like (hr.mono (by decide)) (by rfl) (ea_cons (ev_callD D_name_bit (hr.mono (by decide)) (by rfl) (ea_cons (ev_var (i := 6) rfl (Or.inr (Or.inl rfl))) (ea_cons (ev_var (i := 16) rfl (Or.inl rfl)) (ea_cons (ev_ix (ev_rd (i := 15) rfl (Or.inr (Or.inl rfl))) (ev_rd (i := 16) rfl (Or.inl rfl)) (fun _ _ => rfl)) (ea_nil))))) (ea_cons (ev_ix (ev_rd (i := 14) rfl (Or.inr (Or.inl rfl))) (ev_rd (i := 16) rfl (Or.inl rfl)) (fun _ _ => rfl)) (ea_nil)))))))))))))))))))))))))
end
theorem all_mk {l : PySem.W.OpenLaw} {w : World} {K : PySem.W.Frag} {h : Heap} {mg : Str → Option Value} {fa f0 f1 f2 f3 f4 f5 f6 f7 f8 f9 f10 f11 f12 f13 f14 f15 f16 f17 f18 f19 f20 f21 f22 f23 f24 f25 f26 f27 f28 f29 : Addr} (X : K.In h) (G : h.Ns mainGlobals mg) (hfa : mg "law" = some (.ref fa))
    {od0 an0 od1 an1 od2 an2 od3 an3 od4 an4 od5 an5 od6 an6 od7 an7 od8 an8 od9 an9 od10 an10 od11 an11 od12 an12 od13 an13 od14 an14 od15 an15 od16 an16 od17 an17 od18 an18 od19 an19 od20 an20 od21 an21 od22 an22 od23 an23 od24 an24 od25 an25 od26 an26 od27 an27 od28 an28 od29 an29 : Option Addr} {sl0 sl1 sl2 sl3 sl4 sl5 sl6 sl7 sl8 sl9 sl10 sl11 sl12 sl13 sl14 sl15 sl16 sl17 sl18 sl19 sl20 sl21 sl22 sl23 sl24 sl25 sl26 sl27 sl28 sl29 : Array (Option Value)} {oc0 kV0 dc0 pm0 cd0 ct0 oc1 kV1 dc1 pm1 cd1 ct1 oc2 kV2 dc2 pm2 cd2 ct2 oc3 kV3 dc3 pm3 cd3 ct3 oc4 kV4 dc4 pm4 cd4 ct4 oc5 kV5 dc5 pm5 cd5 ct5 oc6 kV6 dc6 pm6 cd6 ct6 oc7 kV7 dc7 pm7 cd7 ct7 oc8 kV8 dc8 pm8 cd8 ct8 oc9 kV9 dc9 pm9 cd9 ct9 oc10 kV10 dc10 pm10 cd10 ct10 oc11 kV11 dc11 pm11 cd11 ct11 oc12 kV12 dc12 pm12 cd12 ct12 oc13 kV13 dc13 pm13 cd13 ct13 oc14 kV14 dc14 pm14 cd14 ct14 oc15 kV15 dc15 pm15 cd15 ct15 oc16 kV16 dc16 pm16 cd16 ct16 oc17 kV17 dc17 pm17 cd17 ct17 oc18 kV18 dc18 pm18 cd18 ct18 oc19 kV19 dc19 pm19 cd19 ct19 oc20 kV20 dc20 pm20 cd20 ct20 oc21 kV21 dc21 pm21 cd21 ct21 oc22 kV22 dc22 pm22 cd22 ct22 oc23 kV23 dc23 pm23 cd23 ct23 oc24 kV24 dc24 pm24 cd24 ct24 oc25 kV25 dc25 pm25 cd25 ct25 oc26 kV26 dc26 pm26 cd26 ct26 oc27 kV27 dc27 pm27 cd27 ct27 oc28 kV28 dc28 pm28 cd28 ct28 oc29 kV29 dc29 pm29 cd29 ct29 : Value}
    (a0 : PySem.W.nsIn K mainGlobals "_law_mixed" = some (some (.ref f0))) (l0 : K.lookup f0 = some ⟨oc0, od0, .func (PySem.W.fnOf "_law_mixed" "_law_mixed" (defArgs s_l_mixed) (defBody s_l_mixed) (defScope s_l_mixed) .none kV0 dc0 pm0 an0 cd0 ct0), sl0⟩) (c0 : PySem.W.codeIn K cd0 "_law_mixed" = true) (k0 : PySem.W.keepIn K (.ref f0) = true)
    (a1 : PySem.W.nsIn K mainGlobals "_law_row" = some (some (.ref f1))) (l1 : K.lookup f1 = some ⟨oc1, od1, .func (PySem.W.fnOf "_law_row" "_law_row" (defArgs s_l_row) (defBody s_l_row) (defScope s_l_row) .none kV1 dc1 pm1 an1 cd1 ct1), sl1⟩) (c1 : PySem.W.codeIn K cd1 "_law_row" = true) (k1 : PySem.W.keepIn K (.ref f1) = true)
    (a2 : PySem.W.nsIn K mainGlobals "_law_common" = some (some (.ref f2))) (l2 : K.lookup f2 = some ⟨oc2, od2, .func (PySem.W.fnOf "_law_common" "_law_common" (defArgs s_l_common) (defBody s_l_common) (defScope s_l_common) .none kV2 dc2 pm2 an2 cd2 ct2), sl2⟩) (c2 : PySem.W.codeIn K cd2 "_law_common" = true) (k2 : PySem.W.keepIn K (.ref f2) = true)
    (a3 : PySem.W.nsIn K mainGlobals "_law_is_int" = some (some (.ref f3))) (l3 : K.lookup f3 = some ⟨oc3, od3, .func (PySem.W.fnOf "_law_is_int" "_law_is_int" (defArgs s_l_is_int) (defBody s_l_is_int) (defScope s_l_is_int) .none kV3 dc3 pm3 an3 cd3 ct3), sl3⟩) (c3 : PySem.W.codeIn K cd3 "_law_is_int" = true) (k3 : PySem.W.keepIn K (.ref f3) = true)
    (a4 : PySem.W.nsIn K mainGlobals "_law_like" = some (some (.ref f4))) (l4 : K.lookup f4 = some ⟨oc4, od4, .func (PySem.W.fnOf "_law_like" "_law_like" (defArgs s_l_like) (defBody s_l_like) (defScope s_l_like) .none kV4 dc4 pm4 an4 cd4 ct4), sl4⟩) (c4 : PySem.W.codeIn K cd4 "_law_like" = true) (k4 : PySem.W.keepIn K (.ref f4) = true)
    (a5 : PySem.W.nsIn K mainGlobals "divisor" = some (some (.ref f5))) (l5 : K.lookup f5 = some ⟨oc5, od5, .func (PySem.W.fnOf "divisor" "divisor" (defArgs s_divisor) (defBody s_divisor) (defScope s_divisor) .none kV5 dc5 pm5 an5 cd5 ct5), sl5⟩) (c5 : PySem.W.codeIn K cd5 "divisor" = true) (k5 : PySem.W.keepIn K (.ref f5) = true)
    (a6 : PySem.W.nsIn K mainGlobals "common_round" = some (some (.ref f6))) (l6 : K.lookup f6 = some ⟨oc6, od6, .func (PySem.W.fnOf "common_round" "common_round" (defArgs s_common_round) (defBody s_common_round) (defScope s_common_round) .none kV6 dc6 pm6 an6 cd6 ct6), sl6⟩) (c6 : PySem.W.codeIn K cd6 "common_round" = true) (k6 : PySem.W.keepIn K (.ref f6) = true)
    (a7 : PySem.W.nsIn K mainGlobals "turned_number" = some (some (.ref f7))) (l7 : K.lookup f7 = some ⟨oc7, od7, .func (PySem.W.fnOf "turned_number" "turned_number" (defArgs s_turned_number) (defBody s_turned_number) (defScope s_turned_number) .none kV7 dc7 pm7 an7 cd7 ct7), sl7⟩) (c7 : PySem.W.codeIn K cd7 "turned_number" = true) (k7 : PySem.W.keepIn K (.ref f7) = true)
    (a8 : PySem.W.nsIn K mainGlobals "lock_key" = some (some (.ref f8))) (l8 : K.lookup f8 = some ⟨oc8, od8, .func (PySem.W.fnOf "lock_key" "lock_key" (defArgs s_lock_key) (defBody s_lock_key) (defScope s_lock_key) .none kV8 dc8 pm8 an8 cd8 ct8), sl8⟩) (c8 : PySem.W.codeIn K cd8 "lock_key" = true) (k8 : PySem.W.keepIn K (.ref f8) = true)
    (a9 : PySem.W.nsIn K mainGlobals "_law_key" = some (some (.ref f9))) (l9 : K.lookup f9 = some ⟨oc9, od9, .func (PySem.W.fnOf "_law_key" "_law_key" (defArgs s_l_key) (defBody s_l_key) (defScope s_l_key) .none kV9 dc9 pm9 an9 cd9 ct9), sl9⟩) (c9 : PySem.W.codeIn K cd9 "_law_key" = true) (k9 : PySem.W.keepIn K (.ref f9) = true)
    (a10 : PySem.W.nsIn K mainGlobals "_law_gate" = some (some (.ref f10))) (l10 : K.lookup f10 = some ⟨oc10, od10, .func (PySem.W.fnOf "_law_gate" "_law_gate" (defArgs s_l_gate) (defBody s_l_gate) (defScope s_l_gate) .none kV10 dc10 pm10 an10 cd10 ct10), sl10⟩) (c10 : PySem.W.codeIn K cd10 "_law_gate" = true) (k10 : PySem.W.keepIn K (.ref f10) = true)
    (a11 : PySem.W.nsIn K mainGlobals "_law_veil" = some (some (.ref f11))) (l11 : K.lookup f11 = some ⟨oc11, od11, .func (PySem.W.fnOf "_law_veil" "_law_veil" (defArgs s_l_veil) (defBody s_l_veil) (defScope s_l_veil) .none kV11 dc11 pm11 an11 cd11 ct11), sl11⟩) (c11 : PySem.W.codeIn K cd11 "_law_veil" = true) (k11 : PySem.W.keepIn K (.ref f11) = true)
    (a12 : PySem.W.nsIn K mainGlobals "_law_lines" = some (some (.ref f12))) (l12 : K.lookup f12 = some ⟨oc12, od12, .func (PySem.W.fnOf "_law_lines" "_law_lines" (defArgs s_l_lines) (defBody s_l_lines) (defScope s_l_lines) .none kV12 dc12 pm12 an12 cd12 ct12), sl12⟩) (c12 : PySem.W.codeIn K cd12 "_law_lines" = true) (k12 : PySem.W.keepIn K (.ref f12) = true)
    (a13 : PySem.W.nsIn K mainGlobals "_law_circuit" = some (some (.ref f13))) (l13 : K.lookup f13 = some ⟨oc13, od13, .func (PySem.W.fnOf "_law_circuit" "_law_circuit" (defArgs s_l_circuit) (defBody s_l_circuit) (defScope s_l_circuit) .none kV13 dc13 pm13 an13 cd13 ct13), sl13⟩) (c13 : PySem.W.codeIn K cd13 "_law_circuit" = true) (k13 : PySem.W.keepIn K (.ref f13) = true)
    (a14 : PySem.W.nsIn K mainGlobals "_law_names" = some (some (.ref f14))) (l14 : K.lookup f14 = some ⟨oc14, od14, .func (PySem.W.fnOf "_law_names" "_law_names" (defArgs s_l_names) (defBody s_l_names) (defScope s_l_names) .none kV14 dc14 pm14 an14 cd14 ct14), sl14⟩) (c14 : PySem.W.codeIn K cd14 "_law_names" = true) (k14 : PySem.W.keepIn K (.ref f14) = true)
    (a15 : PySem.W.nsIn K mainGlobals "taken" = some (some (.ref f15))) (l15 : K.lookup f15 = some ⟨oc15, od15, .func (PySem.W.fnOf "taken" "taken" (defArgs s_taken) (defBody s_taken) (defScope s_taken) .none kV15 dc15 pm15 an15 cd15 ct15), sl15⟩) (c15 : PySem.W.codeIn K cd15 "taken" = true) (k15 : PySem.W.keepIn K (.ref f15) = true)
    (a16 : PySem.W.nsIn K mainGlobals "_law_power" = some (some (.ref f16))) (l16 : K.lookup f16 = some ⟨oc16, od16, .func (PySem.W.fnOf "_law_power" "_law_power" (defArgs s_l_power) (defBody s_l_power) (defScope s_l_power) .none kV16 dc16 pm16 an16 cd16 ct16), sl16⟩) (c16 : PySem.W.codeIn K cd16 "_law_power" = true) (k16 : PySem.W.keepIn K (.ref f16) = true)
    (a17 : PySem.W.nsIn K mainGlobals "power_in" = some (some (.ref f17))) (l17 : K.lookup f17 = some ⟨oc17, od17, .func (PySem.W.fnOf "power_in" "power_in" (defArgs s_power_in) (defBody s_power_in) (defScope s_power_in) .none kV17 dc17 pm17 an17 cd17 ct17), sl17⟩) (c17 : PySem.W.codeIn K cd17 "power_in" = true) (k17 : PySem.W.keepIn K (.ref f17) = true)
    (a18 : PySem.W.nsIn K mainGlobals "taken_one" = some (some (.ref f18))) (l18 : K.lookup f18 = some ⟨oc18, od18, .func (PySem.W.fnOf "taken_one" "taken_one" (defArgs s_taken_one) (defBody s_taken_one) (defScope s_taken_one) .none kV18 dc18 pm18 an18 cd18 ct18), sl18⟩) (c18 : PySem.W.codeIn K cd18 "taken_one" = true) (k18 : PySem.W.keepIn K (.ref f18) = true)
    (a19 : PySem.W.nsIn K mainGlobals "choice_draws" = some (some (.ref f19))) (l19 : K.lookup f19 = some ⟨oc19, od19, .func (PySem.W.fnOf "choice_draws" "choice_draws" (defArgs s_choice_draws) (defBody s_choice_draws) (defScope s_choice_draws) .none kV19 dc19 pm19 an19 cd19 ct19), sl19⟩) (c19 : PySem.W.codeIn K cd19 "choice_draws" = true) (k19 : PySem.W.keepIn K (.ref f19) = true)
    (a20 : PySem.W.nsIn K mainGlobals "_law_taken" = some (some (.ref f20))) (l20 : K.lookup f20 = some ⟨oc20, od20, .func (PySem.W.fnOf "_law_taken" "_law_taken" (defArgs s_l_taken) (defBody s_l_taken) (defScope s_l_taken) .none kV20 dc20 pm20 an20 cd20 ct20), sl20⟩) (c20 : PySem.W.codeIn K cd20 "_law_taken" = true) (k20 : PySem.W.keepIn K (.ref f20) = true)
    (a21 : PySem.W.nsIn K mainGlobals "row_place" = some (some (.ref f21))) (l21 : K.lookup f21 = some ⟨oc21, od21, .func (PySem.W.fnOf "row_place" "row_place" (defArgs s_row_place) (defBody s_row_place) (defScope s_row_place) .none kV21 dc21 pm21 an21 cd21 ct21), sl21⟩) (c21 : PySem.W.codeIn K cd21 "row_place" = true) (k21 : PySem.W.keepIn K (.ref f21) = true)
    (a22 : PySem.W.nsIn K mainGlobals "veil_of" = some (some (.ref f22))) (l22 : K.lookup f22 = some ⟨oc22, od22, .func (PySem.W.fnOf "veil_of" "veil_of" (defArgs s_veil_of) (defBody s_veil_of) (defScope s_veil_of) .none kV22 dc22 pm22 an22 cd22 ct22), sl22⟩) (c22 : PySem.W.codeIn K cd22 "veil_of" = true) (k22 : PySem.W.keepIn K (.ref f22) = true)
    (a23 : PySem.W.nsIn K mainGlobals "gate_bit" = some (some (.ref f23))) (l23 : K.lookup f23 = some ⟨oc23, od23, .func (PySem.W.fnOf "gate_bit" "gate_bit" (defArgs s_gate_bit) (defBody s_gate_bit) (defScope s_gate_bit) .none kV23 dc23 pm23 an23 cd23 ct23), sl23⟩) (c23 : PySem.W.codeIn K cd23 "gate_bit" = true) (k23 : PySem.W.keepIn K (.ref f23) = true)
    (a24 : PySem.W.nsIn K mainGlobals "veiled_gate" = some (some (.ref f24))) (l24 : K.lookup f24 = some ⟨oc24, od24, .func (PySem.W.fnOf "veiled_gate" "veiled_gate" (defArgs s_veiled_gate) (defBody s_veiled_gate) (defScope s_veiled_gate) .none kV24 dc24 pm24 an24 cd24 ct24), sl24⟩) (c24 : PySem.W.codeIn K cd24 "veiled_gate" = true) (k24 : PySem.W.keepIn K (.ref f24) = true)
    (a25 : PySem.W.nsIn K mainGlobals "veiled" = some (some (.ref f25))) (l25 : K.lookup f25 = some ⟨oc25, od25, .func (PySem.W.fnOf "veiled" "veiled" (defArgs s_veiled) (defBody s_veiled) (defScope s_veiled) .none kV25 dc25 pm25 an25 cd25 ct25), sl25⟩) (c25 : PySem.W.codeIn K cd25 "veiled" = true) (k25 : PySem.W.keepIn K (.ref f25) = true)
    (a26 : PySem.W.nsIn K mainGlobals "circuit_told" = some (some (.ref f26))) (l26 : K.lookup f26 = some ⟨oc26, od26, .func (PySem.W.fnOf "circuit_told" "circuit_told" (defArgs s_circuit_told) (defBody s_circuit_told) (defScope s_circuit_told) .none kV26 dc26 pm26 an26 cd26 ct26), sl26⟩) (c26 : PySem.W.codeIn K cd26 "circuit_told" = true) (k26 : PySem.W.keepIn K (.ref f26) = true)
    (a27 : PySem.W.nsIn K mainGlobals "veiled_told" = some (some (.ref f27))) (l27 : K.lookup f27 = some ⟨oc27, od27, .func (PySem.W.fnOf "veiled_told" "veiled_told" (defArgs s_veiled_told) (defBody s_veiled_told) (defScope s_veiled_told) .none kV27 dc27 pm27 an27 cd27 ct27), sl27⟩) (c27 : PySem.W.codeIn K cd27 "veiled_told" = true) (k27 : PySem.W.keepIn K (.ref f27) = true)
    (a28 : PySem.W.nsIn K mainGlobals "name_bit" = some (some (.ref f28))) (l28 : K.lookup f28 = some ⟨oc28, od28, .func (PySem.W.fnOf "name_bit" "name_bit" (defArgs s_name_bit) (defBody s_name_bit) (defScope s_name_bit) .none kV28 dc28 pm28 an28 cd28 ct28), sl28⟩) (c28 : PySem.W.codeIn K cd28 "name_bit" = true) (k28 : PySem.W.keepIn K (.ref f28) = true)
    (a29 : PySem.W.nsIn K mainGlobals "law" = some (some (.ref f29))) (l29 : K.lookup f29 = some ⟨oc29, od29, .func (PySem.W.fnOf "law" "law" (defArgs s_law) (defBody s_law) (defScope s_law) .none kV29 dc29 pm29 an29 cd29 ct29), sl29⟩) (c29 : PySem.W.codeIn K cd29 "law" = true) (k29 : PySem.W.keepIn K (.ref f29) = true)
    (z0 : PySem.W.nsIn K mainGlobals "abs" = some none)
    (z1 : PySem.W.nsIn K mainGlobals "all" = some none)
    (z2 : PySem.W.nsIn K mainGlobals "bool" = some none)
    (z3 : PySem.W.nsIn K mainGlobals "enumerate" = some none)
    (z4 : PySem.W.nsIn K mainGlobals "int" = some none)
    (z5 : PySem.W.nsIn K mainGlobals "isinstance" = some none)
    (z6 : PySem.W.nsIn K mainGlobals "len" = some none)
    (z7 : PySem.W.nsIn K mainGlobals "list" = some none)
    (z8 : PySem.W.nsIn K mainGlobals "max" = some none)
    (z9 : PySem.W.nsIn K mainGlobals "range" = some none)
    (z10 : PySem.W.nsIn K mainGlobals "str" = some none)
    (z11 : PySem.W.nsIn K mainGlobals "tuple" = some none)
    (z12 : PySem.W.nsIn K mainGlobals "zip" = some none)
    : ∃ fd : FuncData, (∀ (s : Shared) (v : Value), BindsTo s fd ⟨[v], []⟩ [("script", v)]) ∧ ∀ base : Heap, K.In base → base.Ns mainGlobals mg → FnOk l.prog w K mg base CX0 16 fa fd ["script"] (spF K 1 m_law) := by
  have Z : Nb mg := ⟨PySem.W.mg_none_of X G z0, PySem.W.mg_none_of X G z1, PySem.W.mg_none_of X G z2, PySem.W.mg_none_of X G z3, PySem.W.mg_none_of X G z4, PySem.W.mg_none_of X G z5, PySem.W.mg_none_of X G z6, PySem.W.mg_none_of X G z7, PySem.W.mg_none_of X G z8, PySem.W.mg_none_of X G z9, PySem.W.mg_none_of X G z10, PySem.W.mg_none_of X G z11, PySem.W.mg_none_of X G z12⟩
  have F0 : Fn0 K mg "_law_mixed" s_l_mixed ["script", "k"] := ⟨f0, _, fun_mk (st := s_l_mixed) l0 c0 k0, PySem.W.mg_of X G a0, (fun_mk (st := s_l_mixed) l0 c0 k0).binds fun _ _ _ _ _ _ us hl => match us, hl with | [_, _], _ => rfl⟩
  have F1 : Fn0 K mg "_law_row" s_l_row ["script", "many"] := ⟨f1, _, fun_mk (st := s_l_row) l1 c1 k1, PySem.W.mg_of X G a1, (fun_mk (st := s_l_row) l1 c1 k1).binds fun _ _ _ _ _ _ us hl => match us, hl with | [_, _], _ => rfl⟩
  have F2 : Fn0 K mg "_law_common" s_l_common ["first", "second"] := ⟨f2, _, fun_mk (st := s_l_common) l2 c2 k2, PySem.W.mg_of X G a2, (fun_mk (st := s_l_common) l2 c2 k2).binds fun _ _ _ _ _ _ us hl => match us, hl with | [_, _], _ => rfl⟩
  have F3 : Fn0 K mg "_law_is_int" s_l_is_int ["value"] := ⟨f3, _, fun_mk (st := s_l_is_int) l3 c3 k3, PySem.W.mg_of X G a3, (fun_mk (st := s_l_is_int) l3 c3 k3).binds fun _ _ _ _ _ _ us hl => match us, hl with | [_], _ => rfl⟩
  have F4 : Fn0 K mg "_law_like" s_l_like ["value", "due"] := ⟨f4, _, fun_mk (st := s_l_like) l4 c4 k4, PySem.W.mg_of X G a4, (fun_mk (st := s_l_like) l4 c4 k4).binds fun _ _ _ _ _ _ us hl => match us, hl with | [_, _], _ => rfl⟩
  have F5 : Fn0 K mg "divisor" s_divisor ["first", "second"] := ⟨f5, _, fun_mk (st := s_divisor) l5 c5 k5, PySem.W.mg_of X G a5, (fun_mk (st := s_divisor) l5 c5 k5).binds fun _ _ _ _ _ _ us hl => match us, hl with | [_, _], _ => rfl⟩
  have F6 : Fn0 K mg "common_round" s_common_round ["p", "q"] := ⟨f6, _, fun_mk (st := s_common_round) l6 c6 k6, PySem.W.mg_of X G a6, (fun_mk (st := s_common_round) l6 c6 k6).binds fun _ _ _ _ _ _ us hl => match us, hl with | [_, _], _ => rfl⟩
  have F7 : Fn0 K mg "turned_number" s_turned_number ["a", "n"] := ⟨f7, _, fun_mk (st := s_turned_number) l7 c7 k7, PySem.W.mg_of X G a7, (fun_mk (st := s_turned_number) l7 c7 k7).binds fun _ _ _ _ _ _ us hl => match us, hl with | [_, _], _ => rfl⟩
  have F8 : Fn0 K mg "lock_key" s_lock_key ["p", "q", "e"] := ⟨f8, _, fun_mk (st := s_lock_key) l8 c8 k8, PySem.W.mg_of X G a8, (fun_mk (st := s_lock_key) l8 c8 k8).binds fun _ _ _ _ _ _ us hl => match us, hl with | [_, _, _], _ => rfl⟩
  have F9 : Fn0 K mg "_law_key" s_l_key ["row"] := ⟨f9, _, fun_mk (st := s_l_key) l9 c9 k9, PySem.W.mg_of X G a9, (fun_mk (st := s_l_key) l9 c9 k9).binds fun _ _ _ _ _ _ us hl => match us, hl with | [_], _ => rfl⟩
  have F10 : Fn0 K mg "_law_gate" s_l_gate ["kind", "a", "b"] := ⟨f10, _, fun_mk (st := s_l_gate) l10 c10 k10, PySem.W.mg_of X G a10, (fun_mk (st := s_l_gate) l10 c10 k10).binds fun _ _ _ _ _ _ us hl => match us, hl with | [_, _, _], _ => rfl⟩
  have F11 : Fn0 K mg "_law_veil" s_l_veil ["n", "circuit", "names"] := ⟨f11, _, fun_mk (st := s_l_veil) l11 c11 k11, PySem.W.mg_of X G a11, (fun_mk (st := s_l_veil) l11 c11 k11).binds fun _ _ _ _ _ _ us hl => match us, hl with | [_, _, _], _ => rfl⟩
  have F12 : Fn0 K mg "_law_lines" s_l_lines ["circuit", "bits"] := ⟨f12, _, fun_mk (st := s_l_lines) l12 c12 k12, PySem.W.mg_of X G a12, (fun_mk (st := s_l_lines) l12 c12 k12).binds fun _ _ _ _ _ _ us hl => match us, hl with | [_, _], _ => rfl⟩
  have F13 : Fn0 K mg "_law_circuit" s_l_circuit ["row", "at", "n", "count"] := ⟨f13, _, fun_mk (st := s_l_circuit) l13 c13 k13, PySem.W.mg_of X G a13, (fun_mk (st := s_l_circuit) l13 c13 k13).binds fun _ _ _ _ _ _ us hl => match us, hl with | [_, _, _, _], _ => rfl⟩
  have F14 : Fn0 K mg "_law_names" s_l_names ["row", "at", "count"] := ⟨f14, _, fun_mk (st := s_l_names) l14 c14 k14, PySem.W.mg_of X G a14, (fun_mk (st := s_l_names) l14 c14 k14).binds fun _ _ _ _ _ _ us hl => match us, hl with | [_, _, _], _ => rfl⟩
  have F15 : Fn0 K mg "taken" s_taken ["n", "answer", "draw"] := ⟨f15, _, fun_mk (st := s_taken) l15 c15 k15, PySem.W.mg_of X G a15, (fun_mk (st := s_taken) l15 c15 k15).binds fun _ _ _ _ _ _ us hl => match us, hl with | [_, _, _], _ => rfl⟩
  have F16 : Fn0 K mg "_law_power" s_l_power ["a", "e", "n"] := ⟨f16, _, fun_mk (st := s_l_power) l16 c16 k16, PySem.W.mg_of X G a16, (fun_mk (st := s_l_power) l16 c16 k16).binds fun _ _ _ _ _ _ us hl => match us, hl with | [_, _, _], _ => rfl⟩
  have F17 : Fn0 K mg "power_in" s_power_in ["a", "e", "n"] := ⟨f17, _, fun_mk (st := s_power_in) l17 c17 k17, PySem.W.mg_of X G a17, (fun_mk (st := s_power_in) l17 c17 k17).binds fun _ _ _ _ _ _ us hl => match us, hl with | [_, _, _], _ => rfl⟩
  have F18 : Fn0 K mg "taken_one" s_taken_one ["key", "numbers", "told", "choice", "draw"] := ⟨f18, _, fun_mk (st := s_taken_one) l18 c18 k18, PySem.W.mg_of X G a18, (fun_mk (st := s_taken_one) l18 c18 k18).binds fun _ _ _ _ _ _ us hl => match us, hl with | [_, _, _, _, _], _ => rfl⟩
  have F19 : Fn0 K mg "choice_draws" s_choice_draws ["n", "e", "told", "asked"] := ⟨f19, _, fun_mk (st := s_choice_draws) l19 c19 k19, PySem.W.mg_of X G a19, (fun_mk (st := s_choice_draws) l19 c19 k19).binds fun _ _ _ _ _ _ us hl => match us, hl with | [_, _, _, _], _ => rfl⟩
  have F20 : Fn0 K mg "_law_taken" s_l_taken ["key", "numbers", "told", "choice", "draw"] := ⟨f20, _, fun_mk (st := s_l_taken) l20 c20 k20, PySem.W.mg_of X G a20, (fun_mk (st := s_l_taken) l20 c20 k20).binds fun _ _ _ _ _ _ us hl => match us, hl with | [_, _, _, _, _], _ => rfl⟩
  have F21 : Fn0 K mg "row_place" s_row_place ["x", "y"] := ⟨f21, _, fun_mk (st := s_row_place) l21 c21 k21, PySem.W.mg_of X G a21, (fun_mk (st := s_row_place) l21 c21 k21).binds fun _ _ _ _ _ _ us hl => match us, hl with | [_, _], _ => rfl⟩
  have F22 : Fn0 K mg "veil_of" s_veil_of ["x", "y", "gate"] := ⟨f22, _, fun_mk (st := s_veil_of) l22 c22 k22, PySem.W.mg_of X G a22, (fun_mk (st := s_veil_of) l22 c22 k22).binds fun _ _ _ _ _ _ us hl => match us, hl with | [_, _, _], _ => rfl⟩
  have F23 : Fn0 K mg "gate_bit" s_gate_bit ["kind", "first", "second"] := ⟨f23, _, fun_mk (st := s_gate_bit) l23 c23 k23, PySem.W.mg_of X G a23, (fun_mk (st := s_gate_bit) l23 c23 k23).binds fun _ _ _ _ _ _ us hl => match us, hl with | [_, _, _], _ => rfl⟩
  have F24 : Fn0 K mg "veiled_gate" s_veiled_gate ["names", "results", "gate", "place"] := ⟨f24, _, fun_mk (st := s_veiled_gate) l24 c24 k24, PySem.W.mg_of X G a24, (fun_mk (st := s_veiled_gate) l24 c24 k24).binds fun _ _ _ _ _ _ us hl => match us, hl with | [_, _, _, _], _ => rfl⟩
  have F25 : Fn0 K mg "veiled" s_veiled ["n", "circuit", "names"] := ⟨f25, _, fun_mk (st := s_veiled) l25 c25 k25, PySem.W.mg_of X G a25, (fun_mk (st := s_veiled) l25 c25 k25).binds fun _ _ _ _ _ _ us hl => match us, hl with | [_, _, _], _ => rfl⟩
  have F26 : Fn0 K mg "circuit_told" s_circuit_told ["n", "circuit", "bits"] := ⟨f26, _, fun_mk (st := s_circuit_told) l26 c26 k26, PySem.W.mg_of X G a26, (fun_mk (st := s_circuit_told) l26 c26 k26).binds fun _ _ _ _ _ _ us hl => match us, hl with | [_, _, _], _ => rfl⟩
  have F27 : Fn0 K mg "veiled_told" s_veiled_told ["n", "circuit", "rows", "given"] := ⟨f27, _, fun_mk (st := s_veiled_told) l27 c27 k27, PySem.W.mg_of X G a27, (fun_mk (st := s_veiled_told) l27 c27 k27).binds fun _ _ _ _ _ _ us hl => match us, hl with | [_, _, _, _], _ => rfl⟩
  have F28 : Fn0 K mg "name_bit" s_name_bit ["names", "line", "name"] := ⟨f28, _, fun_mk (st := s_name_bit) l28 c28 k28, PySem.W.mg_of X G a28, (fun_mk (st := s_name_bit) l28 c28 k28).binds fun _ _ _ _ _ _ us hl => match us, hl with | [_, _, _], _ => rfl⟩
  have F29 : Fn0 K mg "law" s_law ["script"] := ⟨f29, _, fun_mk (st := s_law) l29 c29 k29, PySem.W.mg_of X G a29, (fun_mk (st := s_law) l29 c29 k29).binds fun _ _ _ _ _ _ us hl => match us, hl with | [_], _ => rfl⟩
  have e := hfa.symm.trans (PySem.W.mg_of X G a29)
  cases e
  refine ⟨PySem.W.fnOf "law" "law" (defArgs s_law) (defBody s_law) (defScope s_law) .none kV29 dc29 pm29 an29 cd29 ct29, fun s v => .of_eq rfl, fun base _ _ => ?_⟩
  have G0 : Def l.prog w K mg base 1 "_law_mixed" ["script", "k"] m_l_mixed := ok_l_mixed Z  F0
  have G1 : Def l.prog w K mg base 2 "_law_row" ["script", "many"] m_l_row := ok_l_row Z G0 F1
  have G2 : Def l.prog w K mg base 1 "_law_common" ["first", "second"] m_l_common := ok_l_common Z  F2
  have G3 : Def l.prog w K mg base 1 "_law_is_int" ["value"] m_l_is_int := ok_l_is_int Z  F3
  have G4 : Def l.prog w K mg base 14 "_law_like" ["value", "due"] m_l_like := ok_l_like Z G3 F4
  have G5 : Def l.prog w K mg base 1 "divisor" ["first", "second"] m_divisor := ok_divisor Z  F5
  have G6 : Def l.prog w K mg base 2 "common_round" ["p", "q"] m_common_round := ok_common_round Z G5 F6
  have G7 : Def l.prog w K mg base 1 "turned_number" ["a", "n"] m_turned_number := ok_turned_number Z  F7
  have G8 : Def l.prog w K mg base 3 "lock_key" ["p", "q", "e"] m_lock_key := ok_lock_key Z G6 G7 F8
  have G9 : Def l.prog w K mg base 15 "_law_key" ["row"] m_l_key := ok_l_key Z G2 G4 G8 F9
  have G10 : Def l.prog w K mg base 1 "_law_gate" ["kind", "a", "b"] m_l_gate := ok_l_gate Z  F10
  have G11 : Def l.prog w K mg base 2 "_law_veil" ["n", "circuit", "names"] m_l_veil := ok_l_veil Z G10 F11
  have G12 : Def l.prog w K mg base 2 "_law_lines" ["circuit", "bits"] m_l_lines := ok_l_lines Z G10 F12
  have G13 : Def l.prog w K mg base 1 "_law_circuit" ["row", "at", "n", "count"] m_l_circuit := ok_l_circuit Z  F13
  have G14 : Def l.prog w K mg base 1 "_law_names" ["row", "at", "count"] m_l_names := ok_l_names Z  F14
  have G15 : Def l.prog w K mg base 1 "taken" ["n", "answer", "draw"] m_taken := ok_taken Z  F15
  have G16 : Def l.prog w K mg base 1 "_law_power" ["a", "e", "n"] m_l_power := ok_l_power Z  F16
  have G17 : Def l.prog w K mg base 1 "power_in" ["a", "e", "n"] m_power_in := ok_power_in Z  F17
  have G18 : Def l.prog w K mg base 2 "taken_one" ["key", "numbers", "told", "choice", "draw"] m_taken_one := ok_taken_one Z G17 F18
  have G19 : Def l.prog w K mg base 2 "choice_draws" ["n", "e", "told", "asked"] m_choice_draws := ok_choice_draws Z G17 F19
  have G20 : Def l.prog w K mg base 15 "_law_taken" ["key", "numbers", "told", "choice", "draw"] m_l_taken := ok_l_taken Z G15 G4 G16 G18 G19 F20
  have G21 : Def l.prog w K mg base 1 "row_place" ["x", "y"] m_row_place := ok_row_place Z  F21
  have G22 : Def l.prog w K mg base 1 "veil_of" ["x", "y", "gate"] m_veil_of := ok_veil_of Z  F22
  have G23 : Def l.prog w K mg base 1 "gate_bit" ["kind", "first", "second"] m_gate_bit := ok_gate_bit Z  F23
  have G24 : Def l.prog w K mg base 2 "veiled_gate" ["names", "results", "gate", "place"] m_veiled_gate := ok_veiled_gate Z G21 G22 G23 F24
  have G25 : Def l.prog w K mg base 3 "veiled" ["n", "circuit", "names"] m_veiled := ok_veiled Z G24 F25
  have G26 : Def l.prog w K mg base 2 "circuit_told" ["n", "circuit", "bits"] m_circuit_told := ok_circuit_told Z G23 F26
  have G27 : Def l.prog w K mg base 2 "veiled_told" ["n", "circuit", "rows", "given"] m_veiled_told := ok_veiled_told Z G22 G21 F27
  have G28 : Def l.prog w K mg base 1 "name_bit" ["names", "line", "name"] m_name_bit := ok_name_bit Z  F28
  exact fn_ok (fun_mk (st := s_law) l29 c29 k29) sc_law fun cdv A outer s H E hr => body_law Z G1 G9 G11 G12 G13 G14 G4 G20 G25 G26 G27 G28 cdv A outer s H E hr
end L

set_option Elab.async false
set_option linter.all false
set_option maxRecDepth 100000
set_option maxHeartbeats 1000000
set_option exponentiation.threshold 2000000
namespace L
open PySem L2 EV
theorem e_common : m_l_common = d_common := rfl
theorem e_row : m_l_row = d_row := rfl
theorem e_like : m_l_like = dr_like 12 := by
  have : ∀ n, mr_l_like n = dr_like n := fun n => by
    induction n with
    | zero => rfl
    | succ n ih => exact congrArg (fun φ => runF 3 (C_like φ)) ih
  exact this 12
theorem like1 {d : D} (h : flatD 12 d = true) : m_l_like [d, d] = some (.d (.bool true)) := by rw [e_like]; exact like_ok 12 d h
/-! gates -/
def kS (k : Nat) : D := .str (if k = 0 then "and" else if k = 1 then "or" else "xor")
def gateB (k : Nat) (a b : Bool) : Bool := if k = 0 then a && b else if k = 1 then a || b else a != b
abbrev Gt := Nat × Nat × Nat
def gateD (g : Gt) : D := .tuple [kS g.1, .int (g.2.1 : Nat), .int (g.2.2 : Nat)]
theorem bands : Builtin.bitAnd 0 0 = 0 ∧ Builtin.bitAnd 0 1 = 0 ∧ Builtin.bitAnd 1 0 = 0 ∧ Builtin.bitAnd 1 1 = 1 := by decide +kernel
theorem bors : Builtin.bitOr 0 0 = 0 ∧ Builtin.bitOr 0 1 = 1 ∧ Builtin.bitOr 1 0 = 1 ∧ Builtin.bitOr 1 1 = 1 := by decide +kernel
theorem bxors : Builtin.bitXor 0 0 = 0 ∧ Builtin.bitXor 0 1 = 1 ∧ Builtin.bitXor 1 0 = 1 ∧ Builtin.bitXor 1 1 = 0 := by decide +kernel
theorem k3 {k : Nat} (h : k < 3) : k = 0 ∨ k = 1 ∨ k = 2 := by omega
theorem gate_bit_ok {k : Nat} (h : k < 3) (a b : Bool) : m_gate_bit [kS k, bI a, bI b] = some (.d (bI (gateB k a b))) := by
  unfold m_gate_bit B_gate_bit
  rcases k3 h with rfl | rfl | rfl <;> cases a <;> cases b <;> simp [kS, gateB, bands, bors, bxors]
theorem l_gate_ok {k : Nat} (h : k < 3) (a b : Bool) : m_l_gate [kS k, bI a, bI b] = some (.d (bI (gateB k a b))) := by
  have m1 : ∀ i j : Int, i.natAbs < 2 ^ 64 → mulOk i j = true := fun i j h => mulOk_l h
  unfold m_l_gate B_l_gate
  rcases k3 h with rfl | rfl | rfl <;> cases a <;> cases b <;> simp [kS, gateB, m1, Int.max_def]
def WF (n : Nat) : List Gt → Prop
  | [] => True
  | (k, i, j) :: c => k < 3 ∧ i < n ∧ j < n ∧ WF (n + 1) c
def linesB : List Gt → List Bool → List Bool
  | [], ls => ls
  | (k, i, j) :: c, ls => linesB c (ls ++ [gateB k (ls.getD i false) (ls.getD j false)])
theorem linesB_len : ∀ (c : List Gt) (ls : List Bool), (linesB c ls).length = ls.length + c.length
  | [], ls => rfl
  | (k, i, j) :: c, ls => by rw [linesB, linesB_len c]; simp; omega
theorem get_bI {ls : List Bool} {i : Nat} (h : i < ls.length) : (ls.map bI)[i]? = some (bI (ls.getD i false)) := by
  simp [h]
theorem told_loop {y0 y1 y2 : W} : ∀ (c : List Gt) (ls : List Bool), WF ls.length c → ls.length + c.length < 1000000 →
    forL (gT 3 (gsC (gN 4) (gsC (gN 5) (gsC (gN 6) (gsN))))) (sKill [4, 5, 6] (sApp 3 (xCall 3 m_gate_bit (aC (xVar 4) (aC (x2 wIx (xRd 3) (xRd 5)) (aC (x2 wIx (xRd 3) (xRd 6)) (aN))))))) (c.map gateD) [some y0, some y1, some y2, some (.o (.lst (ls.map bI))), none, none, none] =
    some (.nx, [some y0, some y1, some y2, some (.o (.lst ((linesB c ls).map bI))), none, none, none])
  | [], ls, _, _ => by simp [linesB]
  | (k, i, j) :: c, ls, ⟨h1, h2, h3, h4⟩, hl => by
    have ih := told_loop (y0 := y0) (y1 := y1) (y2 := y2) c (ls ++ [gateB k (ls.getD i false) (ls.getD j false)]) (by simpa using h4) (by simp at hl ⊢; omega)
    have g := gate_bit_ok h1 (ls.getD i false) (ls.getD j false)
    have hn : ls.length < 16777216 := by omega
    have e1 := get_bI h2
    have e2 := get_bI h3
    rw [List.map_append, List.map_singleton] at ih
    generalize hx : ls.getD i false = x at *
    generalize hy : ls.getD j false = y at *
    rw [List.map_cons, forL_cons, linesB, hx, hy]
    generalize hm : ls.map bI = ms at *
    have hml : ms.length < 16777216 := by rw [← hm]; simpa using hn
    simp only [gateD]
    generalize kS k = kk at g
    simp [turn, e1, e2, g, hml]
    exact ih
theorem circuit_told_ok {c : List Gt} {ls : List Bool} (h : WF ls.length c) (hl : ls.length + c.length < 1000000) : m_circuit_told [.int (ls.length : Nat), .tuple (c.map gateD), .tuple (ls.map bI)] = some (.d (.tuple ((linesB c ls).map bI))) := by
  have L := told_loop (y0 := .d (.int (ls.length : Nat))) (y1 := .d (.tuple (c.map gateD))) (y2 := .d (.tuple (ls.map bI))) c ls h hl
  have t := cut_take (ls.map bI) ls.length (by simp)
  rw [List.take_of_length_le (by simp)] at t
  unfold m_circuit_told B_circuit_told
  simp [t, L]
theorem lines_loop {y0 y1 : W} : ∀ (c : List Gt) (ls : List Bool), WF ls.length c → ls.length + c.length < 1000000 →
    forL (gT 3 (gsC (gN 3) (gsC (gN 4) (gsC (gN 5) (gsN))))) (sKill [3, 4, 5] (sApp 2 (xCall 3 m_l_gate (aC (xVar 3) (aC (x2 wIx (xRd 2) (xRd 4)) (aC (x2 wIx (xRd 2) (xRd 5)) (aN))))))) (c.map gateD) [some y0, some y1, some (.o (.lst (ls.map bI))), none, none, none] =
    some (.nx, [some y0, some y1, some (.o (.lst ((linesB c ls).map bI))), none, none, none])
  | [], ls, _, _ => by simp [linesB]
  | (k, i, j) :: c, ls, ⟨h1, h2, h3, h4⟩, hl => by
    have ih := lines_loop (y0 := y0) (y1 := y1) c (ls ++ [gateB k (ls.getD i false) (ls.getD j false)]) (by simpa using h4) (by simp at hl ⊢; omega)
    have g := l_gate_ok h1 (ls.getD i false) (ls.getD j false)
    have hn : ls.length < 16777216 := by omega
    have e1 := get_bI h2
    have e2 := get_bI h3
    rw [List.map_append, List.map_singleton] at ih
    generalize hx : ls.getD i false = x at *
    generalize hy : ls.getD j false = y at *
    rw [List.map_cons, forL_cons, linesB, hx, hy]
    generalize hm : ls.map bI = ms at *
    have hml : ms.length < 16777216 := by rw [← hm]; simpa using hn
    simp only [gateD]
    generalize kS k = kk at g
    simp [turn, e1, e2, g, hml]
    exact ih
theorem l_lines_ok {c : List Gt} {ls : List Bool} (h : WF ls.length c) (hl : ls.length + c.length < 1000000) : m_l_lines [.tuple (c.map gateD), .tuple (ls.map bI)] = some (.d (.tuple ((linesB c ls).map bI))) := by
  have L := lines_loop (y0 := .d (.tuple (c.map gateD))) (y1 := .d (.tuple (ls.map bI))) c ls h hl
  unfold m_l_lines B_l_lines
  simp [L]
theorem WF_snoc : ∀ (c : List Gt) (n k i j : Nat), WF n c → k < 3 → i < n + c.length → j < n + c.length → WF n (c ++ [(k, i, j)])
  | [], n, k, i, j, _, h1, h2, h3 => ⟨h1, by simpa using h2, by simpa using h3, trivial⟩
  | (k', i', j') :: c, n, k, i, j, ⟨a, b, d, e⟩, h1, h2, h3 => ⟨a, b, d, WF_snoc c (n + 1) k i j e h1 (by simp at h2; omega) (by simp at h3; omega)⟩
/-- the drawn numbers -/
def Row (row : List D) (m : Nat) : Prop := ∀ k, k < m → ∃ v : Int, row[k]? = some (.int v)
theorem Row.at {row : List D} {m : Nat} (h : Row row m) {i : Int} (k : Nat) (e : i = (k : Nat)) (hk : k < m) : ∃ v : Int, atI row i = some (.int v) := by
  subst e
  rw [atI_cast]
  exact h k hk
theorem circuit_ok {row : List D} {m : Nat} (hr : Row row m) {at_ n cnt : Nat} (hn : 2 ≤ n) (hb : at_ + 3 * cnt ≤ m) (hm : m ≤ 1000) (hn2 : n ≤ 1000) :
    ∃ c : List Gt, m_l_circuit [.list row, .int at_, .int n, .int cnt] = some (.d (.tuple (c.map gateD))) ∧ c.length = cnt ∧ WF n c := by
  obtain ⟨e, q1, c, q2, q3, rfl⟩ := forL_intsI (t := gN 5) (F := sKill [5, 6, 7] (sSeq (sPar 6 7 (xMod (x1 wToI (x2 wIx (xRd 0) (xAdd (xRd 1) (xMul (xC (.int 3)) (xRd 5))))) (xAdd (xRd 2) (xRd 5))) (xMod (x1 wToI (x2 wIx (xRd 0) (xAdd (xAdd (xRd 1) (xMul (xC (.int 3)) (xRd 5))) (xC (.int 1))))) (xSub (xAdd (xRd 2) (xRd 5)) (xC (.int 1))))) (sSeq (sIf (tGe (xRd 7) (xRd 6)) (sSet 7 (xAdd (xRd 7) (xC (.int 1)))) (sNil)) (sApp 4 (xTup (aC (x2 wIx (xTup (aC (xC (.str "and")) (aC (xC (.str "or")) (aC (xC (.str "xor")) (aN))))) (xMod (x1 wToI (x2 wIx (xRd 0) (xAdd (xAdd (xRd 1) (xMul (xC (.int 3)) (xRd 5))) (xC (.int 2))))) (xC (.int 3)))) (aC (xVar 6) (aC (xVar 7) (aN)))))))))
    (lo := 0) (n := cnt) (fun k env => ∃ c : List Gt, c.length = k ∧ WF n c ∧ env = [some (.d (.list row)), some (.d (.int at_)), some (.d (.int n)), some (.d (.int cnt)), some (.o (.lst (c.map gateD))), none, none, none])
    [some (.d (.list row)), some (.d (.int at_)), some (.d (.int n)), some (.d (.int cnt)), some (.o (.lst [])), none, none, none] ⟨[], rfl, trivial, rfl⟩ fun k env hk ⟨c, h1, h2, h3⟩ => by
      subst h3
      obtain ⟨v1, e1⟩ := hr.at (i := (at_ : Int) + 3 * k) (at_ + 3 * k) (by omega) (by omega)
      obtain ⟨v2, e2⟩ := hr.at (i := (at_ : Int) + 3 * k + 1) (at_ + 3 * k + 1) (by omega) (by omega)
      obtain ⟨v3, e3⟩ := hr.at (i := (at_ : Int) + 3 * k + 2) (at_ + 3 * k + 2) (by omega) (by omega)
      obtain ⟨i, hi, hi1⟩ := dr v1 (n + k) (by omega)
      obtain ⟨j, hj, hj1⟩ := dr v2 (n + k - 1) (by omega)
      obtain ⟨κ, hκ, hκ1⟩ := dr v3 3 (by omega)
      rw [show ((n + k : Nat) : Int) = (n : Int) + k by omega] at hi
      rw [show ((n + k - 1 : Nat) : Int) = (n : Int) + k - 1 by omega] at hj
      rw [show ((3 : Nat) : Int) = 3 from rfl] at hκ
      have z1 : ¬ ((n : Int) + k = 0) := by omega
      have z2 : ¬ ((n : Int) + k - 1 = 0) := by omega
      have m3 : ∀ j : Int, mulOk 3 j = true := fun j => mulOk_l (by decide)
      have hl : c.length < 16777216 := by omega
      have hsel : ([PyData.str "and", .str "or", .str "xor"] : List D)[κ]? = some (kS κ) := by
        rcases k3 hκ1 with rfl | rfl | rfl <;> rfl
      by_cases hji : i ≤ j
      · refine ⟨_, ?_, c ++ [(κ, i, j + 1)], by simp [h1], WF_snoc c n κ i (j + 1) h2 hκ1 (by omega) (by omega), rfl⟩
        have hji' : (i : Int) ≤ j := by omega
        simp [turn, m3, e1, e2, e3, z1, z2, hi, hj, hκ, hl, hsel, hji', gateD]
      · refine ⟨_, ?_, c ++ [(κ, i, j)], by simp [h1], WF_snoc c n κ i j h2 hκ1 (by omega) (by omega), rfl⟩
        have hji' : ¬ (i : Int) ≤ j := by omega
        simp [turn, m3, e1, e2, e3, z1, z2, hi, hj, hκ, hl, hsel, hji', gateD]
  refine ⟨c, ?_, q2, q3⟩
  have hrg : rgB (cnt : Int) = true := rgB_nat (by omega)
  unfold m_l_circuit B_l_circuit
  simp [hrg, q1]
abbrev Nm := Nat × Nat
def nameD (p : Nm) : D := .tuple [.int p.1, .int p.2]
def nmOk (p : Nm) : Prop := p.1 < 64 ∧ p.2 < 64 ∧ p.1 % 2 ≠ p.2 % 2
theorem names_ok {row : List D} {m : Nat} (hr : Row row m) {at_ cnt : Nat} (hb : at_ + 2 * cnt ≤ m) (hm : m ≤ 1000) :
    ∃ ns : List Nm, m_l_names [.list row, .int at_, .int cnt] = some (.d (.tuple (ns.map nameD))) ∧ ns.length = cnt ∧ ∀ p ∈ ns, nmOk p := by
  obtain ⟨e, q1, c, q2, q3, rfl⟩ := forL_intsI (t := gN 4) (F := sKill [4, 5] (sSeq (sSet 5 (xMod (x1 wToI (x2 wIx (xRd 0) (xAdd (xRd 1) (xMul (xC (.int 2)) (xRd 4))))) (xC (.int 64)))) (sApp 3 (xTup (aC (xVar 5) (aC (xSub (xAdd (xMul (xC (.int 2)) (xMod (x1 wToI (x2 wIx (xRd 0) (xAdd (xAdd (xRd 1) (xMul (xC (.int 2)) (xRd 4))) (xC (.int 1))))) (xC (.int 32)))) (xC (.int 1))) (xMod (xRd 5) (xC (.int 2)))) (aN)))))))
    (lo := 0) (n := cnt) (fun k env => ∃ c : List Nm, c.length = k ∧ (∀ p ∈ c, nmOk p) ∧ env = [some (.d (.list row)), some (.d (.int at_)), some (.d (.int cnt)), some (.o (.lst (c.map nameD))), none, none])
    [some (.d (.list row)), some (.d (.int at_)), some (.d (.int cnt)), some (.o (.lst [])), none, none] ⟨[], rfl, by simp, rfl⟩ fun k env hk ⟨c, h1, h2, h3⟩ => by
      subst h3
      obtain ⟨v1, e1⟩ := hr.at (i := (at_ : Int) + 2 * k) (at_ + 2 * k) (by omega) (by omega)
      obtain ⟨v2, e2⟩ := hr.at (i := (at_ : Int) + 2 * k + 1) (at_ + 2 * k + 1) (by omega) (by omega)
      obtain ⟨x, hx, hx1⟩ := dr v1 64 (by omega)
      obtain ⟨y, hy, hy1⟩ := dr v2 32 (by omega)
      rw [show ((64 : Nat) : Int) = 64 from rfl] at hx
      rw [show ((32 : Nat) : Int) = 32 from rfl] at hy
      have hx2 : (x : Int).fmod 2 = ((x % 2 : Nat) : Int) := fmod_nat x 2
      have m3 : ∀ j : Int, mulOk 2 j = true := fun j => mulOk_l (by decide)
      have hl : c.length < 16777216 := by omega
      have e : 2 * (y : Int) + 1 - ((x % 2 : Nat) : Int) = ((2 * y + 1 - x % 2 : Nat) : Int) := by omega
      refine ⟨_, ?_, c ++ [(x, 2 * y + 1 - x % 2)], by simp [h1], fun p hp => ?_, rfl⟩
      · generalize hz : ((x % 2 : Nat) : Int) = z at *
        generalize hz2 : ((2 * y + 1 - x % 2 : Nat) : Int) = z2 at *
        simp [turn, m3, e1, e2, hx, hy, hl, hx2, e, nameD, hz2]
      · rcases List.mem_append.mp hp with q | q
        · exact h2 p q
        · have : p = (x, 2 * y + 1 - x % 2) := by simpa using q
          subst this
          exact ⟨hx1, by show 2 * y + 1 - x % 2 < 64; omega, by show x % 2 ≠ (2 * y + 1 - x % 2) % 2; omega⟩
  refine ⟨c, ?_, q2, q3⟩
  have hrg : rgB (cnt : Int) = true := rgB_nat (by omega)
  unfold m_l_names B_l_names
  simp [hrg, q1]
def sel (p : Nm) (b : Bool) : Nat := if b then p.2 else p.1
def pl (x y : Nat) : Nat := 2 * (x % 2) + y % 2
def hid (x y g : Nat) : Nat := (37 * x + 11 * y + g) % 64
theorem pl_lt (x y : Nat) : pl x y < 4 := by unfold pl; omega
def nI (x : Nat) : D := .int (x : Nat)
theorem row_place_ok (x y : Nat) : m_row_place [.int x, .int y] = some (.d (.int (pl x y : Nat))) := by
  have h1 : (x : Int).fmod 2 = ((x % 2 : Nat) : Int) := fmod_nat x 2
  have h2 : (y : Int).fmod 2 = ((y % 2 : Nat) : Int) := fmod_nat y 2
  have m3 : ∀ j : Int, mulOk 2 j = true := fun j => mulOk_l (by decide)
  unfold m_row_place B_row_place pl
  rw [show ((2 * (x % 2) + y % 2 : Nat) : Int) = 2 * ((x % 2 : Nat) : Int) + ((y % 2 : Nat) : Int) by omega]
  generalize ((x % 2 : Nat) : Int) = a at *
  generalize ((y % 2 : Nat) : Int) = b at *
  simp [h1, h2, m3]
theorem veil_of_ok (x y g : Nat) : m_veil_of [.int x, .int y, .int g] = some (.d (.int (hid x y g : Nat))) := by
  have h1 : (37 * (x : Int) + 11 * y + g).fmod 64 = ((hid x y g : Nat) : Int) := fmod_nat (37 * x + 11 * y + g) 64
  have m3 : ∀ j : Int, mulOk 37 j = true := fun j => mulOk_l (by decide)
  have m4 : ∀ j : Int, mulOk 11 j = true := fun j => mulOk_l (by decide)
  unfold m_veil_of B_veil_of
  simp [h1, m3, m4]
def vl (ns : List Nm) (n g : Nat) (gt : Gt) (a b : Bool) : Nat := sel (ns.getD (n + g) (0, 1)) (gateB gt.1 a b) ^^^ hid (sel (ns.getD gt.2.1 (0, 1)) a) (sel (ns.getD gt.2.2 (0, 1)) b) g
def plG (ns : List Nm) (gt : Gt) (a b : Bool) : Nat := pl (sel (ns.getD gt.2.1 (0, 1)) a) (sel (ns.getD gt.2.2 (0, 1)) b)
def four (ns : List Nm) (n g : Nat) (gt : Gt) : List Nat :=
  ((([0, 0, 0, 0].set (plG ns gt false false) (vl ns n g gt false false)).set (plG ns gt false true) (vl ns n g gt false true)).set (plG ns gt true false) (vl ns n g gt true false)).set (plG ns gt true true) (vl ns n g gt true true)
def fourD (ns : List Nm) (n g : Nat) (gt : Gt) : D := .tuple ((four ns n g gt).map nI)
theorem par2 {p : Nm} (h : nmOk p) : (p.1 % 2 = 0 ∧ p.2 % 2 = 1) ∨ (p.1 % 2 = 1 ∧ p.2 % 2 = 0) := by
  have := h.2.2
  omega
theorem four_get {ns : List Nm} {n g : Nat} {gt : Gt} (h1 : nmOk (ns.getD gt.2.1 (0, 1))) (h2 : nmOk (ns.getD gt.2.2 (0, 1))) (a b : Bool) : (four ns n g gt)[plG ns gt a b]? = some (vl ns n g gt a b) := by
  unfold four plG pl
  generalize vl ns n g gt = V
  generalize ns.getD gt.2.1 (0, 1) = p at *
  generalize ns.getD gt.2.2 (0, 1) = q at *
  rcases par2 h1 with ⟨a1, a2⟩ | ⟨a1, a2⟩ <;> rcases par2 h2 with ⟨b1, b2⟩ | ⟨b1, b2⟩ <;> cases a <;> cases b <;> simp [sel, a1, a2, b1, b2]
theorem ix_name (p : Nm) (b : Bool) : wIx (.d (nameD p)) (.d (bI b)) = some (.d (nI (sel p b))) := by
  cases b <;> simp [nameD, sel, nI]
theorem ix_names {ns : List Nm} {i : Nat} (h : i < ns.length) : (ns.map nameD)[i]? = some (nameD (ns.getD i (0, 1))) := by
  simp [h]
section
variable {ns : List Nm} {n g : Nat} {gt : Gt}
theorem vg_turn (hk : gt.1 < 3) (hi : gt.2.1 < ns.length) (hj : gt.2.2 < ns.length) (a b : Bool) (fr : List Nat) (hf : fr.length = 4) (y2 : W) :
    turn (gN 9) (sKill [9, 10, 11] (sSeq (sPar 10 11 (x2 wIx (x2 wIx (xRd 0) (xRd 5)) (xRd 8)) (x2 wIx (x2 wIx (xRd 0) (xRd 6)) (xRd 9))) (sStore 7 (xXor (x2 wIx (xRd 1) (xCall 3 m_gate_bit (aC (xVar 4) (aC (xVar 8) (aC (xVar 9) (aN)))))) (xCall 3 m_veil_of (aC (xVar 10) (aC (xVar 11) (aC (xVar 3) (aN)))))) (xCall 2 m_row_place (aC (xVar 10) (aC (xVar 11) (aN))))))) (bI b)
      [some (.d (.tuple (ns.map nameD))), some (.d (nameD (ns.getD (n + g) (0, 1)))), some y2, some (.d (.int g)), some (.d (kS gt.1)), some (.d (.int gt.2.1)), some (.d (.int gt.2.2)), some (.o (.lst (fr.map nI))), some (.d (bI a)), none, none, none] =
    some (.nx, [some (.d (.tuple (ns.map nameD))), some (.d (nameD (ns.getD (n + g) (0, 1)))), some y2, some (.d (.int g)), some (.d (kS gt.1)), some (.d (.int gt.2.1)), some (.d (.int gt.2.2)), some (.o (.lst ((fr.set (plG ns gt a b) (vl ns n g gt a b)).map nI))), some (.d (bI a)), none, none, none]) := by
  have e1 := ix_names hi
  have e2 := ix_names hj
  unfold plG vl
  generalize ns.map nameD = nd at *
  generalize ns.getD gt.2.1 (0, 1) = p at *
  generalize ns.getD gt.2.2 (0, 1) = q at *
  generalize ns.getD (n + g) (0, 1) = r at *
  have e3 := ix_name p a
  have e4 := ix_name q b
  have e5 := gate_bit_ok hk a b
  have e6 := ix_name r (gateB gt.1 a b)
  have e7 := veil_of_ok (sel p a) (sel q b) g
  have e8 := row_place_ok (sel p a) (sel q b)
  have e9 : ixN (fr.map nI).length ((pl (sel p a) (sel q b) : Nat) : Int) = some (pl (sel p a) (sel q b)) := ixN_nat (by simp [hf, pl_lt])
  have e10 := bitXor_nat (sel r (gateB gt.1 a b)) (hid (sel p a) (sel q b) g)
  rw [List.map_set]
  rw [List.length_map] at e9
  generalize bI a = A at *
  generalize bI b = B at *
  generalize gateB gt.1 a b = z at *
  generalize bI z = Z at *
  generalize kS gt.1 = kk at *
  generalize nameD p = np at *
  generalize nameD q = nq at *
  generalize nameD r = nr at *
  generalize pl (sel p a) (sel q b) = pp at *
  simp only [nI] at *
  simp [turn, e1, e2, e3, e4, e5, e6, e7, e8, e9, e10]
theorem lv_turn {c : D} (hk : gt.1 < 3) (hi : gt.2.1 < ns.length) (hj : gt.2.2 < ns.length) (hg : n + g < ns.length) (a b : Bool) (fr : List Nat) (hf : fr.length = 4) (y3 : W) :
    turn (gN 10) (sKill [10, 11, 12, 13] (sSeq (sPar 11 12 (x2 wIx (x2 wIx (xRd 2) (xRd 6)) (xRd 9)) (x2 wIx (x2 wIx (xRd 2) (xRd 7)) (xRd 10))) (sSeq (sSet 13 (xMod (x1 wToI (xAdd (xAdd (xMul (xC (.int 37)) (xRd 11)) (xMul (xC (.int 11)) (xRd 12))) (xRd 4))) (xC (.int 64)))) (sStore 8 (xXor (x2 wIx (x2 wIx (xRd 2) (xAdd (xRd 0) (xRd 4))) (xCall 3 m_l_gate (aC (xVar 5) (aC (xVar 9) (aC (xVar 10) (aN)))))) (xRd 13)) (xAdd (xMul (xC (.int 2)) (xMod (x1 wToI (xRd 11)) (xC (.int 2)))) (xMod (x1 wToI (xRd 12)) (xC (.int 2)))))))) (bI b)
      [some (.d (.int n)), some (.d c), some (.d (.tuple (ns.map nameD))), some y3, some (.d (.int g)), some (.d (kS gt.1)), some (.d (.int gt.2.1)), some (.d (.int gt.2.2)), some (.o (.lst (fr.map nI))), some (.d (bI a)), none, none, none, none] =
    some (.nx, [some (.d (.int n)), some (.d c), some (.d (.tuple (ns.map nameD))), some y3, some (.d (.int g)), some (.d (kS gt.1)), some (.d (.int gt.2.1)), some (.d (.int gt.2.2)), some (.o (.lst ((fr.set (plG ns gt a b) (vl ns n g gt a b)).map nI))), some (.d (bI a)), none, none, none, none]) := by
  have e1 := ix_names hi
  have e2 := ix_names hj
  have e0 : atI (ns.map nameD) ((n : Int) + g) = some (nameD (ns.getD (n + g) (0, 1))) := by
    rw [show (n : Int) + g = ((n + g : Nat) : Int) by omega, atI_cast]
    exact ix_names hg
  unfold plG vl
  generalize ns.map nameD = nd at *
  generalize ns.getD gt.2.1 (0, 1) = p at *
  generalize ns.getD gt.2.2 (0, 1) = q at *
  generalize ns.getD (n + g) (0, 1) = r at *
  have e3 := ix_name p a
  have e4 := ix_name q b
  have e5 := l_gate_ok hk a b
  have e6 := ix_name r (gateB gt.1 a b)
  have h1 : (37 * ((sel p a : Nat) : Int) + 11 * ((sel q b : Nat) : Int) + g).fmod 64 = ((hid (sel p a) (sel q b) g : Nat) : Int) := fmod_nat (37 * sel p a + 11 * sel q b + g) 64
  have h2 : ((sel p a : Nat) : Int).fmod 2 = ((sel p a % 2 : Nat) : Int) := fmod_nat _ 2
  have h3 : ((sel q b : Nat) : Int).fmod 2 = ((sel q b % 2 : Nat) : Int) := fmod_nat _ 2
  have h4 : 2 * ((sel p a % 2 : Nat) : Int) + ((sel q b % 2 : Nat) : Int) = ((pl (sel p a) (sel q b) : Nat) : Int) := rfl
  have m3 : ∀ j : Int, mulOk 37 j = true := fun j => mulOk_l (by decide)
  have m4 : ∀ j : Int, mulOk 11 j = true := fun j => mulOk_l (by decide)
  have m5 : ∀ j : Int, mulOk 2 j = true := fun j => mulOk_l (by decide)
  have e9 : ixN (fr.map nI).length ((pl (sel p a) (sel q b) : Nat) : Int) = some (pl (sel p a) (sel q b)) := ixN_nat (by simp [hf, pl_lt])
  have e10 := bitXor_nat (sel r (gateB gt.1 a b)) (hid (sel p a) (sel q b) g)
  rw [List.map_set]
  rw [List.length_map] at e9
  generalize bI a = A at *
  generalize bI b = B at *
  generalize gateB gt.1 a b = z at *
  generalize bI z = Z at *
  generalize kS gt.1 = kk at *
  generalize nameD p = np at *
  generalize nameD q = nq at *
  generalize nameD r = nr at *
  generalize pl (sel p a) (sel q b) = pp at *
  generalize ((sel p a % 2 : Nat) : Int) = u1 at *
  generalize ((sel q b % 2 : Nat) : Int) = u2 at *
  simp only [nI] at *
  simp [turn, e0, e1, e2, e3, e4, e5, e6, e9, e10, h1, h2, h3, h4, m3, m4, m5]
end
section
variable {ns : List Nm} {n g : Nat} {gt : Gt}
theorem four_len (ns : List Nm) (n g : Nat) (gt : Gt) : (four ns n g gt).length = 4 := by simp [four]
theorem veiled_gate_ok (hk : gt.1 < 3) (hi : gt.2.1 < ns.length) (hj : gt.2.2 < ns.length) : m_veiled_gate [.tuple (ns.map nameD), nameD (ns.getD (n + g) (0, 1)), gateD gt, .int g] = some (.d (fourD ns n g gt)) := by
  have T := fun (a b : Bool) (fr : List Nat) (hf : fr.length = 4) => vg_turn (g := g) (n := n) hk hi hj a b fr hf (.d (gateD gt))
  have r2 : rgB 2 = true := rfl
  have m4 : ([PyData.int 0] : List D).length * (4 : Int).toNat = 4 := rfl
  unfold m_veiled_gate B_veiled_gate
  have i1 := forL_two (T false false [0, 0, 0, 0] rfl) (T false true _ (by simp))
  have i2 := forL_two (T true false (([0, 0, 0, 0].set (plG ns gt false false) (vl ns n g gt false false)).set (plG ns gt false true) (vl ns n g gt false true)) (by simp)) (T true true _ (by simp))
  have z : [0, 0, 0, 0].map nI = [.int 0, .int 0, .int 0, .int 0] := rfl
  rw [z] at i1
  simp only [bI_t, bI_f] at i1 i2
  rw [show ((((([0, 0, 0, 0].set (plG ns gt false false) (vl ns n g gt false false)).set (plG ns gt false true) (vl ns n g gt false true)).set (plG ns gt true false) (vl ns n g gt true false)).set (plG ns gt true true) (vl ns n g gt true true)).map nI) = (four ns n g gt).map nI from rfl] at i2
  unfold fourD
  clear T
  generalize (([0, 0, 0, 0].set (plG ns gt false false) (vl ns n g gt false false)).set (plG ns gt false true) (vl ns n g gt false true)).map nI = f2 at *
  generalize (four ns n g gt).map nI = f4 at *
  generalize ns.map nameD = nd at *
  generalize nameD (ns.getD (n + g) (0, 1)) = rs at *
  simp only [gateD] at *
  generalize kS gt.1 = kk at *
  have U1 := forL_two (t := gN 8) (F := sKill [8, 9, 10, 11] (sKill [9, 10, 11] (sFor (iR1 (xC (.int 2))) (gN 9) (sKill [9, 10, 11] (sSeq (sPar 10 11 (x2 wIx (x2 wIx (xRd 0) (xRd 5)) (xRd 8)) (x2 wIx (x2 wIx (xRd 0) (xRd 6)) (xRd 9))) (sStore 7 (xXor (x2 wIx (xRd 1) (xCall 3 m_gate_bit (aC (xVar 4) (aC (xVar 8) (aC (xVar 9) (aN)))))) (xCall 3 m_veil_of (aC (xVar 10) (aC (xVar 11) (aC (xVar 3) (aN)))))) (xCall 2 m_row_place (aC (xVar 10) (aC (xVar 11) (aN))))))))))
    (x := .int 0) (y := .int 1) (e0 := [some (.d (.tuple nd)), some (.d rs), some (.d (.tuple [kk, .int gt.2.1, .int gt.2.2])), some (.d (.int g)), some (.d kk), some (.d (.int gt.2.1)), some (.d (.int gt.2.2)), some (.o (.lst [.int 0, .int 0, .int 0, .int 0])), none, none, none, none])
    (e1 := [some (.d (.tuple nd)), some (.d rs), some (.d (.tuple [kk, .int gt.2.1, .int gt.2.2])), some (.d (.int g)), some (.d kk), some (.d (.int gt.2.1)), some (.d (.int gt.2.2)), some (.o (.lst f2)), none, none, none, none])
    (e2 := [some (.d (.tuple nd)), some (.d rs), some (.d (.tuple [kk, .int gt.2.1, .int gt.2.2])), some (.d (.int g)), some (.d kk), some (.d (.int gt.2.1)), some (.d (.int gt.2.2)), some (.o (.lst f4)), none, none, none, none]) (by
      unfold turn
      simp [r2, intsD_two, i1]) (by
      unfold turn
      simp [r2, intsD_two, i2])
  simp [r2, intsD_two, U1]
end
section
variable {ns : List Nm} {n g : Nat} {gt : Gt}
def IN_lv : SF := sKill [10, 11, 12, 13] (sSeq (sPar 11 12 (x2 wIx (x2 wIx (xRd 2) (xRd 6)) (xRd 9)) (x2 wIx (x2 wIx (xRd 2) (xRd 7)) (xRd 10))) (sSeq (sSet 13 (xMod (x1 wToI (xAdd (xAdd (xMul (xC (.int 37)) (xRd 11)) (xMul (xC (.int 11)) (xRd 12))) (xRd 4))) (xC (.int 64)))) (sStore 8 (xXor (x2 wIx (x2 wIx (xRd 2) (xAdd (xRd 0) (xRd 4))) (xCall 3 m_l_gate (aC (xVar 5) (aC (xVar 9) (aC (xVar 10) (aN)))))) (xRd 13)) (xAdd (xMul (xC (.int 2)) (xMod (x1 wToI (xRd 11)) (xC (.int 2)))) (xMod (x1 wToI (xRd 12)) (xC (.int 2)))))))
def MID_lv : SF := sKill [9, 10, 11, 12, 13] (sKill [10, 11, 12, 13] (sFor (iS (xTup (aC (xC (.int 0)) (aC (xC (.int 1)) (aN))))) (gN 10) IN_lv))
def OUT_lv : SF := sKill [4, 5, 6, 7, 8, 9, 10, 11, 12, 13] (sSeq (sAsg (x2 wIx (xRd 1) (xRd 4)) (gT 3 (gsC (gN 5) (gsC (gN 6) (gsC (gN 7) (gsN)))))) (sSeq (sSet 8 (xMul (xLst (aC (xC (.int 0)) (aN))) (xC (.int 4)))) (sSeq (sKill [9, 10, 11, 12, 13] (sFor (iS (xTup (aC (xC (.int 0)) (aC (xC (.int 1)) (aN))))) (gN 9) MID_lv)) (sApp 3 (x1 wToT (xRd 8))))))
theorem gate_step {c : List D} (hc : c[g]? = some (gateD gt)) (hk : gt.1 < 3) (hi : gt.2.1 < ns.length) (hj : gt.2.2 < ns.length) (hg : n + g < ns.length) (rs : List D) (hrs : rs.length < 16777216) :
    turn (gN 4) OUT_lv (.int (0 + (g : Nat))) [some (.d (.int n)), some (.d (.tuple c)), some (.d (.tuple (ns.map nameD))), some (.o (.lst rs)), none, none, none, none, none, none, none, none, none, none] =
    some (.nx, [some (.d (.int n)), some (.d (.tuple c)), some (.d (.tuple (ns.map nameD))), some (.o (.lst (rs ++ [fourD ns n g gt]))), none, none, none, none, none, none, none, none, none, none]) := by
  have T := fun (a b : Bool) (fr : List Nat) (hf : fr.length = 4) => lv_turn (c := .tuple c) hk hi hj hg a b fr hf (.o (.lst rs))
  have i1 := forL_two (T false false [0, 0, 0, 0] rfl) (T false true _ (by simp))
  have i2 := forL_two (T true false (([0, 0, 0, 0].set (plG ns gt false false) (vl ns n g gt false false)).set (plG ns gt false true) (vl ns n g gt false true)) (by simp)) (T true true _ (by simp))
  have z : [0, 0, 0, 0].map nI = [.int 0, .int 0, .int 0, .int 0] := rfl
  rw [z] at i1
  simp only [bI_t, bI_f] at i1 i2
  rw [show ((((([0, 0, 0, 0].set (plG ns gt false false) (vl ns n g gt false false)).set (plG ns gt false true) (vl ns n g gt false true)).set (plG ns gt true false) (vl ns n g gt true false)).set (plG ns gt true true) (vl ns n g gt true true)).map nI) = (four ns n g gt).map nI from rfl] at i2
  unfold fourD
  clear T
  generalize (([0, 0, 0, 0].set (plG ns gt false false) (vl ns n g gt false false)).set (plG ns gt false true) (vl ns n g gt false true)).map nI = f2 at *
  generalize (four ns n g gt).map nI = f4 at *
  generalize ns.map nameD = nd at *
  simp only [gateD] at *
  generalize kS gt.1 = kk at *
  have U1 := forL_two (t := gN 9) (F := MID_lv)
    (x := .int 0) (y := .int 1) (e0 := [some (.d (.int n)), some (.d (.tuple c)), some (.d (.tuple nd)), some (.o (.lst rs)), some (.d (.int g)), some (.d kk), some (.d (.int gt.2.1)), some (.d (.int gt.2.2)), some (.o (.lst [.int 0, .int 0, .int 0, .int 0])), none, none, none, none, none])
    (e1 := [some (.d (.int n)), some (.d (.tuple c)), some (.d (.tuple nd)), some (.o (.lst rs)), some (.d (.int g)), some (.d kk), some (.d (.int gt.2.1)), some (.d (.int gt.2.2)), some (.o (.lst f2)), none, none, none, none, none])
    (e2 := [some (.d (.int n)), some (.d (.tuple c)), some (.d (.tuple nd)), some (.o (.lst rs)), some (.d (.int g)), some (.d kk), some (.d (.int gt.2.1)), some (.d (.int gt.2.2)), some (.o (.lst f4)), none, none, none, none, none]) (by
      unfold turn MID_lv IN_lv
      simp [i1]) (by
      unfold turn MID_lv IN_lv
      simp [i2])
  unfold OUT_lv turn
  simp [hc, U1, hrs]
end
theorem WF_get : ∀ (c : List Gt) (n g : Nat), WF n c → g < c.length → (c.getD g (0, 0, 0)).1 < 3 ∧ (c.getD g (0, 0, 0)).2.1 < n + g ∧ (c.getD g (0, 0, 0)).2.2 < n + g
  | [], _, _, _, h => by simp at h
  | (k, i, j) :: c, n, 0, ⟨a, b, d, _⟩, _ => ⟨a, b, d⟩
  | (k, i, j) :: c, n, g + 1, ⟨_, _, _, e⟩, h => by
    have := WF_get c (n + 1) g e (by simpa using h)
    rw [show n + (g + 1) = n + 1 + g by omega]
    simpa using this
def VR (ns : List Nm) (n : Nat) (c : List Gt) (m : Nat) : List D := (List.range m).map fun g => fourD ns n g (c.getD g (0, 0, 0))
theorem VR_succ (ns : List Nm) (n : Nat) (c : List Gt) (m : Nat) : VR ns n c (m + 1) = VR ns n c m ++ [fourD ns n m (c.getD m (0, 0, 0))] := by
  simp [VR, List.range_succ]
section
variable {ns : List Nm} {n : Nat} {c : List Gt}
theorem l_veil_ok (hw : WF n c) (hl : ns.length = n + c.length) (hb : c.length ≤ 1000) : m_l_veil [.int n, .tuple (c.map gateD), .tuple (ns.map nameD)] = some (.d (.tuple (VR ns n c c.length))) := by
  have L := forL_ints (t := gN 4) (F := OUT_lv) (lo := 0) (n := c.length) (fun g => [some (.d (.int n)), some (.d (.tuple (c.map gateD))), some (.d (.tuple (ns.map nameD))), some (.o (.lst (VR ns n c g))), none, none, none, none, none, none, none, none, none, none]) fun g hg => by
    obtain ⟨h1, h2, h3⟩ := WF_get c n g hw hg
    rw [VR_succ]
    exact gate_step (by simp [hg]) h1 (by omega) (by omega) (by omega) _ (by simp [VR]; omega)
  have hr : rgB (c.length : Int) = true := rgB_nat (by omega)
  unfold m_l_veil B_l_veil
  unfold OUT_lv MID_lv IN_lv at L
  have h0 : VR ns n c 0 = [] := rfl
  rw [h0] at L
  simp [hr, L]
theorem veiled_ok (hw : WF n c) (hl : ns.length = n + c.length) (hb : c.length ≤ 1000) : m_veiled [.int n, .tuple (c.map gateD), .tuple (ns.map nameD)] = some (.d (.tuple (VR ns n c c.length))) := by
  have e : enD (c.map gateD) = (List.range c.length).map fun g => .tuple [.int (g : Nat), gateD (c.getD g (0, 0, 0))] := by
    rw [map_range gateD (0, 0, 0) c, enD_map]
  have L := lcL_map (t := gT 2 (gsC (gN 3) (gsC (gN 4) (gsN)))) (f := xCall 4 m_veiled_gate (aC (xVar 2) (aC (x2 wIx (xRd 2) (xAdd (xRd 0) (xRd 3))) (aC (xVar 4) (aC (xVar 3) (aN)))))) (env := [some (.d (.int n)), some (.d (.tuple (c.map gateD))), some (.d (.tuple (ns.map nameD))), none, none])
    (fun g : Nat => .tuple [.int (g : Nat), gateD (c.getD g (0, 0, 0))]) (fun g => fourD ns n g (c.getD g (0, 0, 0))) (List.range c.length) fun g hg => by
      have hg := List.mem_range.mp hg
      obtain ⟨h1, h2, h3⟩ := WF_get c n g hw hg
      have q := veiled_gate_ok (ns := ns) (n := n) (g := g) h1 (by omega) (by omega)
      have e0 : atI (ns.map nameD) ((n : Int) + g) = some (nameD (ns.getD (n + g) (0, 1))) := by
        rw [show (n : Int) + g = ((n + g : Nat) : Int) by omega, atI_cast]
        exact ix_names (by omega)
      generalize c.getD g (0, 0, 0) = gt at *
      generalize ns.map nameD = nd at *
      generalize nameD (ns.getD (n + g) (0, 1)) = r at *
      generalize gateD gt = gd at *
      simp [e0, q]
  rw [show ((List.range c.length).map fun g => fourD ns n g (c.getD g (0, 0, 0))) = VR ns n c c.length from rfl] at L
  have hlen : ((List.range c.length).map fun g => PyData.tuple [.int (g : Nat), gateD (c.getD g (0, 0, 0))]).length ≤ 16777216 := by simp; omega
  unfold m_veiled B_veiled
  generalize hes : ((List.range c.length).map fun g => PyData.tuple [.int (g : Nat), gateD (c.getD g (0, 0, 0))]) = es at *
  generalize c.map gateD = cd at *
  simp [e, hlen, L, seqD]
end
def dueL (ns : List Nm) (ls : List Bool) : List D := (List.range ls.length).map fun k => nI (sel (ns.getD k (0, 1)) (ls.getD k false))
theorem dueL_len (ns : List Nm) (ls : List Bool) : (dueL ns ls).length = ls.length := by simp [dueL]
theorem dueL_get {ns : List Nm} {ls : List Bool} {k : Nat} (h : k < ls.length) : (dueL ns ls)[k]? = some (nI (sel (ns.getD k (0, 1)) (ls.getD k false))) := by simp [dueL, h]
theorem dueL_snoc (ns : List Nm) (ls : List Bool) (x : Bool) : dueL ns (ls ++ [x]) = dueL ns ls ++ [nI (sel (ns.getD ls.length (0, 1)) x)] := by
  unfold dueL
  rw [List.length_append, List.length_singleton, List.range_succ, List.map_append, List.map_singleton]
  congr 1
  · refine List.map_congr_left fun k hk => ?_
    have := List.mem_range.mp hk
    simp [List.getElem?_append_left this]
  · simp
section
variable {ns : List Nm} {n : Nat} {c : List Gt}
theorem vt_loop {y0 y1 y3 : W} {R : List D} (hok : ∀ p ∈ ns, nmOk p) : ∀ (suf : List Gt) (g : Nat) (ls : List Bool), (∀ t, t < suf.length → R[g + t]? = some (fourD ns n (g + t) (suf.getD t (0, 0, 0)))) → ls.length = n + g → WF (n + g) suf → n + g + suf.length ≤ ns.length → ns.length ≤ 1000000 →
    forL (gT 2 (gsC (gN 5) (gsC (gT 3 (gsC (gN 6) (gsC (gN 7) (gsC (gN 8) (gsN))))) (gsN)))) (sKill [5, 6, 7, 8, 9, 10] (sSeq (sPar 9 10 (x2 wIx (xRd 4) (xRd 7)) (x2 wIx (xRd 4) (xRd 8))) (sApp 4 (xXor (x2 wIx (x2 wIx (xRd 2) (xRd 5)) (xCall 2 m_row_place (aC (xVar 9) (aC (xVar 10) (aN))))) (xCall 3 m_veil_of (aC (xVar 9) (aC (xVar 10) (aC (xVar 5) (aN))))))))) (((suf.map gateD).zipIdx g).map fun q => .tuple [.int (q.2 : Nat), q.1])
      [some y0, some y1, some (.d (.tuple R)), some y3, some (.o (.lst (dueL ns ls))), none, none, none, none, none, none] =
    some (.nx, [some y0, some y1, some (.d (.tuple R)), some y3, some (.o (.lst (dueL ns (linesB suf ls)))), none, none, none, none, none, none])
  | [], g, ls, _, _, _, _, _ => by simp [linesB]
  | (k, i, j) :: suf, g, ls, hR, hl, ⟨h1, h2, h3, h4⟩, hn, hb => by
    have ih := vt_loop (y0 := y0) (y1 := y1) (y3 := y3) (R := R) hok suf (g + 1) (ls ++ [gateB k (ls.getD i false) (ls.getD j false)]) (fun t ht => by
      have := hR (t + 1) (by simp; omega)
      rw [show g + (t + 1) = g + 1 + t by omega] at this
      simpa using this) (by simp [hl]; omega) (by rw [show n + (g + 1) = n + g + 1 by omega]; exact h4) (by simp at hn; omega) hb
    have hR0 := hR 0 (by simp)
    rw [Nat.add_zero] at hR0
    simp only [List.getD_cons_zero] at hR0
    have a1 : nmOk (ns.getD i (0, 1)) := by
      have hi : i < ns.length := by simp at hn; omega
      rw [List.getD_eq_getElem?_getD, List.getElem?_eq_getElem hi]
      exact hok _ (List.getElem_mem hi)
    have a2 : nmOk (ns.getD j (0, 1)) := by
      have hi : j < ns.length := by simp at hn; omega
      rw [List.getD_eq_getElem?_getD, List.getElem?_eq_getElem hi]
      exact hok _ (List.getElem_mem hi)
    have fg := four_get (ns := ns) (n := n) (g := g) (gt := (k, i, j)) a1 a2 (ls.getD i false) (ls.getD j false)
    have e1 := dueL_get (ns := ns) (ls := ls) (k := i) (by omega)
    have e2 := dueL_get (ns := ns) (ls := ls) (k := j) (by omega)
    have hlen : (dueL ns ls).length < 16777216 := by rw [dueL_len]; simp at hn; omega
    rw [dueL_snoc] at ih
    rw [List.map_cons, List.zipIdx_cons, List.map_cons, forL_cons, linesB]
    unfold vl plG at fg
    simp only at fg
    generalize hx : ls.getD i false = x at *
    generalize hy : ls.getD j false = y at *
    generalize hp : ns.getD i (0, 1) = p at *
    generalize hq : ns.getD j (0, 1) = q at *
    generalize hd : dueL ns ls = dl at *
    have e7 := veil_of_ok (sel p x) (sel q y) g
    have e8 := row_place_ok (sel p x) (sel q y)
    have fg2 : ((four ns n g (k, i, j)).map nI)[pl (sel p x) (sel q y)]? = some (nI (sel (ns.getD (n + g) (0, 1)) (gateB k x y) ^^^ hid (sel p x) (sel q y) g)) := by
      rw [List.getElem?_map, fg]; rfl
    have e10 := bitXor_nat (sel (ns.getD (n + g) (0, 1)) (gateB k x y) ^^^ hid (sel p x) (sel q y) g) (hid (sel p x) (sel q y) g)
    rw [Nat.xor_assoc, Nat.xor_self, Nat.xor_zero] at e10
    have hl2 : ls.length = n + g := hl
    rw [hl2] at ih
    unfold fourD at hR0
    generalize (four ns n g (k, i, j)).map nI = f4 at *
    generalize sel (ns.getD (n + g) (0, 1)) (gateB k x y) = res at *
    generalize pl (sel p x) (sel q y) = pp at *
    generalize hid (sel p x) (sel q y) g = hh at *
    generalize sel p x = u at *
    generalize sel q y = v at *
    simp only [gateD, nI] at *
    generalize kS k = kk at *
    simp [turn, e1, e2, e7, e8, hR0, fg2, e10, hlen]
    exact ih
theorem linesB_take : ∀ (c : List Gt) (ls : List Bool), (linesB c ls).take ls.length = ls
  | [], ls => by simp [linesB]
  | (k, i, j) :: c, ls => by
    rw [linesB]
    have := linesB_take c (ls ++ [gateB k (ls.getD i false) (ls.getD j false)])
    have h2 := congrArg (List.take ls.length) this
    rw [List.take_take] at h2
    simpa using h2
theorem dueL_take {ns : List Nm} {ls : List Bool} {m : Nat} (h : m ≤ ls.length) : (dueL ns ls).take m = dueL ns (ls.take m) := by
  refine List.ext_getElem? fun i => ?_
  by_cases hi : i < m
  · rw [List.getElem?_take_of_lt hi, dueL_get (by omega), dueL_get (by simp; omega)]
    simp [List.getElem?_take_of_lt hi]
  · rw [List.getElem?_eq_none (by simp [dueL]; omega), List.getElem?_eq_none (by simp [dueL]; omega)]
theorem veiled_told_ok {ls : List Bool} (hok : ∀ p ∈ ns, nmOk p) (hw : WF n c) (hl : ns.length = n + c.length) (hb : ns.length ≤ 1000) (hls : ls.length = n) :
    m_veiled_told [.int n, .tuple (c.map gateD), .tuple (VR ns n c c.length), .tuple (dueL ns ls)] = some (.d (.tuple (dueL ns (linesB c ls)))) := by
  have L := vt_loop (n := n) (y0 := .d (.int n)) (y1 := .d (.tuple (c.map gateD))) (y3 := .d (.tuple (dueL ns ls))) (R := VR ns n c c.length) hok c 0 ls (fun t ht => by simp [VR, ht]) (by simpa using hls) (by simpa using hw) (by omega) (by omega)
  have t := cut_take (dueL ns ls) n (by rw [dueL_len]; omega)
  rw [List.take_of_length_le (by rw [dueL_len]; omega)] at t
  unfold m_veiled_told B_veiled_told
  generalize c.map gateD = cd at *
  generalize VR ns n c c.length = vr at *
  generalize dueL ns ls = dl at *
  generalize dueL ns (linesB c ls) = dm at *
  simp [t, enD, L, seqD]
theorem name_bit_ok {k : Nat} (hk : k < ns.length) (x : Nat) : m_name_bit [.tuple (ns.map nameD), .int k, nI x] = some (.d (if (ns.getD k (0, 1)).1 = x then .int 0 else if (ns.getD k (0, 1)).2 = x then .int 1 else .none)) := by
  have e1 := ix_names hk
  have r2 : rgB 2 = true := rfl
  unfold m_name_bit B_name_bit
  generalize ns.map nameD = nd at *
  generalize ns.getD k (0, 1) = p at *
  have e0 : ∀ b : Bool, wIx (.d (nameD p)) (.d (bI b)) = some (.d (nI (sel p b))) := ix_name p
  have e2 := e0 false
  have e3 := e0 true
  simp only [bI_t, bI_f, sel] at e2 e3
  generalize nameD p = np at *
  have q1 : ((p.1 : Int) == (x : Int)) = decide (p.1 = x) := by
    by_cases h : p.1 = x
    · subst h; simp
    · simp [h]; omega
  have q2 : ((p.2 : Int) == (x : Int)) = decide (p.2 = x) := by
    by_cases h : p.2 = x
    · subst h; simp
    · simp [h]; omega
  simp only [nI] at *
  simp only [Bool.false_eq_true, if_false, if_true] at e2 e3
  by_cases h1 : p.1 = x
  · simp [r2, intsD_two, forL_cons, turn, e1, e2, e3, q1, h1]
  · by_cases h2 : p.2 = x
    · simp [r2, intsD_two, forL_cons, turn, e1, e2, e3, q1, q2, h1, h2]
    · simp [r2, intsD_two, forL_cons, turn, e1, e2, e3, q1, q2, h1, h2]
end
theorem flat_tup {n : Nat} {xs : List D} (hl : xs.length ≤ 16777216) (h : ∀ x ∈ xs, flatD n x = true) : flatD (n + 1) (.tuple xs) = true := by
  simp only [flatD, Bool.and_eq_true, decide_eq_true_eq, List.all_eq_true]
  exact ⟨hl, h⟩
theorem flat_bits {n : Nat} {r : List Bool} (hl : r.length ≤ 16777216) : flatD (n + 2) (.tuple (r.map bI)) = true := flat_tup (by simpa using hl) fun x hx => by
  obtain ⟨b, _, rfl⟩ := List.mem_map.mp hx
  simp [bI, flatD]
theorem flat_due {n : Nat} {ns : List Nm} {r : List Bool} (hl : r.length ≤ 16777216) : flatD (n + 2) (.tuple (dueL ns r)) = true := flat_tup (by simpa [dueL] using hl) fun x hx => by
  obtain ⟨b, _, rfl⟩ := List.mem_map.mp hx
  simp [nI, flatD]
theorem flat_VR {k : Nat} {ns : List Nm} {n : Nat} {c : List Gt} {m : Nat} (hl : m ≤ 16777216) : flatD (k + 3) (.tuple (VR ns n c m)) = true := flat_tup (by simpa [VR] using hl) fun x hx => by
  obtain ⟨b, _, rfl⟩ := List.mem_map.mp hx
  refine flat_tup (by simp [four]) fun y hy => ?_
  obtain ⟨z, _, rfl⟩ := List.mem_map.mp hy
  simp [nI, flatD]
end L

set_option Elab.async false
set_option linter.all false
set_option maxRecDepth 100000
set_option maxHeartbeats 1000000
set_option exponentiation.threshold 2000000
namespace L
open PySem L2 EV
theorem e_divisor : m_divisor = d_commonB := rfl
theorem e_power_in : m_power_in = d_power_in := rfl
theorem e_power : m_l_power = d_power := rfl
theorem e_turned : m_turned_number = d_turned := rfl
def tab : List (Nat × Nat) := [(5, 17), (7, 11), (19, 5), (7, 13), (17, 7), (11, 13), (7, 19), (17, 11), (13, 17), (19, 13)]
def tP (i : Nat) : Nat := (tab.getD i (5, 17)).1
def tQ (i : Nat) : Nat := (tab.getD i (5, 17)).2
def tR (i : Nat) : Nat := (tP i - 1) * (tQ i - 1) / Nat.gcd (tP i - 1) (tQ i - 1)
def fitN (i : Nat) : List Nat := (List.range 38).filter fun k => Nat.gcd (2 + k) (tR i) == 1
def trnN (i e : Nat) : List Nat := (List.range (tR i - 1)).filter fun k => e * (1 + k) % tR i == 1
def powOK (n e d : Nat) : Bool := (List.range n).all fun x => (x ^ e % n) ^ d % n == x && (x ^ d % n) ^ e % n == x
def chkE (i e : Nat) : Bool := match trnN i e with
  | [] => false
  | k :: _ => (match turnedN (e % tR i) (tR i) with | some x => x == 1 + k | none => false) && powOK (tP i * tQ i) e (1 + k) && decide (k < 1000)
def chkI (i : Nat) : Bool := decide (1 < tR i ∧ tR i < 1000 ∧ 2 ≤ tP i ∧ 2 ≤ tQ i ∧ tP i < 100 ∧ tQ i < 100 ∧ 64 ≤ tP i * tQ i) && !(fitN i).isEmpty && (fitN i).all fun k => chkE i (2 + k)
theorem chk_all : (List.range 10).all chkI = true := by decide +kernel
end L

set_option Elab.async false
set_option linter.all false
set_option maxRecDepth 100000
set_option maxHeartbeats 1000000
set_option exponentiation.threshold 2000000
namespace L
open PySem L2 EV
structure Key (n e d : Nat) : Prop where
  n0 : 64 ≤ n
  n1 : n < 10000
  e1 : e < 100
  d1 : d < 1001
  ed : ∀ x, x < n → (x ^ e % n) ^ d % n = x
  de : ∀ x, x < n → (x ^ d % n) ^ e % n = x
theorem chk_i {i : Nat} (hi : i < 10) : chkI i = true := List.all_eq_true.mp chk_all i (List.mem_range.mpr hi)
def tabD : List D := tab.map fun p => .tuple [.int p.1, .int p.2]
theorem tab_get {i : Nat} (hi : i < 10) : tabD[i]? = some (.tuple [.int (tP i : Nat), .int (tQ i : Nat)]) := by
  rcases (by omega : i = 0 ∨ i = 1 ∨ i = 2 ∨ i = 3 ∨ i = 4 ∨ i = 5 ∨ i = 6 ∨ i = 7 ∨ i = 8 ∨ i = 9) with h | h | h | h | h | h | h | h | h | h <;> subst h <;> rfl
theorem small_of {a : Int} (h : a.natAbs < 1000000) : small a := by
  unfold small
  have : (2 : Nat) ^ 20 ≤ 2 ^ 8000 := Nat.pow_le_pow_right (by omega) (by omega)
  have e : (2 : Nat) ^ 20 = 1048576 := by decide
  omega
theorem gcd_cast (a b : Nat) : Int.gcd (a : Int) b = Nat.gcd a b := Int.gcd_natCast_natCast a b
theorem common_nat {a b : Nat} (ha : a < 1000000) (hb : b < 1000000) : m_l_common [.int a, .int b] = some (.d (.int (Nat.gcd a b : Nat))) := by
  rw [e_common, common_ok (small_of (by omega)) (small_of (by omega)), gcd_cast]
theorem divisor_nat {a b : Nat} (ha : a < 1000000) (hb : b < 1000000) : m_divisor [.int a, .int b] = some (.d (.int (Nat.gcd a b : Nat))) := by
  rw [e_divisor, commonB_ok (small_of (by omega)) (small_of (by omega)), gcd_cast]
theorem find_trn {i e k : Nat} {l : List Nat} (h : trnN i e = k :: l) : k < tR i - 1 := by
  have : k ∈ trnN i e := by rw [h]; simp
  exact List.mem_range.mp (List.mem_filter.mp this).1
theorem lock_key_ok {i e k : Nat} (hi : i < 10) (he : e < 100) (ht : turnedN (e % tR i) (tR i) = some (1 + k)) : m_lock_key [.int (tP i : Nat), .int (tQ i : Nat), .int e] = some (.d (.tuple [.int (tP i * tQ i : Nat), .int e, .int (1 + k : Nat)])) := by
  have c := chk_i hi
  unfold chkI at c
  simp only [Bool.and_eq_true, decide_eq_true_eq] at c
  obtain ⟨⟨⟨c1, c2, c3, c4, c5, c6, c7⟩, _⟩, _⟩ := c
  have g1 := divisor_nat (a := tP i - 1) (b := tQ i - 1) (by omega) (by omega)
  have gp : 0 < Nat.gcd (tP i - 1) (tQ i - 1) := Nat.gcd_pos_of_pos_left _ (by omega)
  have gl : Nat.gcd (tP i - 1) (tQ i - 1) ≤ tP i - 1 := Nat.gcd_le_left _ (by omega)
  have ep : ((tP i : Nat) : Int) - 1 = ((tP i - 1 : Nat) : Int) := by omega
  have eq : ((tQ i : Nat) : Int) - 1 = ((tQ i - 1 : Nat) : Int) := by omega
  have m1 : mulOk ((tP i - 1 : Nat) : Int) ((tQ i - 1 : Nat) : Int) = true := mulOk_l (by omega)
  have f1 : ∀ c : Int, fdOk c ((Nat.gcd (tP i - 1) (tQ i - 1) : Nat) : Int) = true := fun c => fdOk_lit (by omega) (by omega)
  have er : (((tP i - 1 : Nat) : Int) * ((tQ i - 1 : Nat) : Int)).fdiv ((Nat.gcd (tP i - 1) (tQ i - 1) : Nat) : Int) = ((tR i : Nat) : Int) := by
    rw [Int.fdiv_eq_ediv_of_nonneg _ (by omega)]; rfl
  have cr : m_common_round [.int (tP i : Nat), .int (tQ i : Nat)] = some (.d (.int (tR i : Nat))) := by
    unfold m_common_round B_common_round
    generalize ((tP i - 1 : Nat) : Int) = p1 at *
    generalize ((tQ i - 1 : Nat) : Int) = q1 at *
    generalize ((Nat.gcd (tP i - 1) (tQ i - 1) : Nat) : Int) = gg at *
    simp [ep, eq, g1, m1, f1, er]
  have lt : (1 : Int) < ((tR i : Nat) : Int) := by omega
  have tn := turned_ok (a := e % tR i) (n := tR i) (by omega) (by omega) (by have := Nat.mod_lt e (show 0 < tR i by omega); omega)
  rw [ht, ← e_turned] at tn
  have em : (e : Int).fmod (tR i : Nat) = ((e % tR i : Nat) : Int) := fmod_nat e (tR i)
  have m2 : mulOk ((tP i : Nat) : Int) ((tQ i : Nat) : Int) = true := mulOk_l (by omega)
  have e3 : ((tP i : Nat) : Int) * ((tQ i : Nat) : Int) = ((tP i * tQ i : Nat) : Int) := rfl
  have rz : ¬ (((tR i : Nat) : Int) = 0) := by omega
  simp only [optN] at tn
  unfold m_lock_key B_lock_key
  generalize ((e % tR i : Nat) : Int) = em' at *
  generalize ((tR i : Nat) : Int) = R at *
  generalize ((tP i * tQ i : Nat) : Int) = PQ at *
  generalize ((tP i : Nat) : Int) = P at *
  generalize ((tQ i : Nat) : Int) = Q at *
  generalize ((1 + k : Nat) : Int) = K at *
  simp [cr, lt, tn, em, m2, e3, rz]
theorem key_ok {row : List D} {m : Nat} (hr : Row row m) (hm : 2 ≤ m) : ∃ n e d : Nat, m_l_key [.list row] = some (.d (.tuple [.int n, .int e, .int d])) ∧ Key n e d := by
  obtain ⟨v0, g0⟩ := hr 0 (by omega)
  obtain ⟨v1, g1⟩ := hr 1 (by omega)
  obtain ⟨i, hi, hi1⟩ := dr v0 10 (by omega)
  rw [show ((10 : Nat) : Int) = 10 from rfl] at hi
  have c := chk_i hi1
  unfold chkI at c
  simp only [Bool.and_eq_true, decide_eq_true_eq, Bool.not_eq_true', List.all_eq_true] at c
  obtain ⟨⟨⟨c1, c2, c3, c4, c5, c6, c7⟩, c8⟩, c9⟩ := c
  have hlen : 0 < (fitN i).length := by
    cases h : fitN i with
    | nil => rw [h] at c8; cases c8
    | cons a l => simp
  obtain ⟨j, hj, hj1⟩ := dr v1 (fitN i).length hlen
  have hek : (fitN i)[j] ∈ fitN i := List.getElem_mem hj1
  obtain ⟨k0, hk0⟩ : ∃ k0, (fitN i)[j] = k0 := ⟨_, rfl⟩
  rw [hk0] at hek
  have hk38 : k0 < 38 := List.mem_range.mp (List.mem_filter.mp hek).1
  have ce := c9 k0 hek
  obtain ⟨e, he⟩ : ∃ e, e = 2 + k0 := ⟨_, rfl⟩
  rw [← he] at ce
  unfold chkE at ce
  cases htr : trnN i e with
  | nil => rw [htr] at ce; cases ce
  | cons k l =>
    rw [htr] at ce
    simp only [Bool.and_eq_true, decide_eq_true_eq] at ce
    obtain ⟨⟨ce1, ce2⟩, ce3⟩ := ce
    have ht : turnedN (e % tR i) (tR i) = some (1 + k) := by
      cases h : turnedN (e % tR i) (tR i) with
      | none => rw [h] at ce1; cases ce1
      | some x => rw [h] at ce1; simp at ce1; rw [ce1]
    unfold powOK at ce2
    rw [List.all_eq_true] at ce2
    have hP : ∀ x, x < tP i * tQ i → (x ^ e % (tP i * tQ i)) ^ (1 + k) % (tP i * tQ i) = x ∧ (x ^ (1 + k) % (tP i * tQ i)) ^ e % (tP i * tQ i) = x := fun x hx => by
      have := ce2 x (List.mem_range.mpr hx)
      simpa using this
    have hn1 : tP i * tQ i < 10000 := by
      have : tP i * tQ i < 100 * 100 := Nat.mul_lt_mul'' c5 c6
      omega
    refine ⟨tP i * tQ i, e, 1 + k, ?_, ⟨c7, hn1, by omega, by omega, fun x hx => (hP x hx).1, fun x hx => (hP x hx).2⟩⟩
    have lk := lock_key_ok (i := i) (e := e) (k := k) hi1 (by omega) ht
    have kl : m_l_like [.tuple [.int (tP i * tQ i : Nat), .int e, .int (1 + k : Nat)], .tuple [.int (tP i * tQ i : Nat), .int e, .int (1 + k : Nat)]] = some (.d (.bool true)) := like1 (by simp [flatD])
    have tg := tab_get hi1
    have gc := common_nat (a := tP i - 1) (b := tQ i - 1) (by omega) (by omega)
    have gp : 0 < Nat.gcd (tP i - 1) (tQ i - 1) := Nat.gcd_pos_of_pos_left _ (by omega)
    have gl : Nat.gcd (tP i - 1) (tQ i - 1) ≤ tP i - 1 := Nat.gcd_le_left _ (by omega)
    have ep : ((tP i : Nat) : Int) - 1 = ((tP i - 1 : Nat) : Int) := by omega
    have eq : ((tQ i : Nat) : Int) - 1 = ((tQ i - 1 : Nat) : Int) := by omega
    have m1 : mulOk ((tP i - 1 : Nat) : Int) ((tQ i - 1 : Nat) : Int) = true := mulOk_l (by omega)
    have f1 : ∀ c : Int, fdOk c ((Nat.gcd (tP i - 1) (tQ i - 1) : Nat) : Int) = true := fun c => fdOk_lit (by omega) (by omega)
    have er : (((tP i - 1 : Nat) : Int) * ((tQ i - 1 : Nat) : Int)).fdiv ((Nat.gcd (tP i - 1) (tQ i - 1) : Nat) : Int) = ((tR i : Nat) : Int) := by
      rw [Int.fdiv_eq_ediv_of_nonneg _ (by omega)]; rfl
    have m2 : mulOk ((tP i : Nat) : Int) ((tQ i : Nat) : Int) = true := mulOk_l (by omega)
    have e3 : ((tP i : Nat) : Int) * ((tQ i : Nat) : Int) = ((tP i * tQ i : Nat) : Int) := rfl
    have rz : ¬ (((tR i : Nat) : Int) = 0) := by omega
    have tB : xTup (aC (xTup (aC (xC (.int 5)) (aC (xC (.int 17)) (aN)))) (aC (xTup (aC (xC (.int 7)) (aC (xC (.int 11)) (aN)))) (aC (xTup (aC (xC (.int 19)) (aC (xC (.int 5)) (aN)))) (aC (xTup (aC (xC (.int 7)) (aC (xC (.int 13)) (aN)))) (aC (xTup (aC (xC (.int 17)) (aC (xC (.int 7)) (aN)))) (aC (xTup (aC (xC (.int 11)) (aC (xC (.int 13)) (aN)))) (aC (xTup (aC (xC (.int 7)) (aC (xC (.int 19)) (aN)))) (aC (xTup (aC (xC (.int 17)) (aC (xC (.int 11)) (aN)))) (aC (xTup (aC (xC (.int 13)) (aC (xC (.int 17)) (aN)))) (aC (xTup (aC (xC (.int 19)) (aC (xC (.int 13)) (aN)))) (aN)))))))))))
      [some (.d (.list row)), none, none, none, none, none, none, none, none] = some (.d (.tuple tabD)) := by simp [tabD, tab]
    have L1 := lcL_mapF (t := gN 6) (p := EV.tEq (xCall 2 m_l_common (aC (xVar 6) (aC (xVar 4) (aN)))) (xC (.int 1))) (f := xVar 6) (env := [some (.d (.list row)), some (.d (.tuple tabD)), some (.d (.int (tP i : Nat))), some (.d (.int (tQ i : Nat))), some (.d (.int (tR i : Nat))), none, none, none, none]) (fun k : Nat => .int (2 + (k : Nat))) (fun k => nI (2 + k)) (fun k => Nat.gcd (2 + k) (tR i) == 1) (List.range 38) fun k hk => by
      have hk := List.mem_range.mp hk
      have q := common_nat (a := 2 + k) (b := tR i) (by omega) (by omega)
      have e2 : (2 + (k : Int)) = ((2 + k : Nat) : Int) := by omega
      have e4 : (((Nat.gcd (2 + k) (tR i) : Nat) : Int) == 1) = (Nat.gcd (2 + k) (tR i) == 1) := by
        generalize Nat.gcd (2 + k) (tR i) = g
        by_cases h : g = 1
        · subst h; rfl
        · have h1 : (g == 1) = false := by simpa using h
          rw [h1]; simp; omega
      generalize Nat.gcd (2 + k) (tR i) = gg at *
      generalize ((tP i : Nat) : Int) = P at *
      generalize ((tQ i : Nat) : Int) = Q at *
      generalize ((tR i : Nat) : Int) = R at *
      unfold nI
      rw [e2]
      generalize ((2 + k : Nat) : Int) = kk at *
      exact ⟨by simp [q, e4], fun _ => by simp⟩
    rw [show (List.range 38).filter (fun k => Nat.gcd (2 + k) (tR i) == 1) = fitN i from rfl, show (List.range 38).map (fun k : Nat => PyData.int (2 + (k : Nat))) = intsD 2 38 from rfl] at L1
    have L2 := lcL_mapF (t := gN 8) (p := EV.tEq (xMod (x1 wToI (xMul (xRd 6) (xRd 8))) (xRd 4)) (xC (.int 1))) (f := xVar 8) (env := [some (.d (.list row)), some (.d (.tuple tabD)), some (.d (.int (tP i : Nat))), some (.d (.int (tQ i : Nat))), some (.d (.int (tR i : Nat))), some (.o (.lst ((fitN i).map fun k => nI (2 + k)))), some (.d (.int e)), none, none]) (fun k : Nat => .int (1 + (k : Nat))) (fun k => nI (1 + k)) (fun k => e * (1 + k) % tR i == 1) (List.range (tR i - 1)) fun k hk => by
      have e2 : (1 + (k : Int)) = ((1 + k : Nat) : Int) := by omega
      have e5 : ((e : Int) * ((1 + k : Nat) : Int)).fmod ((tR i : Nat) : Int) = ((e * (1 + k) % tR i : Nat) : Int) := fmod_nat (e * (1 + k)) (tR i)
      have m5 : mulOk (e : Int) ((1 + k : Nat) : Int) = true := mulOk_l (by omega)
      have e4 : (((e * (1 + k) % tR i : Nat) : Int) == 1) = (e * (1 + k) % tR i == 1) := by
        generalize e * (1 + k) % tR i = g
        by_cases h : g = 1
        · subst h; rfl
        · have h1 : (g == 1) = false := by simpa using h
          rw [h1]; simp; omega
      generalize (fitN i).map (fun k => nI (2 + k)) = fd at *
      generalize ((tP i : Nat) : Int) = P at *
      generalize ((tQ i : Nat) : Int) = Q at *
      generalize e * (1 + k) % tR i = gg at *
      generalize ((tR i : Nat) : Int) = R at *
      unfold nI
      rw [e2]
      generalize ((1 + k : Nat) : Int) = kk at *
      exact ⟨by simp [m5, e5, e4, rz], fun _ => by simp⟩
    rw [show (List.range (tR i - 1)).filter (fun k => e * (1 + k) % tR i == 1) = trnN i e from rfl, show (List.range (tR i - 1)).map (fun k : Nat => PyData.int (1 + (k : Nat))) = intsD 1 (tR i - 1) from rfl, htr] at L2
    have r2 : rgB 2 = true := rfl
    have r40 : rgB 40 = true := rfl
    have r1 : rgB 1 = true := rfl
    have rR : rgB ((tR i : Nat) : Int) = true := rgB_nat (by omega)
    have tR1 : (((tR i : Nat) : Int) - 1).toNat = tR i - 1 := by omega
    have fg : ((fitN i).map fun k => nI (2 + k))[j]? = some (.int (e : Nat)) := by
      rw [List.getElem?_map, List.getElem?_eq_getElem hj1, hk0, he]; rfl
    have fl : (((fitN i).map fun k => nI (2 + k)).length : Int) = ((fitN i).length : Nat) := by simp
    have lz : ¬ (((fitN i).length : Nat) : Int) = 0 := by omega
    have tl : tR i - 1 ≤ 16777216 := by omega
    have k1 : nI (1 + k) = .int (1 + k : Nat) := rfl
    rw [List.map_cons, k1] at L2
    unfold m_l_key B_l_key
    generalize (fitN i).map (fun k => nI (2 + k)) = fd at *
    generalize l.map (fun k => nI (1 + k)) = ld at *
    generalize ((1 + k : Nat) : Int) = K at *
    generalize ((tP i - 1 : Nat) : Int) = p1 at *
    generalize ((tQ i - 1 : Nat) : Int) = q1 at *
    generalize ((Nat.gcd (tP i - 1) (tQ i - 1) : Nat) : Int) = gg at *
    generalize ((tP i * tQ i : Nat) : Int) = PQ at *
    generalize ((tP i : Nat) : Int) = P at *
    generalize ((tQ i : Nat) : Int) = Q at *
    generalize ((tR i : Nat) : Int) = R at *
    clear hk0 hek c9 c8
    generalize (fitN i).length = FL at *
    generalize tR i - 1 = R1 at *
    refine run_rt [some (.d (.list row)), none, none, none, none, none, none, none, none] rfl ?_
    refine stp (e1 := [some (.d (.list row)), some (.d (.tuple tabD)), none, none, none, none, none, none, none]) (by rw [s_set, tB]; rfl) ?_
    refine stp (e1 := [some (.d (.list row)), some (.d (.tuple tabD)), some (.d (.int P)), some (.d (.int Q)), none, none, none, none, none]) (by simp [g0, hi, tg]) ?_
    refine stp (e1 := [some (.d (.list row)), some (.d (.tuple tabD)), some (.d (.int P)), some (.d (.int Q)), some (.d (.int R)), none, none, none, none]) (by simp [ep, eq, gc, m1, f1, er]) ?_
    refine stp (e1 := [some (.d (.list row)), some (.d (.tuple tabD)), some (.d (.int P)), some (.d (.int Q)), some (.d (.int R)), some (.o (.lst fd)), none, none, none]) (by simp [r2, r40, L1]) ?_
    refine stp (e1 := [some (.d (.list row)), some (.d (.tuple tabD)), some (.d (.int P)), some (.d (.int Q)), some (.d (.int R)), some (.o (.lst fd)), some (.d (.int e)), none, none]) (by simp [g1, fl, show ¬ FL = 0 by omega, hj, fg]) ?_
    refine stp (e1 := [some (.d (.list row)), some (.d (.tuple tabD)), some (.d (.int P)), some (.d (.int Q)), some (.d (.int R)), some (.o (.lst fd)), some (.d (.int e)), some (.o (.lst (.int K :: ld))), none]) (by simp [r1, rR, tR1, tl, L2]) ?_
    refine stp (e1 := [some (.d (.list row)), some (.d (.tuple tabD)), some (.d (.int P)), some (.d (.int Q)), some (.d (.int R)), some (.o (.lst fd)), some (.d (.int e)), some (.o (.lst (.int K :: ld))), none]) (by simp [lk, m2, e3, kl]) ?_
    exact ⟨_, by simp [m2, e3]; rfl⟩
end L

set_option Elab.async false
set_option linter.all false
set_option maxRecDepth 100000
set_option maxHeartbeats 1000000
set_option exponentiation.threshold 2000000
namespace L
open PySem L2 EV
theorem fm (y : Int) (n : Nat) (h0 : -(n : Int) ≤ y) (h1 : y < n) : y.fmod n = if 0 ≤ y then y else y + n := by
  rw [Int.fmod_eq_emod_of_nonneg _ (by omega)]
  split
  · exact Int.emod_eq_of_lt (by omega) (by omega)
  · rw [← Int.add_emod_right]
    exact Int.emod_eq_of_lt (by omega) (by omega)
theorem md (x n : Nat) (h : x < 2 * n) : x % n = if x < n then x else x - n := by
  split
  · exact Nat.mod_eq_of_lt (by omega)
  · rw [Nat.mod_eq_sub_mod (by omega)]
    exact Nat.mod_eq_of_lt (by omega)
theorem filter_one (n index : Nat) (h : index < n) : (List.range n).filter (fun k => k == index) = [index] := by
  have : ∀ m, (List.range m).filter (fun k => k == index) = if index < m then [index] else [] := fun m => by
    induction m with
    | zero => simp
    | succ m ih =>
      rw [List.range_succ, List.filter_append, ih]
      by_cases h1 : m = index
      · subst h1; simp
      · have h2 : (m == index) = false := by simpa using h1
        by_cases h3 : index < m
        · simp [h2, h3, show index < m + 1 by omega]
        · simp [h2, h3, show ¬ index < m + 1 by omega]
  rw [this n, if_pos h]
section
variable {n e d : Nat}
/-- the difference in the ring -/
def df (n A t : Nat) : Nat := if t ≤ A then A - t else A + n - t
theorem df_lt {A t : Nat} (hA : A < n) (ht : t < n) : df n A t < n := by unfold df; split <;> omega
theorem df_int {A t : Nat} (hA : A < n) (ht : t < n) : ((A : Int) - t).fmod n = (df n A t : Nat) := by
  rw [fm _ n (by omega) (by omega)]
  unfold df
  split <;> split <;> omega
theorem nat_fmod {x : Nat} (h : x < n) : (x : Int).fmod n = x := by
  rw [fm _ n (by omega) (by omega), if_pos (by omega)]
theorem pin (K : Key n e d) {x f : Nat} (hx : x < n) (hf : f < 1001) : m_power_in [.int x, .int f, .int n] = some (.d (.int (x ^ f % n : Nat))) := by
  have := K.n0; have := K.n1
  rw [e_power_in, power_in_ok (by omega) (by omega) (by omega), nat_fmod hx]
  rfl
theorem pinI (K : Key n e d) {A t f : Nat} (hA : A < n) (ht : t < n) (hf : f < 1001) : m_power_in [.int ((A : Int) - t), .int f, .int n] = some (.d (.int (df n A t ^ f % n : Nat))) := by
  have := K.n0; have := K.n1
  rw [e_power_in, power_in_ok (by omega) (by omega) (by omega), df_int hA ht]
  rfl
theorem pl_ (K : Key n e d) {x f : Nat} (hx : x < n) (hf : f < 1001) : m_l_power [.int x, .int f, .int n] = some (.d (.int (x ^ f % n : Nat))) := by
  have := K.n0; have := K.n1
  rw [e_power, power_ok (by omega) (by omega) (by omega), nat_fmod hx]
  rfl
/-- the draw that opens place t -/
def wy (n d A t : Nat) : Nat := df n A t ^ d % n
theorem wy_lt (K : Key n e d) {A t : Nat} : wy n d A t < n := Nat.mod_lt _ (by have := K.n0; omega)
theorem one_way (K : Key n e d) {A t x : Nat} (hA : A < n) (ht : t < n) (hx : x < n) : ((t + x ^ e % n) % n == A) = (x == wy n d A t) := by
  have hn : 0 < n := by have := K.n0; omega
  have h1 := K.ed x hx
  have h2 := K.de (df n A t) (df_lt hA ht)
  have hf : x ^ e % n < n := Nat.mod_lt _ hn
  have key : ((t + x ^ e % n) % n = A) ↔ x ^ e % n = df n A t := by
    generalize x ^ e % n = f at *
    rw [md _ n (by omega)]
    unfold df
    split <;> split <;> omega
  by_cases h : x = wy n d A t
  · have h3 : x ^ e % n = df n A t := by rw [h]; exact h2
    have h4 := key.mpr h3
    rw [h4]
    have : (x == wy n d A t) = true := by simp [← h]
    rw [this]; simp
  · have h3 : ¬ (t + x ^ e % n) % n = A := fun q => h (by
      have := key.mp q
      rw [this] at h1
      exact h1.symm)
    have h5 : ((t + x ^ e % n) % n == A) = false := by simpa using h3
    have h6 : (x == wy n d A t) = false := by simpa using h
    rw [h5, h6]
def askN (n e : Nat) (t k : Nat) : Nat := (t + k ^ e % n) % n
theorem ask_lt (K : Key n e d) {t k : Nat} : askN n e t k < n := Nat.mod_lt _ (by have := K.n0; omega)
theorem own_way (K : Key n e d) {t k : Nat} (ht : t < n) (hk : k < n) : wy n d (askN n e t k) t = k := by
  have := one_way K (A := askN n e t k) (t := t) (x := k) (ask_lt K) ht hk
  unfold askN at *
  rw [beq_self_eq_true] at this
  have := (beq_iff_eq.mp this.symm)
  exact this.symm
def ansN (n d A x t : Nat) : Nat := (x + wy n d A t) % n
theorem taken_ok (K : Key n e d) {A x t : Nat} (hx : x < 64) : m_taken [.int n, .int (ansN n d A x t : Nat), .int (wy n d A t : Nat)] = some (.d (.int x)) := by
  have h0 := K.n0
  have hw := wy_lt K (A := A) (t := t)
  have e1 : (((ansN n d A x t : Nat) : Int) - (wy n d A t : Nat)).fmod n = x := by
    unfold ansN
    generalize wy n d A t = w at *
    rw [md _ n (by omega), fm _ n (by split <;> omega) (by split <;> omega)]
    split <;> split <;> omega
  have nz : ¬ ((n : Int) = 0) := by omega
  have nz1 : ¬ n = 0 := by omega
  unfold m_taken B_taken
  generalize ((ansN n d A x t : Nat) : Int) = a at *
  generalize ((wy n d A t : Nat) : Int) = w at *
  simp [e1, nz, nz1]
def kD (n e d : Nat) : D := .tuple [.int n, .int e, .int d]
theorem taken_one_ok (K : Key n e d) {x0 x1 t0 t1 k : Nat} (c : Bool) (h0 : t0 < n) (h1 : t1 < n) (hk : k < n) :
    m_taken_one [kD n e d, .tuple [.int x0, .int x1], .tuple [.int t0, .int t1], bI c, .int k] = some (.d (.tuple [.int (askN n e (if c then t1 else t0) k : Nat), .int (ansN n d (askN n e (if c then t1 else t0) k) x0 t0 : Nat), .int (ansN n d (askN n e (if c then t1 else t0) k) x1 t1 : Nat)])) := by
  have hn := K.n0
  have p1 := pin K (x := k) (f := e) hk (by have := K.e1; omega)
  have hA := ask_lt K (t := if c then t1 else t0) (k := k)
  have p2 := pinI K (A := askN n e (if c then t1 else t0) k) (t := t0) (f := d) hA h0 K.d1
  have p3 := pinI K (A := askN n e (if c then t1 else t0) k) (t := t1) (f := d) hA h1 K.d1
  have nz : ¬ ((n : Int) = 0) := by omega
  have nz1 : ¬ n = 0 := by omega
  have ix : (if c then t1 else t0 : Nat) = (if c then t1 else t0) := rfl
  have a1 : ((if c then t1 else t0 : Nat) + (k ^ e % n : Nat) : Int).fmod n = (askN n e (if c then t1 else t0) k : Nat) := fmod_nat _ n
  have gi : wIx (.d (.tuple [.int t0, .int t1])) (.d (bI c)) = some (.d (.int ((if c then t1 else t0 : Nat) : Int))) := by cases c <;> simp
  have b1 : ((x0 : Int) + (df n (askN n e (if c then t1 else t0) k) t0 ^ d % n : Nat)).fmod n = (ansN n d (askN n e (if c then t1 else t0) k) x0 t0 : Nat) := fmod_nat _ n
  have b2 : ((x1 : Int) + (df n (askN n e (if c then t1 else t0) k) t1 ^ d % n : Nat)).fmod n = (ansN n d (askN n e (if c then t1 else t0) k) x1 t1 : Nat) := fmod_nat _ n
  have z : zpD [.int x0, .int x1] [.int t0, .int t1] = [.tuple [.int x0, .int t0], .tuple [.int x1, .int t1]] := rfl
  unfold m_taken_one B_taken_one kD
  generalize ((ansN n d (askN n e (if c then t1 else t0) k) x0 t0 : Nat) : Int) = r0 at *
  generalize ((ansN n d (askN n e (if c then t1 else t0) k) x1 t1 : Nat) : Int) = r1 at *
  generalize ((df n (askN n e (if c then t1 else t0) k) t0 ^ d % n : Nat) : Int) = w0 at *
  generalize ((df n (askN n e (if c then t1 else t0) k) t1 ^ d % n : Nat) : Int) = w1 at *
  generalize ((askN n e (if c then t1 else t0) k : Nat) : Int) = A at *
  generalize ((k ^ e % n : Nat) : Int) = ke at *
  generalize ((if c then t1 else t0 : Nat) : Int) = tc at *
  generalize bI c = bc at *
  simp [p1, p2, p3, nz, nz1, a1, gi, b1, b2, z, lcL]
end
end L

set_option Elab.async false
set_option linter.all false
set_option maxRecDepth 100000
set_option maxHeartbeats 2000000
set_option exponentiation.threshold 2000000
namespace L
open PySem L2 EV
section
variable {n e d : Nat}
theorem cd_zero {x A : Nat} (hA : A < n) : (((x : Int) - A).fmod n == 0) = (x % n == A) := by
  have h : (((x : Int) - A).fmod n = 0) ↔ x % n = A := by
    rw [Int.fmod_eq_emod_of_nonneg _ (by omega), ← Int.emod_eq_emod_iff_emod_sub_eq_zero]
    have h1 : (x : Int) % n = ((x % n : Nat) : Int) := rfl
    have h2 : (A : Int) % n = ((A % n : Nat) : Int) := rfl
    rw [h1, h2, Nat.mod_eq_of_lt hA]
    omega
  by_cases q : x % n = A
  · rw [beq_iff_eq.mpr (h.mpr q), beq_iff_eq.mpr q]
  · have q2 : ¬ ((x : Int) - A).fmod n = 0 := fun z => q (h.mp z)
    have h5 : (((x : Int) - A).fmod n == 0) = false := by simpa using q2
    have h6 : (x % n == A) = false := by simpa using q
    rw [h5, h6]
theorem ways_in (K : Key n e d) {A t : Nat} (hA : A < n) (ht : t < n) {y2 : D} {y4 : D} (ix : wIx (.d y2) (.d y4) = some (.d (.int t))) :
    lcL (gN 5) (EV.tEq (xMod (xSub (xAdd (x2 wIx (xRd 2) (xRd 4)) (xCall 3 m_power_in (aC (xVar 5) (aC (xVar 1) (aC (xVar 0) (aN)))))) (xRd 3)) (xRd 0)) (xC (.int 0))) (xVar 5) (intsD 0 n)
      [some (.d (.int n)), some (.d (.int e)), some (.d y2), some (.d (.int A)), some (.d y4), none] = some [.int (wy n d A t : Nat)] := by
  have h0 := K.n0
  have L := lcL_mapF (t := gN 5) (p := EV.tEq (xMod (xSub (xAdd (x2 wIx (xRd 2) (xRd 4)) (xCall 3 m_power_in (aC (xVar 5) (aC (xVar 1) (aC (xVar 0) (aN)))))) (xRd 3)) (xRd 0)) (xC (.int 0))) (f := xVar 5) (env := [some (.d (.int n)), some (.d (.int e)), some (.d y2), some (.d (.int A)), some (.d y4), none]) (fun k : Nat => .int (k : Nat)) nI (fun x => x == wy n d A t) (List.range n) fun x hx => by
    have hx := List.mem_range.mp hx
    have p := pin K (x := x) (f := e) hx (by have := K.e1; omega)
    have w := one_way K hA ht hx
    have z := cd_zero (n := n) (x := t + x ^ e % n) hA
    rw [w] at z
    have z2 : ((t + x ^ e % n : Nat) : Int) = (t : Int) + ((x ^ e % n : Nat) : Int) := by omega
    rw [z2] at z
    have nz : ¬ ((n : Int) = 0) := by omega
    have nz1 : ¬ n = 0 := by omega
    generalize ((x ^ e % n : Nat) : Int) = xe at *
    generalize (x == wy n d A t) = res at *
    exact ⟨by simp [p, ix, nz, nz1, z], fun _ => by simp [nI]⟩
  rw [← intsD_map, filter_one n _ (wy_lt K)] at L
  exact L
theorem choice_ok (K : Key n e d) {A t0 t1 : Nat} (hA : A < n) (h0 : t0 < n) (h1 : t1 < n) : m_choice_draws [.int n, .int e, .tuple [.int t0, .int t1], .int A] = some (.d (.tuple [.tuple [.int (wy n d A t0 : Nat)], .tuple [.int (wy n d A t1 : Nat)]])) := by
  have a0 := ways_in K hA h0 (y2 := .tuple [.int t0, .int t1]) (y4 := .int 0) (by simp)
  have a1 := ways_in K hA h1 (y2 := .tuple [.int t0, .int t1]) (y4 := .int 1) (by simp)
  have hn := K.n1
  have hr : rgB (n : Int) = true := rgB_nat (by omega)
  have hl : n ≤ 16777216 := by omega
  have e0 : lcL (gN 4) pY (x1 wToT (xLc [5] (iR1 (xRd 0)) (gN 5) (EV.tEq (xMod (xSub (xAdd (x2 wIx (xRd 2) (xRd 4)) (xCall 3 m_power_in (aC (xVar 5) (aC (xVar 1) (aC (xVar 0) (aN)))))) (xRd 3)) (xRd 0)) (xC (.int 0))) (xVar 5))) [.int 0, .int 1] [some (.d (.int n)), some (.d (.int e)), some (.d (.tuple [.int t0, .int t1])), some (.d (.int A)), none, none] = some [.tuple [.int (wy n d A t0 : Nat)], .tuple [.int (wy n d A t1 : Nat)]] := by
    generalize ((wy n d A t0 : Nat) : Int) = w0 at *
    generalize ((wy n d A t1 : Nat) : Int) = w1 at *
    rw [lcL, lcL, lcL]
    simp [hr, hl, a0, a1]
  unfold m_choice_draws B_choice_draws
  simp [e0]
theorem ways_law (K : Key n e d) {A t : Nat} (hA : A < n) (ht : t < n) {y0 y1 y3 y4 y9 : W} {y2 : D} {y12 : D} (ix : wIx (.d y2) (.d y12) = some (.d (.int t))) :
    lcL (gN 13) (EV.tEq (xMod (x1 wToI (xAdd (x2 wIx (xRd 2) (xRd 12)) (x2 wIx (xRd 10) (xRd 13)))) (xRd 5)) (xRd 8)) (xVar 13) (intsD 0 n)
      [some y0, some y1, some (.d y2), some y3, some y4, some (.d (.int n)), some (.d (.int e)), some (.d (.int d)), some (.d (.int A)), some y9, some (.o (.lst ((List.range n).map fun x => nI (x ^ e % n)))), none, some (.d y12), none] = some [.int (wy n d A t : Nat)] := by
  have h0 := K.n0
  have L := lcL_mapF (t := gN 13) (p := EV.tEq (xMod (x1 wToI (xAdd (x2 wIx (xRd 2) (xRd 12)) (x2 wIx (xRd 10) (xRd 13)))) (xRd 5)) (xRd 8)) (f := xVar 13) (env := [some y0, some y1, some (.d y2), some y3, some y4, some (.d (.int n)), some (.d (.int e)), some (.d (.int d)), some (.d (.int A)), some y9, some (.o (.lst ((List.range n).map fun x => nI (x ^ e % n)))), none, some (.d y12), none]) (fun k : Nat => .int (k : Nat)) nI (fun x => x == wy n d A t) (List.range n) fun x hx => by
    have hx := List.mem_range.mp hx
    have g : ((List.range n).map fun x => nI (x ^ e % n))[x]? = some (.int (x ^ e % n : Nat)) := by simp [hx, nI]
    have w := one_way K hA ht hx
    have z : ((t : Int) + ((x ^ e % n : Nat) : Int)).fmod n = (((t + x ^ e % n) % n : Nat) : Int) := fmod_nat _ n
    have nz : ¬ ((n : Int) = 0) := by omega
    have nz1 : ¬ n = 0 := by omega
    generalize ((x ^ e % n : Nat) : Int) = xe at *
    have z3 : ((((t + x ^ e % n) % n : Nat) : Int) == (A : Int)) = (x == wy n d A t) := by
      rw [← w]
      generalize (t + x ^ e % n) % n = q
      by_cases h : q = A
      · subst h; simp
      · have h1 : (q == A) = false := by simpa using h
        rw [h1]; simp; omega
    generalize (((t + x ^ e % n) % n : Nat) : Int) = q at *
    generalize (List.range n).map (fun x => nI (x ^ e % n)) = pw at *
    generalize (x == wy n d A t) = res at *
    exact ⟨by simp [g, ix, nz, nz1, z, z3], fun _ => by simp [nI]⟩
  rw [← intsD_map, filter_one n _ (wy_lt K)] at L
  exact L
theorem cEq_one (k : Nat) : cEq (.d (.tuple [.int (k : Int)])) (.d (.tuple [.int (k : Int)])) = some true := by
  have s : SeqAt.shaped (.tuple [.int (k : Int)]) = true := shaped_of (n := 3) (by simp [flatS]) (by omega)
  simp [cEq, dat, s, PyData.eqv, PyData.eqvAll]
end
end L

set_option Elab.async false
set_option linter.all false
set_option maxRecDepth 100000
set_option maxHeartbeats 4000000
set_option exponentiation.threshold 2000000
namespace L
open PySem L2 EV
theorem l_taken_ok {n e d u0 u1 t0 t1 k : Nat} (K : Key n e d) (c : Bool) (h0 : t0 < n) (h1 : t1 < n) (hk : k < n) (hx0 : u0 < 64) (hx1 : u1 < 64) :
    m_l_taken [kD n e d, .tuple [.int u0, .int u1], .tuple [.int t0, .int t1], bI c, .int k] = some (.d (.int ((if c then u1 else u0 : Nat) : Int))) := by
  have hn := K.n0
  have hn1 := K.n1
  have nz : ¬ ((n : Int) = 0) := by omega
  have nz1 : ¬ n = 0 := by omega
  have hr : rgB (n : Int) = true := rgB_nat (by omega)
  have hl : n ≤ 16777216 := by omega
  have q1 := taken_one_ok K c h0 h1 hk (x0 := u0) (x1 := u1)
  have gi : wIx (.d (.tuple [.int t0, .int t1])) (.d (bI c)) = some (.d (.int ((if c then t1 else t0 : Nat) : Int))) := by cases c <;> simp
  have htc : (if c then t1 else t0 : Nat) < n := by cases c <;> simp [h0, h1]
  have ow := own_way K htc hk
  have hA := ask_lt K (t := if c then t1 else t0) (k := k)
  have a1 : (((if c then t1 else t0 : Nat) : Int) + (k ^ e % n : Nat)).fmod n = (askN n e (if c then t1 else t0) k : Nat) := fmod_nat _ n
  have p1 := pl_ K (x := k) (f := e) hk (by have := K.e1; omega)
  generalize htcv : (if c then t1 else t0 : Nat) = tc at *
  generalize hAv : askN n e tc k = A at *
  have p2 := pl_ K (x := df n A t0) (f := d) (df_lt hA h0) K.d1
  have p3 := pl_ K (x := df n A t1) (f := d) (df_lt hA h1) K.d1
  have f2 := df_int hA h0
  have f3 := df_int hA h1
  have b1 : ((u0 : Int) + (df n A t0 ^ d % n : Nat)).fmod n = (ansN n d A u0 t0 : Nat) := fmod_nat _ n
  have b2 : ((u1 : Int) + (df n A t1 ^ d % n : Nat)).fmod n = (ansN n d A u1 t1 : Nat) := fmod_nat _ n
  have tk0 := taken_ok K (A := A) (x := u0) (t := t0) hx0
  have tk1 := taken_ok K (A := A) (x := u1) (t := t1) hx1
  have cho := choice_ok K hA h0 h1
  have kk1 : m_l_like [.tuple [.int (A : Nat), .int (ansN n d A u0 t0 : Nat), .int (ansN n d A u1 t1 : Nat)], .tuple [.int (A : Nat), .int (ansN n d A u0 t0 : Nat), .int (ansN n d A u1 t1 : Nat)]] = some (.d (.bool true)) := like1 (by simp [flatD])
  have kk2 : m_l_like [.tuple [.tuple [.int (wy n d A t0 : Nat)], .tuple [.int (wy n d A t1 : Nat)]], .tuple [.tuple [.int (wy n d A t0 : Nat)], .tuple [.int (wy n d A t1 : Nat)]]] = some (.d (.bool true)) := like1 (by simp [flatD])
  have kk3 : ∀ x : Nat, m_l_like [.int (x : Int), .int (x : Int)] = some (.d (.bool true)) := fun x => like1 (by simp [flatD])
  have kx0 := kk3 u0
  have kx1 := kk3 u1
  have wsel : wIx (.o (.lst [.tuple [.int (wy n d A t0 : Nat)], .tuple [.int (wy n d A t1 : Nat)]])) (.d (bI c)) = some (.d (.tuple [.int (k : Nat)])) := by
    rw [← ow, ← htcv]
    cases c <;> simp
  have asel : wIx (.o (.lst [.int (ansN n d A u0 t0 : Nat), .int (ansN n d A u1 t1 : Nat)])) (.d (bI c)) = some (.d (.int (ansN n d A (if c then u1 else u0) tc : Nat))) := by
    rw [← htcv]
    cases c <;> simp
  have tkc := taken_ok K (A := A) (x := if c then u1 else u0) (t := tc) (by cases c <;> simp [hx0, hx1])
  rw [ow] at tkc
  have ce := cEq_one k
  have La : lcL (gN 12) pY (xMod (x1 wToI (xAdd (x2 wIx (xRd 1) (xRd 12)) (xCall 3 m_l_power (aC (xMod (x1 wToI (xSub (xRd 8) (x2 wIx (xRd 2) (xRd 12)))) (xRd 5)) (aC (xVar 7) (aC (xVar 5) (aN))))))) (xRd 5)) [.int 0, .int 1] [some (.d (.tuple [.int n, .int e, .int d])), some (.d (.tuple [.int u0, .int u1])), some (.d (.tuple [.int t0, .int t1])), some (.d (bI c)), some (.d (.int k)), some (.d (.int n)), some (.d (.int e)), some (.d (.int d)), some (.d (.int A)), none, none, none, none, none] = some [.int (ansN n d A u0 t0 : Nat), .int (ansN n d A u1 t1 : Nat)] := by
    generalize ((ansN n d A u0 t0 : Nat) : Int) = r0 at *
    generalize ((ansN n d A u1 t1 : Nat) : Int) = r1 at *
    generalize ((df n A t0 ^ d % n : Nat) : Int) = w0 at *
    generalize ((df n A t1 ^ d % n : Nat) : Int) = w1 at *
    generalize ((df n A t0 : Nat) : Int) = d0 at *
    generalize ((df n A t1 : Nat) : Int) = d1 at *
    generalize bI c = bc at *
    simp [lcL, f2, f3, p2, p3, b1, b2, nz, nz1]
  have Lp : lcL (gN 13) pY (xCall 3 m_l_power (aC (xVar 13) (aC (xVar 6) (aC (xVar 5) (aN))))) (intsD 0 n) [some (.d (.tuple [.int n, .int e, .int d])), some (.d (.tuple [.int u0, .int u1])), some (.d (.tuple [.int t0, .int t1])), some (.d (bI c)), some (.d (.int k)), some (.d (.int n)), some (.d (.int e)), some (.d (.int d)), some (.d (.int A)), some (.o (.lst [.int (ansN n d A u0 t0 : Nat), .int (ansN n d A u1 t1 : Nat)])), none, none, none, none] = some ((List.range n).map fun x => nI (x ^ e % n)) := by
    rw [intsD_map]
    refine lcL_map _ _ _ fun x hx => ?_
    have q := pl_ K (x := x) (f := e) (List.mem_range.mp hx) (by have := K.e1; omega)
    unfold nI
    generalize ((x ^ e % n : Nat) : Int) = r at *
    generalize bI c = bc at *
    generalize ((ansN n d A u0 t0 : Nat) : Int) = r0 at *
    generalize ((ansN n d A u1 t1 : Nat) : Int) = r1 at *
    simp [q]
  have W0 := ways_law K hA h0 (y0 := .d (.tuple [.int n, .int e, .int d])) (y1 := .d (.tuple [.int u0, .int u1])) (y3 := .d (bI c)) (y4 := .d (.int k)) (y9 := .o (.lst [.int (ansN n d A u0 t0 : Nat), .int (ansN n d A u1 t1 : Nat)])) (y2 := .tuple [.int t0, .int t1]) (y12 := .int 0) (by simp)
  have W1 := ways_law K hA h1 (y0 := .d (.tuple [.int n, .int e, .int d])) (y1 := .d (.tuple [.int u0, .int u1])) (y3 := .d (bI c)) (y4 := .d (.int k)) (y9 := .o (.lst [.int (ansN n d A u0 t0 : Nat), .int (ansN n d A u1 t1 : Nat)])) (y2 := .tuple [.int t0, .int t1]) (y12 := .int 1) (by simp)
  have pwl : ((List.range n).map fun x => nI (x ^ e % n)).length = n := by simp
  unfold m_l_taken B_l_taken kD
  unfold kD at q1
  generalize (List.range n).map (fun x => nI (x ^ e % n)) = pw at *
  generalize ((ansN n d A (if c then u1 else u0) tc : Nat) : Int) = rc at *
  generalize ((if c then u1 else u0 : Nat) : Int) = xc at *
  generalize ((ansN n d A u0 t0 : Nat) : Int) = r0 at *
  generalize ((ansN n d A u1 t1 : Nat) : Int) = r1 at *
  generalize ((wy n d A t0 : Nat) : Int) = w0 at *
  generalize ((wy n d A t1 : Nat) : Int) = w1 at *
  generalize ((k ^ e % n : Nat) : Int) = ke at *
  have cbool : bI c = .int 0 ∨ bI c = .int 1 := by cases c <;> simp
  generalize bI c = bc at *
  refine run_rt [some (.d (.tuple [.int n, .int e, .int d])), some (.d (.tuple [.int u0, .int u1])), some (.d (.tuple [.int t0, .int t1])), some (.d bc), some (.d (.int k)), none, none, none, none, none, none, none, none, none] rfl ?_
  refine stp (e1 := [some (.d (.tuple [.int n, .int e, .int d])), some (.d (.tuple [.int u0, .int u1])), some (.d (.tuple [.int t0, .int t1])), some (.d bc), some (.d (.int k)), some (.d (.int n)), some (.d (.int e)), some (.d (.int d)), none, none, none, none, none, none]) (by simp) ?_
  refine stp (e1 := [some (.d (.tuple [.int n, .int e, .int d])), some (.d (.tuple [.int u0, .int u1])), some (.d (.tuple [.int t0, .int t1])), some (.d bc), some (.d (.int k)), some (.d (.int n)), some (.d (.int e)), some (.d (.int d)), some (.d (.int A)), none, none, none, none, none]) (by simp [gi, p1, a1, nz, nz1]) ?_
  refine stp (e1 := [some (.d (.tuple [.int n, .int e, .int d])), some (.d (.tuple [.int u0, .int u1])), some (.d (.tuple [.int t0, .int t1])), some (.d bc), some (.d (.int k)), some (.d (.int n)), some (.d (.int e)), some (.d (.int d)), some (.d (.int A)), some (.o (.lst [.int r0, .int r1])), none, none, none, none]) (by simp [La]) ?_
  refine stp (e1 := [some (.d (.tuple [.int n, .int e, .int d])), some (.d (.tuple [.int u0, .int u1])), some (.d (.tuple [.int t0, .int t1])), some (.d bc), some (.d (.int k)), some (.d (.int n)), some (.d (.int e)), some (.d (.int d)), some (.d (.int A)), some (.o (.lst [.int r0, .int r1])), none, none, none, none]) (by simp [q1, kk1]) ?_
  refine stp (e1 := [some (.d (.tuple [.int n, .int e, .int d])), some (.d (.tuple [.int u0, .int u1])), some (.d (.tuple [.int t0, .int t1])), some (.d bc), some (.d (.int k)), some (.d (.int n)), some (.d (.int e)), some (.d (.int d)), some (.d (.int A)), some (.o (.lst [.int r0, .int r1])), some (.o (.lst pw)), none, none, none]) (by simp [hr, hl, Lp]) ?_
  have Lw : lcL (gN 12) pY (x1 wToT (xLc [13] (iR1 (xRd 5)) (gN 13) (EV.tEq (xMod (x1 wToI (xAdd (x2 wIx (xRd 2) (xRd 12)) (x2 wIx (xRd 10) (xRd 13)))) (xRd 5)) (xRd 8)) (xVar 13))) [.int 0, .int 1] [some (.d (.tuple [.int n, .int e, .int d])), some (.d (.tuple [.int u0, .int u1])), some (.d (.tuple [.int t0, .int t1])), some (.d bc), some (.d (.int k)), some (.d (.int n)), some (.d (.int e)), some (.d (.int d)), some (.d (.int A)), some (.o (.lst [.int r0, .int r1])), some (.o (.lst pw)), none, none, none] = some [.tuple [.int w0], .tuple [.int w1]] := by
    rw [lcL, lcL, lcL]
    simp [hr, hl, W0, W1]
  refine stp (e1 := [some (.d (.tuple [.int n, .int e, .int d])), some (.d (.tuple [.int u0, .int u1])), some (.d (.tuple [.int t0, .int t1])), some (.d bc), some (.d (.int k)), some (.d (.int n)), some (.d (.int e)), some (.d (.int d)), some (.d (.int A)), some (.o (.lst [.int r0, .int r1])), some (.o (.lst pw)), some (.o (.lst [.tuple [.int w0], .tuple [.int w1]])), none, none]) (by simp [Lw]) ?_
  refine stp (e1 := [some (.d (.tuple [.int n, .int e, .int d])), some (.d (.tuple [.int u0, .int u1])), some (.d (.tuple [.int t0, .int t1])), some (.d bc), some (.d (.int k)), some (.d (.int n)), some (.d (.int e)), some (.d (.int d)), some (.d (.int A)), some (.o (.lst [.int r0, .int r1])), some (.o (.lst pw)), some (.o (.lst [.tuple [.int w0], .tuple [.int w1]])), none, none]) (by simp [wsel, cNe, ce]) ?_
  refine stp (e1 := [some (.d (.tuple [.int n, .int e, .int d])), some (.d (.tuple [.int u0, .int u1])), some (.d (.tuple [.int t0, .int t1])), some (.d bc), some (.d (.int k)), some (.d (.int n)), some (.d (.int e)), some (.d (.int d)), some (.d (.int A)), some (.o (.lst [.int r0, .int r1])), some (.o (.lst pw)), some (.o (.lst [.tuple [.int w0], .tuple [.int w1]])), none, none]) (by simp [cho, kk2]) ?_
  refine stp (e1 := [some (.d (.tuple [.int n, .int e, .int d])), some (.d (.tuple [.int u0, .int u1])), some (.d (.tuple [.int t0, .int t1])), some (.d bc), some (.d (.int k)), some (.d (.int n)), some (.d (.int e)), some (.d (.int d)), some (.d (.int A)), some (.o (.lst [.int r0, .int r1])), some (.o (.lst pw)), some (.o (.lst [.tuple [.int w0], .tuple [.int w1]])), none, none]) (by simp [forL_cons, turn, tk0, tk1, kx0, kx1]) ?_
  exact ⟨_, by simp [asel, tkc]; rfl⟩
end L

set_option Elab.async false
set_option linter.all false
set_option maxRecDepth 100000
set_option maxHeartbeats 4000000
set_option exponentiation.threshold 2000000
namespace L
open PySem L2 EV
theorem law_body (ss : List Int) (row : List D) (hr : Row row 60) (hc : m_l_row [.list (ss.map .int), .int 60] = some (.o (.lst row))) : ∃ e', B_law [some (.d (.list (ss.map .int))), none, none, none, none, none, none, none, none, none, none, none, none, none, none, none, none] = some (.rt (.d (.bool true)), e') := by
  unfold B_law
  refine stp (e1 := [some (.d (.list (ss.map .int))), some (.o (.lst row)), none, none, none, none, none, none, none, none, none, none, none, none, none, none, none]) (by simp [hc]) ?_
  refine stpF ?_
  rw [show frzAt 1 _ = [some (.d (.list (ss.map .int))), some (.d (.list row)), none, none, none, none, none, none, none, none, none, none, none, none, none, none, none] from rfl]
  obtain ⟨n, e, d, hk, K⟩ := key_ok hr (by omega)
  have hn0 := K.n0
  have hn1 := K.n1
  refine stp (e1 := [some (.d (.list (ss.map .int))), some (.d (.list row)), some (.d (.tuple [.int n, .int e, .int d])), none, none, none, none, none, none, none, none, none, none, none, none, none, none]) (by simp [hk]) ?_
  refine stp (e1 := [some (.d (.list (ss.map .int))), some (.d (.list row)), some (.d (.tuple [.int n, .int e, .int d])), none, none, none, none, none, none, none, none, none, none, none, none, none, none]) (by simp) ?_
  obtain ⟨v2, g2⟩ := hr 2 (by omega)
  obtain ⟨c', hc', hc1⟩ := dr v2 6 (by omega)
  rw [show ((6 : Nat) : Int) = 6 from rfl] at hc'
  obtain ⟨m, em, hm2⟩ : ∃ m : Nat, 1 + (c' : Int) = m ∧ m = 1 + c' := ⟨1 + c', by omega, rfl⟩
  refine stp (e1 := [some (.d (.list (ss.map .int))), some (.d (.list row)), some (.d (.tuple [.int n, .int e, .int d])), some (.d (.int n)), some (.d (.int m)), none, none, none, none, none, none, none, none, none, none, none, none]) (by simp [g2, hc', em]) ?_
  refine stpF ?_
  rw [show frzAt 1 _ = [some (.d (.list (ss.map .int))), some (.d (.list row)), some (.d (.tuple [.int n, .int e, .int d])), some (.d (.int n)), some (.d (.int m)), none, none, none, none, none, none, none, none, none, none, none, none] from rfl]
  obtain ⟨c, k1, k2, k3⟩ := circuit_ok hr (at_ := 3) (n := 4) (cnt := m) (by omega) (by omega) (by omega) (by omega)
  obtain ⟨ns, k4, k5, k6⟩ := names_ok hr (at_ := 21) (cnt := 4 + m) (by omega) (by omega)
  rw [show ((3 : Nat) : Int) = 3 from rfl, show ((4 : Nat) : Int) = 4 from rfl] at k1
  rw [show ((21 : Nat) : Int) = 21 from rfl, show ((4 + m : Nat) : Int) = 4 + (m : Int) by omega] at k4
  refine stp (e1 := [some (.d (.list (ss.map .int))), some (.d (.list row)), some (.d (.tuple [.int n, .int e, .int d])), some (.d (.int n)), some (.d (.int m)), some (.d (.tuple (c.map gateD))), some (.d (.tuple (ns.map nameD))), none, none, none, none, none, none, none, none, none, none]) (by simp [k1, k4]) ?_
  refine stpE (Q := fun ls : List Bool => ls.length = 4) (E := fun ls => [some (.d (.list (ss.map .int))), some (.d (.list row)), some (.d (.tuple [.int n, .int e, .int d])), some (.d (.int n)), some (.d (.int m)), some (.d (.tuple (c.map gateD))), some (.d (.tuple (ns.map nameD))), some (.d (.tuple (ls.map bI))), none, none, none, none, none, none, none, none, none]) ?_ fun ls hls => ?_
  · have hg : ∃ g : Nat → Int, ∀ k, k < 4 → row[41 + k]? = some (.int (g k)) := by
      have : ∀ k, ∃ v : Int, k < 4 → row[41 + k]? = some (.int v) := fun k => by
        by_cases h : k < 4
        · obtain ⟨v, hv⟩ := hr (41 + k) (by omega)
          exact ⟨v, fun _ => hv⟩
        · exact ⟨0, fun q => absurd q h⟩
      exact ⟨fun k => (this k).choose, fun k => (this k).choose_spec⟩
    obtain ⟨g, hg⟩ := hg
    refine ⟨(List.range 4).map fun k => (g k).fmod 2 == 1, rfl, ?_⟩
    have L := lcL_map (t := gN 16) (f := xMod (x1 wToI (x2 wIx (xRd 1) (xAdd (xC (.int 41)) (xRd 16)))) (xC (.int 2))) (env := [some (.d (.list (ss.map .int))), some (.d (.list row)), some (.d (.tuple [.int n, .int e, .int d])), some (.d (.int n)), some (.d (.int m)), some (.d (.tuple (c.map gateD))), some (.d (.tuple (ns.map nameD))), none, none, none, none, none, none, none, none, none, none]) (fun k : Nat => .int (k : Nat)) (fun k => bI ((g k).fmod 2 == 1)) (List.range 4) fun k hk => by
      have e := hg k (List.mem_range.mp hk)
      have e2 : atI row (41 + (k : Int)) = some (.int (g k)) := by
        rw [show 41 + (k : Int) = ((41 + k : Nat) : Int) by omega, atI_cast]
        exact e
      have e3 : bI ((g k).fmod 2 == 1) = .int ((g k).fmod 2) := by
        obtain ⟨r, h1, h2⟩ := dr (g k) 2 (by omega)
        rw [show ((2 : Nat) : Int) = 2 from rfl] at h1
        rw [h1]
        rcases (by omega : r = 0 ∨ r = 1) with h | h <;> subst h <;> rfl
      rw [e3]
      generalize c.map gateD = cd at *
      generalize ns.map nameD = nd at *
      simp [e2]
    rw [← intsD_map] at L
    have hrg : rgB 4 = true := rfl
    rw [List.map_map]
    rw [show (bI ∘ fun k => (g k).fmod 2 == 1) = fun k => bI ((g k).fmod 2 == 1) from rfl]
    generalize (List.range 4).map (fun k => bI ((g k).fmod 2 == 1)) = bl at *
    generalize c.map gateD = cd at *
    generalize ns.map nameD = nd at *
    simp [hrg, L]
  have a1 := l_veil_ok (ns := ns) (n := 4) (c := c) k3 (by omega) (by omega)
  have a2 := veiled_ok (ns := ns) (n := 4) (c := c) k3 (by omega) (by omega)
  have kk1 : m_l_like [.tuple (VR ns 4 c c.length), .tuple (VR ns 4 c c.length)] = some (.d (.bool true)) := like1 (flat_VR (by omega))
  have vt := veiled_told_ok (ns := ns) (n := 4) (c := c) (ls := ls) k6 k3 (by omega) (by omega) hls
  have q1 := l_lines_ok (c := c) (ls := ls) (by rw [hls]; exact k3) (by omega)
  have q2 := circuit_told_ok (c := c) (ls := ls) (by rw [hls]; exact k3) (by omega)
  rw [hls] at q2
  rw [show ((4 : Nat) : Int) = 4 from rfl] at a1 a2 vt q2
  have hll := linesB_len c ls
  have kk2 : m_l_like [.tuple ((linesB c ls).map bI), .tuple ((linesB c ls).map bI)] = some (.d (.bool true)) := like1 (flat_bits (by omega))
  have kk3 : m_l_like [.tuple (dueL ns (linesB c ls)), .tuple (dueL ns (linesB c ls))] = some (.d (.bool true)) := like1 (flat_due (by omega))
  have bx : ∀ k, k < 4 → (ls.map bI)[k]? = some (bI (ls.getD k false)) := fun k hk => get_bI (by omega)
  have nx : ∀ k, k < 4 → (ns.map nameD)[k]? = some (nameD (ns.getD k (0, 1))) := fun k hk => ix_names (by omega)
  refine stp (e1 := [some (.d (.list (ss.map .int))), some (.d (.list row)), some (.d (.tuple [.int n, .int e, .int d])), some (.d (.int n)), some (.d (.int m)), some (.d (.tuple (c.map gateD))), some (.d (.tuple (ns.map nameD))), some (.d (.tuple (ls.map bI))), some (.d (.tuple (VR ns 4 c c.length))), none, none, none, none, none, none, none, none]) (by generalize VR ns 4 c c.length = vr at *; generalize c.map gateD = cd at *; generalize ns.map nameD = nd at *; generalize ls.map bI = lb at *; simp [a1]) ?_
  refine stp (e1 := [some (.d (.list (ss.map .int))), some (.d (.list row)), some (.d (.tuple [.int n, .int e, .int d])), some (.d (.int n)), some (.d (.int m)), some (.d (.tuple (c.map gateD))), some (.d (.tuple (ns.map nameD))), some (.d (.tuple (ls.map bI))), some (.d (.tuple (VR ns 4 c c.length))), none, none, none, none, none, none, none, none]) (by generalize VR ns 4 c c.length = vr at *; generalize c.map gateD = cd at *; generalize ns.map nameD = nd at *; generalize ls.map bI = lb at *; simp [a2, kk1]) ?_
  refine stp (e1 := [some (.d (.list (ss.map .int))), some (.d (.list row)), some (.d (.tuple [.int n, .int e, .int d])), some (.d (.int n)), some (.d (.int m)), some (.d (.tuple (c.map gateD))), some (.d (.tuple (ns.map nameD))), some (.d (.tuple (ls.map bI))), some (.d (.tuple (VR ns 4 c c.length))), some (.o (.lst [nI (sel (ns.getD 0 (0, 1)) (ls.getD 0 false)), nI (sel (ns.getD 1 (0, 1)) (ls.getD 1 false))])), none, none, none, none, none, none, none]) (by
    have b0 := bx 0 (by omega)
    have b1 := bx 1 (by omega)
    have n0 := nx 0 (by omega)
    have n1 := nx 1 (by omega)
    have s0 := ix_name (ns.getD 0 (0, 1)) (ls.getD 0 false)
    have s1 := ix_name (ns.getD 1 (0, 1)) (ls.getD 1 false)
    generalize VR ns 4 c c.length = vr at *
    generalize c.map gateD = cd at *
    generalize ns.map nameD = nd at *
    generalize ls.map bI = lb at *
    generalize nI (sel (ns.getD 0 (0, 1)) (ls.getD 0 false)) = z0 at *
    generalize nI (sel (ns.getD 1 (0, 1)) (ls.getD 1 false)) = z1 at *
    generalize nameD (ns.getD 0 (0, 1)) = m0 at *
    generalize nameD (ns.getD 1 (0, 1)) = m1 at *
    generalize bI (ls.getD 0 false) = y0 at *
    generalize bI (ls.getD 1 false) = y1 at *
    simp [b0, b1, n0, n1, s0, s1]) ?_
  have T : ∀ (l : Nat) (gv : List D), l < 4 → gv.length < 100 → turn (gN 10) (sKill [10, 11, 12, 13] (sSeq (sSet 11 (xMod (x1 wToI (x2 wIx (xRd 1) (xAdd (xC (.int 43)) (xRd 10)))) (xRd 3))) (sSeq (sSet 12 (xTup (aC (xVar 11) (aC (xMod (x1 wToI (xAdd (xAdd (xRd 11) (xC (.int 1))) (xMod (x1 wToI (x2 wIx (xRd 1) (xAdd (xC (.int 45)) (xRd 10)))) (xSub (xRd 3) (xC (.int 1)))))) (xRd 3)) (aN))))) (sSeq (sSet 13 (xCall 5 m_l_taken (aC (xVar 2) (aC (x2 wIx (xRd 6) (xRd 10)) (aC (xVar 12) (aC (x2 wIx (xRd 7) (xRd 10)) (aC (xMod (x1 wToI (x2 wIx (xRd 1) (xAdd (xC (.int 47)) (xRd 10)))) (xRd 3)) (aN)))))))) (sSeq (sIf (EV.tIs (xRd 13) (xC .none)) (sRet (xC (.bool false))) (sNil)) (sApp 9 (xVar 13))))))) (.int l) [some (.d (.list (ss.map .int))), some (.d (.list row)), some (.d (.tuple [.int n, .int e, .int d])), some (.d (.int n)), some (.d (.int m)), some (.d (.tuple (c.map gateD))), some (.d (.tuple (ns.map nameD))), some (.d (.tuple (ls.map bI))), some (.d (.tuple (VR ns 4 c c.length))), some (.o (.lst gv)), none, none, none, none, none, none, none] = some (.nx, [some (.d (.list (ss.map .int))), some (.d (.list row)), some (.d (.tuple [.int n, .int e, .int d])), some (.d (.int n)), some (.d (.int m)), some (.d (.tuple (c.map gateD))), some (.d (.tuple (ns.map nameD))), some (.d (.tuple (ls.map bI))), some (.d (.tuple (VR ns 4 c c.length))), some (.o (.lst (gv ++ [nI (sel (ns.getD l (0, 1)) (ls.getD l false))]))), none, none, none, none, none, none, none]) := fun l gv hl hg => by
    have b0 := bx l hl
    have n0 := nx l hl
    have hnm : nmOk (ns.getD l (0, 1)) := by
      have hi : l < ns.length := by omega
      rw [List.getD_eq_getElem?_getD, List.getElem?_eq_getElem hi]
      exact k6 _ (List.getElem_mem hi)
    obtain ⟨w1, r1⟩ := hr.at (i := 43 + (l : Int)) (43 + l) (by omega) (by omega)
    obtain ⟨w2, r2⟩ := hr.at (i := 45 + (l : Int)) (45 + l) (by omega) (by omega)
    obtain ⟨w3, r3⟩ := hr.at (i := 47 + (l : Int)) (47 + l) (by omega) (by omega)
    obtain ⟨t0, f1, f1'⟩ := dr w1 n (by omega)
    obtain ⟨o, f2, f2'⟩ := dr w2 (n - 1) (by omega)
    obtain ⟨kk, f3, f3'⟩ := dr w3 n (by omega)
    rw [show ((n - 1 : Nat) : Int) = (n : Int) - 1 by omega] at f2
    obtain ⟨t1, f4, f4'⟩ := dr ((t0 : Int) + 1 + o) n (by omega)
    have tk := l_taken_ok K (u0 := (ns.getD l (0, 1)).1) (u1 := (ns.getD l (0, 1)).2) (ls.getD l false) f1' f4' f3' hnm.1 hnm.2.1
    have rs : (if ls.getD l false then (ns.getD l (0, 1)).2 else (ns.getD l (0, 1)).1 : Nat) = sel (ns.getD l (0, 1)) (ls.getD l false) := rfl
    rw [rs, show PyData.tuple [.int ((ns.getD l (0, 1)).1 : Nat), .int ((ns.getD l (0, 1)).2 : Nat)] = nameD (ns.getD l (0, 1)) from rfl] at tk
    unfold kD at tk
    have nz : ¬ ((n : Int) = 0) := by omega
    have nz1 : ¬ n = 0 := by omega
    have nz2 : ¬ ((n : Int) - 1 = 0) := by omega
    have hg2 : gv.length < 16777216 := by omega
    unfold nI
    generalize VR ns 4 c c.length = vr at *
    generalize c.map gateD = cd at *
    generalize ns.map nameD = nd at *
    generalize ls.map bI = lb at *
    generalize sel (ns.getD l (0, 1)) (ls.getD l false) = z0 at *
    generalize nameD (ns.getD l (0, 1)) = m0 at *
    generalize bI (ls.getD l false) = y0 at *
    simp [turn, b0, n0, r1, r2, r3, f1, f2, f3, f4, nz, nz1, nz2, tk, hg2]
  have T2 := T 2 [nI (sel (ns.getD 0 (0, 1)) (ls.getD 0 false)), nI (sel (ns.getD 1 (0, 1)) (ls.getD 1 false))] (by omega) (by simp)
  have T3 := T 3 ([nI (sel (ns.getD 0 (0, 1)) (ls.getD 0 false)), nI (sel (ns.getD 1 (0, 1)) (ls.getD 1 false))] ++ [nI (sel (ns.getD 2 (0, 1)) (ls.getD 2 false))]) (by omega) (by simp)
  have dg : [nI (sel (ns.getD 0 (0, 1)) (ls.getD 0 false)), nI (sel (ns.getD 1 (0, 1)) (ls.getD 1 false))] ++ [nI (sel (ns.getD 2 (0, 1)) (ls.getD 2 false))] ++ [nI (sel (ns.getD 3 (0, 1)) (ls.getD 3 false))] = dueL ns ls := by
    unfold dueL
    rw [hls]
    rfl
  rw [dg] at T3
  have LL := forL_two T2 T3
  clear T T2 T3
  rw [show ((2 : Nat) : Int) = 2 from rfl, show ((3 : Nat) : Int) = 3 from rfl] at LL
  generalize [nI (sel (ns.getD 0 (0, 1)) (ls.getD 0 false)), nI (sel (ns.getD 1 (0, 1)) (ls.getD 1 false))] = g0 at *
  refine stp (e1 := [some (.d (.list (ss.map .int))), some (.d (.list row)), some (.d (.tuple [.int n, .int e, .int d])), some (.d (.int n)), some (.d (.int m)), some (.d (.tuple (c.map gateD))), some (.d (.tuple (ns.map nameD))), some (.d (.tuple (ls.map bI))), some (.d (.tuple (VR ns 4 c c.length))), some (.o (.lst (dueL ns ls))), none, none, none, none, none, none, none]) (by
    clear dg bx nx
    generalize dueL ns ls = dl at *
    generalize VR ns 4 c c.length = vr at *
    generalize c.map gateD = cd at *
    generalize ns.map nameD = nd at *
    generalize ls.map bI = lb at *
    simp [LL]) ?_
  refine stp (e1 := [some (.d (.list (ss.map .int))), some (.d (.list row)), some (.d (.tuple [.int n, .int e, .int d])), some (.d (.int n)), some (.d (.int m)), some (.d (.tuple (c.map gateD))), some (.d (.tuple (ns.map nameD))), some (.d (.tuple (ls.map bI))), some (.d (.tuple (VR ns 4 c c.length))), some (.o (.lst (dueL ns ls))), none, none, none, none, some (.d (.tuple ((linesB c ls).map bI))), none, none]) (by clear dg bx nx LL; generalize dueL ns ls = dl at *; generalize VR ns 4 c c.length = vr at *; generalize c.map gateD = cd at *; generalize ns.map nameD = nd at *; generalize (linesB c ls).map bI = lbb at *; generalize dueL ns (linesB c ls) = dll at *; generalize ls.map bI = lb at *; simp [q1]) ?_
  have hrg : rgB (4 + (m : Int)) = true := rgB_of (by omega)
  have htn : (4 + (m : Int)).toNat = (linesB c ls).length := by omega
  have L1 := lcL_map (t := gN 16) (f := x2 wIx (x2 wIx (xRd 6) (xRd 16)) (x2 wIx (xRd 14) (xRd 16))) (env := [some (.d (.list (ss.map .int))), some (.d (.list row)), some (.d (.tuple [.int n, .int e, .int d])), some (.d (.int n)), some (.d (.int m)), some (.d (.tuple (c.map gateD))), some (.d (.tuple (ns.map nameD))), some (.d (.tuple (ls.map bI))), some (.d (.tuple (VR ns 4 c c.length))), some (.o (.lst (dueL ns ls))), none, none, none, none, some (.d (.tuple ((linesB c ls).map bI))), none, none]) (fun k : Nat => .int (k : Nat)) (fun k => nI (sel (ns.getD k (0, 1)) ((linesB c ls).getD k false))) (List.range (linesB c ls).length) fun k hk => by
    have hk := List.mem_range.mp hk
    have e1 := ix_names (ns := ns) (i := k) (by omega)
    have e2 := get_bI (ls := linesB c ls) (i := k) hk
    clear dg bx nx LL vt
    generalize dueL ns ls = dl at *
    generalize VR ns 4 c c.length = vr at *
    generalize c.map gateD = cd at *
    generalize ls.map bI = lb at *
    generalize ns.map nameD = nd at *
    generalize ns.getD k (0, 1) = p at *
    generalize (linesB c ls).map bI = lbb at *
    generalize (linesB c ls).getD k false = b at *
    have e3 := ix_name p b
    generalize nameD p = np at *
    generalize bI b = bb at *
    simp [e1, e2, e3]
  rw [show ((List.range (linesB c ls).length).map fun k => nI (sel (ns.getD k (0, 1)) ((linesB c ls).getD k false))) = dueL ns (linesB c ls) from rfl, ← intsD_map] at L1
  have hle : (linesB c ls).length ≤ 16777216 := by omega
  refine stp (e1 := [some (.d (.list (ss.map .int))), some (.d (.list row)), some (.d (.tuple [.int n, .int e, .int d])), some (.d (.int n)), some (.d (.int m)), some (.d (.tuple (c.map gateD))), some (.d (.tuple (ns.map nameD))), some (.d (.tuple (ls.map bI))), some (.d (.tuple (VR ns 4 c c.length))), some (.o (.lst (dueL ns ls))), none, none, none, none, some (.d (.tuple ((linesB c ls).map bI))), some (.d (.tuple (dueL ns (linesB c ls)))), none]) (by clear dg bx nx LL; generalize dueL ns ls = dl at *; generalize VR ns 4 c c.length = vr at *; generalize c.map gateD = cd at *; generalize ns.map nameD = nd at *; generalize (linesB c ls).map bI = lbb at *; generalize dueL ns (linesB c ls) = dll at *; generalize ls.map bI = lb at *; generalize (linesB c ls).length = len at *; simp [hrg, htn, hle, L1]) ?_
  refine stp (e1 := [some (.d (.list (ss.map .int))), some (.d (.list row)), some (.d (.tuple [.int n, .int e, .int d])), some (.d (.int n)), some (.d (.int m)), some (.d (.tuple (c.map gateD))), some (.d (.tuple (ns.map nameD))), some (.d (.tuple (ls.map bI))), some (.d (.tuple (VR ns 4 c c.length))), some (.o (.lst (dueL ns ls))), none, none, none, none, some (.d (.tuple ((linesB c ls).map bI))), some (.d (.tuple (dueL ns (linesB c ls)))), none]) (by clear dg bx nx LL; generalize dueL ns ls = dl at *; generalize VR ns 4 c c.length = vr at *; generalize c.map gateD = cd at *; generalize ns.map nameD = nd at *; generalize (linesB c ls).map bI = lbb at *; generalize dueL ns (linesB c ls) = dll at *; generalize ls.map bI = lb at *; generalize (linesB c ls).length = len at *; simp [q2, kk2]) ?_
  refine stp (e1 := [some (.d (.list (ss.map .int))), some (.d (.list row)), some (.d (.tuple [.int n, .int e, .int d])), some (.d (.int n)), some (.d (.int m)), some (.d (.tuple (c.map gateD))), some (.d (.tuple (ns.map nameD))), some (.d (.tuple (ls.map bI))), some (.d (.tuple (VR ns 4 c c.length))), some (.o (.lst (dueL ns ls))), none, none, none, none, some (.d (.tuple ((linesB c ls).map bI))), some (.d (.tuple (dueL ns (linesB c ls)))), none]) (by clear dg bx nx LL; generalize dueL ns ls = dl at *; generalize VR ns 4 c c.length = vr at *; generalize c.map gateD = cd at *; generalize ns.map nameD = nd at *; generalize (linesB c ls).map bI = lbb at *; generalize dueL ns (linesB c ls) = dll at *; generalize ls.map bI = lb at *; generalize (linesB c ls).length = len at *; simp [vt, kk3]) ?_
  have L2 := lcL_map (t := gN 16) (f := xCall 2 m_l_like (aC (xCall 3 m_name_bit (aC (xVar 6) (aC (xVar 16) (aC (x2 wIx (xRd 15) (xRd 16)) (aN))))) (aC (x2 wIx (xRd 14) (xRd 16)) (aN)))) (env := [some (.d (.list (ss.map .int))), some (.d (.list row)), some (.d (.tuple [.int n, .int e, .int d])), some (.d (.int n)), some (.d (.int m)), some (.d (.tuple (c.map gateD))), some (.d (.tuple (ns.map nameD))), some (.d (.tuple (ls.map bI))), some (.d (.tuple (VR ns 4 c c.length))), some (.o (.lst (dueL ns ls))), none, none, none, none, some (.d (.tuple ((linesB c ls).map bI))), some (.d (.tuple (dueL ns (linesB c ls)))), none]) (fun k : Nat => .int (k : Nat)) (fun k => .bool true) (List.range (linesB c ls).length) fun k hk => by
    have hk := List.mem_range.mp hk
    have hkn : k < ns.length := by omega
    have e1 := name_bit_ok (ns := ns) hkn (sel (ns.getD k (0, 1)) ((linesB c ls).getD k false))
    have e2 := get_bI (ls := linesB c ls) (i := k) hk
    have e3 := dueL_get (ns := ns) (ls := linesB c ls) (k := k) hk
    have a1 : nmOk (ns.getD k (0, 1)) := by
      rw [List.getD_eq_getElem?_getD, List.getElem?_eq_getElem hkn]
      exact k6 _ (List.getElem_mem hkn)
    clear dg bx nx LL vt L1
    generalize dueL ns ls = dl at *
    generalize VR ns 4 c c.length = vr at *
    generalize c.map gateD = cd at *
    generalize ls.map bI = lb at *
    generalize (linesB c ls).map bI = lbb at *
    generalize dueL ns (linesB c ls) = dll at *
    generalize (linesB c ls).getD k false = b at *
    generalize ns.map nameD = nd at *
    generalize ns.getD k (0, 1) = p at *
    have hv : (if p.1 = sel p b then PyData.int 0 else if p.2 = sel p b then .int 1 else .none) = bI b := by
      have h12 : ¬ p.1 = p.2 := fun h => a1.2.2 (by rw [h])
      cases b with
      | false => simp [sel]
      | true => simp [sel, h12]
    rw [hv] at e1
    have kk4 : m_l_like [bI b, bI b] = some (.d (.bool true)) := like1 (by simp [bI, flatD])
    generalize bI b = bb at *
    generalize nI (sel p b) = v at *
    simp [e1, e2, e3, kk4]
  rw [← intsD_map] at L2
  have A := asBls_mapF (fun _ : Nat => true) (List.range (linesB c ls).length)
  clear dg bx nx LL vt L1
  generalize dueL ns ls = dl at *
  generalize VR ns 4 c c.length = vr at *
  generalize c.map gateD = cd at *
  generalize ns.map nameD = nd at *
  generalize (linesB c ls).map bI = lbb at *
  generalize dueL ns (linesB c ls) = dll at *
  generalize ls.map bI = lb at *
  generalize (linesB c ls).length = len at *
  exact ⟨_, by simp [hrg, htn, hle, L2, wAll, A]; rfl⟩
theorem law_true : ∀ ns : List Int, ns.length ≤ 63 → m_law [.list (ns.map .int)] = some (.d (.bool true)) := fun ns _ => by
  obtain ⟨vs, h1, h2, h3⟩ := row_ok ns 60 (by omega)
  exact run_rt [some (.d (.list (ns.map .int))), none, none, none, none, none, none, none, none, none, none, none, none, none, none, none, none] rfl (law_body ns (vs.map .int) (fun k hk => by
    have : k < vs.length := by omega
    exact ⟨vs[k], by simp [this]⟩) (by rw [e_row]; exact h1))
end L

open PySem PySem.W PyProof.Rows
set_option maxRecDepth 100000 in
set_option maxHeartbeats 0 in
theorem PySem.Challenge.cw_sealskept_k16_whole_taken_names_holds : PySem.Challenge.rw_sealskept_k16_whole_taken_names.Holds := by
  w_on; o_law; k_head; (case hw => w_witness2)
  k_fill
  refine L2.walk_of (l := PySem.Challenge.rw_sealskept_k16_whole_taken_names) (n := 63) (k := 16) (x := "script") (CX := fun _ => L2.CX0) (sp := fun w => EV.spF _ 1 L.m_law) rfl (by decide) rfl ⟨rfl, by decide, by decide⟩ (fun w h Y => PySem.W.kIn_of Y) ?F (fun _ H a ns hl _ hS => EV.law_sp L.law_true H a ns hl hS _) (fun _ _ _ _ _ h => h)
  case F =>
    intro w mg fa h KX G hmg
    refine' L.all_mk KX G hmg ?a0 ?l0 ?c0 ?k0 ?a1 ?l1 ?c1 ?k1 ?a2 ?l2 ?c2 ?k2 ?a3 ?l3 ?c3 ?k3 ?a4 ?l4 ?c4 ?k4 ?a5 ?l5 ?c5 ?k5 ?a6 ?l6 ?c6 ?k6 ?a7 ?l7 ?c7 ?k7 ?a8 ?l8 ?c8 ?k8 ?a9 ?l9 ?c9 ?k9 ?a10 ?l10 ?c10 ?k10 ?a11 ?l11 ?c11 ?k11 ?a12 ?l12 ?c12 ?k12 ?a13 ?l13 ?c13 ?k13 ?a14 ?l14 ?c14 ?k14 ?a15 ?l15 ?c15 ?k15 ?a16 ?l16 ?c16 ?k16 ?a17 ?l17 ?c17 ?k17 ?a18 ?l18 ?c18 ?k18 ?a19 ?l19 ?c19 ?k19 ?a20 ?l20 ?c20 ?k20 ?a21 ?l21 ?c21 ?k21 ?a22 ?l22 ?c22 ?k22 ?a23 ?l23 ?c23 ?k23 ?a24 ?l24 ?c24 ?k24 ?a25 ?l25 ?c25 ?k25 ?a26 ?l26 ?c26 ?k26 ?a27 ?l27 ?c27 ?k27 ?a28 ?l28 ?c28 ?k28 ?a29 ?l29 ?c29 ?k29 ?z0 ?z1 ?z2 ?z3 ?z4 ?z5 ?z6 ?z7 ?z8 ?z9 ?z10 ?z11 ?z12
    (case a0 => k_is); (case l0 => k_is); (case c0 => k_is); (case k0 => k_is)
    (case a1 => k_is); (case l1 => k_is); (case c1 => k_is); (case k1 => k_is)
    (case a2 => k_is); (case l2 => k_is); (case c2 => k_is); (case k2 => k_is)
    (case a3 => k_is); (case l3 => k_is); (case c3 => k_is); (case k3 => k_is)
    (case a4 => k_is); (case l4 => k_is); (case c4 => k_is); (case k4 => k_is)
    (case a5 => k_is); (case l5 => k_is); (case c5 => k_is); (case k5 => k_is)
    (case a6 => k_is); (case l6 => k_is); (case c6 => k_is); (case k6 => k_is)
    (case a7 => k_is); (case l7 => k_is); (case c7 => k_is); (case k7 => k_is)
    (case a8 => k_is); (case l8 => k_is); (case c8 => k_is); (case k8 => k_is)
    (case a9 => k_is); (case l9 => k_is); (case c9 => k_is); (case k9 => k_is)
    (case a10 => k_is); (case l10 => k_is); (case c10 => k_is); (case k10 => k_is)
    (case a11 => k_is); (case l11 => k_is); (case c11 => k_is); (case k11 => k_is)
    (case a12 => k_is); (case l12 => k_is); (case c12 => k_is); (case k12 => k_is)
    (case a13 => k_is); (case l13 => k_is); (case c13 => k_is); (case k13 => k_is)
    (case a14 => k_is); (case l14 => k_is); (case c14 => k_is); (case k14 => k_is)
    (case a15 => k_is); (case l15 => k_is); (case c15 => k_is); (case k15 => k_is)
    (case a16 => k_is); (case l16 => k_is); (case c16 => k_is); (case k16 => k_is)
    (case a17 => k_is); (case l17 => k_is); (case c17 => k_is); (case k17 => k_is)
    (case a18 => k_is); (case l18 => k_is); (case c18 => k_is); (case k18 => k_is)
    (case a19 => k_is); (case l19 => k_is); (case c19 => k_is); (case k19 => k_is)
    (case a20 => k_is); (case l20 => k_is); (case c20 => k_is); (case k20 => k_is)
    (case a21 => k_is); (case l21 => k_is); (case c21 => k_is); (case k21 => k_is)
    (case a22 => k_is); (case l22 => k_is); (case c22 => k_is); (case k22 => k_is)
    (case a23 => k_is); (case l23 => k_is); (case c23 => k_is); (case k23 => k_is)
    (case a24 => k_is); (case l24 => k_is); (case c24 => k_is); (case k24 => k_is)
    (case a25 => k_is); (case l25 => k_is); (case c25 => k_is); (case k25 => k_is)
    (case a26 => k_is); (case l26 => k_is); (case c26 => k_is); (case k26 => k_is)
    (case a27 => k_is); (case l27 => k_is); (case c27 => k_is); (case k27 => k_is)
    (case a28 => k_is); (case l28 => k_is); (case c28 => k_is); (case k28 => k_is)
    (case a29 => k_is); (case l29 => k_is); (case c29 => k_is); (case k29 => k_is)
    (case z0 => k_is)
    (case z1 => k_is)
    (case z2 => k_is)
    (case z3 => k_is)
    (case z4 => k_is)
    (case z5 => k_is)
    (case z6 => k_is)
    (case z7 => k_is)
    (case z8 => k_is)
    (case z9 => k_is)
    (case z10 => k_is)
    (case z11 => k_is)
    (case z12 => k_is)
