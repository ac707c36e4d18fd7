import PyProof.Rows.All
import Wide.All
import OpenK.AllK
import Wide.FinOn
import HandS.ForMost
import HandS.WordsExc
import HandS.Walk
import HandS.IsInst
import HandS.Wide
import HandS.More
import HandS.Star
import HandS.ClsMeth
import HandS.Property
import HandS.Style
import PyProof.StrBlock2
import HandS.Call
import KE.GoesMore
import HandS.Text
import KE.IntTextLaws
import PySem.Challenge.RW_unbettered_k03_words_of_one_column
set_option Elab.async false
set_option linter.all false
set_option maxRecDepth 100000
set_option maxHeartbeats 2000000
namespace DL
open PySem PySem.Spec PyProof.Rows L2

/-! ### data -/
inductive D where
  | non | bl (b : Bool) | int (i : Int) | str (s : Str) | ty (n : String) | rf (a : Addr)
  | tup (ds : List D) | lst (ds : List D)
  | obj (C : Addr) (ns : List Str) (ds : List D)

mutual
inductive Rp (K : PySem.W.Frag) (H : Hp) : V → D → Prop
  | non : Rp K H .non .non
  | bl (b : Bool) : Rp K H (.bl b) (.bl b)
  | int (i : Int) : Rp K H (.int i) (.int i)
  | str (s : Str) : Rp K H (.str s) (.str s)
  | ty (n : String) : Rp K H (.ty n) (.ty n)
  | rf (a : Addr) : Rp K H (.ref a) (.rf a)
  | tup {a : Addr} {vs : List V} {ds : List D} : SqT K H a vs → RpL K H vs ds → Rp K H (.ref a) (.tup ds)
  | lst {a : Addr} {vs : List V} {ds : List D} : SqL K H a vs → RpL K H vs ds → Rp K H (.ref a) (.lst ds)
  | obj {a C dx : Addr} {fv : List (Str × V)} {ns : List Str} {ds : List D} : H a = some (.ins C dx fv) → fv.map (·.1) = ns → RpL K H (fv.map (·.2)) ds → Rp K H (.ref a) (.obj C ns ds)
inductive RpL (K : PySem.W.Frag) (H : Hp) : List V → List D → Prop
  | nil : RpL K H [] []
  | cons {v : V} {vs : List V} {d : D} {ds : List D} : Rp K H v d → RpL K H vs ds → RpL K H (v :: vs) (d :: ds)
end

theorem same_t {K : PySem.W.Frag} {H H' : Hp} {a : Addr} {xs : List V} (e : Same H H') (h : SqT K H a xs) : SqT K H' a xs := by
  rcases h with (h | ⟨o, h⟩) | h
  · exact .inl (.inl (e _ _ h))
  · exact .inl (.inr ⟨o, e _ _ h⟩)
  · exact .inr h
section
variable {K : PySem.W.Frag} {H H' : Hp}
mutual
theorem Rp.mono (e : Same H H') : ∀ {v : V} {d : D}, Rp K H v d → Rp K H' v d
  | _, _, .non => .non
  | _, _, .bl b => .bl b
  | _, _, .int b => .int b
  | _, _, .str b => .str b
  | _, _, .ty b => .ty b
  | _, _, .rf b => .rf b
  | _, _, .tup h r => .tup (same_t e h) (r.mono e)
  | _, _, .lst h r => .lst (e.seq h) (r.mono e)
  | _, _, .obj h n r => .obj (e _ _ h) n (r.mono e)
theorem RpL.mono (e : Same H H') : ∀ {vs : List V} {ds : List D}, RpL K H vs ds → RpL K H' vs ds
  | _, _, .nil => .nil
  | _, _, .cons h r => .cons (h.mono e) (r.mono e)
end
theorem RpL.length : ∀ {vs : List V} {ds : List D}, RpL K H vs ds → vs.length = ds.length
  | _, _, .nil => rfl
  | _, _, .cons _ r => by rw [List.length_cons, List.length_cons, r.length]
theorem RpL.get : ∀ {vs : List V} {ds : List D} {i : Nat} {d : D}, RpL K H vs ds → ds[i]? = some d → ∃ v, vs[i]? = some v ∧ Rp K H v d
  | _, _, _, _, .nil, h => by simp at h
  | _, _, 0, _, .cons h _, e => by simp at e; subst e; exact ⟨_, rfl, h⟩
  | _, _, i + 1, d, .cons _ r, e => by
    obtain ⟨v, e1, q⟩ := r.get (i := i) (d := d) (by simpa using e)
    exact ⟨v, by simpa using e1, q⟩
theorem RpL.get' : ∀ {vs : List V} {ds : List D} {i : Nat} {v : V}, RpL K H vs ds → vs[i]? = some v → ∃ d, ds[i]? = some d ∧ Rp K H v d
  | _, _, _, _, .nil, h => by simp at h
  | _, _, 0, _, .cons h _, e => by simp at e; subst e; exact ⟨_, rfl, h⟩
  | _, _, i + 1, d, .cons _ r, e => by
    obtain ⟨v, e1, q⟩ := r.get' (i := i) (v := d) (by simpa using e)
    exact ⟨v, by simpa using e1, q⟩
theorem RpL.append : ∀ {vs ws : List V} {ds es : List D}, RpL K H vs ds → RpL K H ws es → RpL K H (vs ++ ws) (ds ++ es)
  | _, _, _, _, .nil, s => s
  | _, _, _, _, .cons h r, s => .cons h (r.append s)
theorem RpL.take : ∀ {vs : List V} {ds : List D} (n : Nat), RpL K H vs ds → RpL K H (vs.take n) (ds.take n)
  | _, _, 0, _ => .nil
  | _, _, _ + 1, .nil => .nil
  | _, _, n + 1, .cons h r => .cons h (r.take n)
theorem RpL.drop : ∀ {vs : List V} {ds : List D} (n : Nat), RpL K H vs ds → RpL K H (vs.drop n) (ds.drop n)
  | _, _, 0, r => r
  | _, _, _ + 1, .nil => .nil
  | _, _, n + 1, .cons _ r => r.drop n
theorem RpL.set {v : V} {d : D} (h : Rp K H v d) : ∀ {vs : List V} {ds : List D} (n : Nat), RpL K H vs ds → RpL K H (vs.set n v) (ds.set n d)
  | _, _, _, .nil => .nil
  | _, _, 0, .cons _ r => .cons h r
  | _, _, n + 1, .cons h' r => .cons h' (r.set h n)
theorem RpL.dropLast {vs : List V} {ds : List D} (r : RpL K H vs ds) : RpL K H vs.dropLast ds.dropLast := by
  rw [List.dropLast_eq_take, List.dropLast_eq_take, r.length]
  exact r.take _
theorem RpL.reverse : ∀ {vs : List V} {ds : List D}, RpL K H vs ds → RpL K H vs.reverse ds.reverse
  | _, _, .nil => .nil
  | _, _, .cons h r => by
    rw [List.reverse_cons, List.reverse_cons]
    exact r.reverse.append (.cons h .nil)
theorem RpL.ints : ∀ {vs : List V} {ns : List Int}, RpL K H vs (ns.map D.int) → vs = ns.map V.int
  | _, [], .nil => rfl
  | _, _ :: _, .cons (.int _) r => by rw [List.map_cons, ← r.ints]
theorem RpL.ofInts : ∀ (ns : List Int), RpL K H (ns.map V.int) (ns.map D.int)
  | [] => .nil
  | n :: ns => .cons (.int n) (RpL.ofInts ns)
theorem RpL.bls : ∀ {vs : List V} {ns : List Bool}, RpL K H vs (ns.map D.bl) → vs = ns.map V.bl
  | _, [], .nil => rfl
  | _, _ :: _, .cons (.bl _) r => by rw [List.map_cons, ← r.bls]
theorem RpL.strs : ∀ {vs : List V} {ns : List Str}, RpL K H vs (ns.map D.str) → vs = ns.map V.str
  | _, [], .nil => rfl
  | _, _ :: _, .cons (.str _) r => by rw [List.map_cons, ← r.strs]
theorem RpL.ofStrs : ∀ (ns : List Str), RpL K H (ns.map V.str) (ns.map D.str)
  | [] => .nil
  | n :: ns => .cons (.str n) (RpL.ofStrs ns)
end

/-! ### objects that may change -/
inductive M where
  | lst (ds : List D)
  | ins (C : Addr) (ns : List Str) (ds : List D)
  | dk (kvs : List (Key × D))
abbrev Om := List (Addr × M)
def has (O : Om) (a : Addr) : Bool := O.any fun p => p.1 == a
def vis (F : Addr → Bool) (O : Om) (H : Hp) : Hp := fun a => if (F a || has O a) = true then none else H a
theorem vis_some {F : Addr → Bool} {O : Om} {H : Hp} {a : Addr} {o : HO} : vis F O H a = some o ↔ F a = false ∧ has O a = false ∧ H a = some o := by
  unfold vis
  cases F a <;> cases has O a <;> simp
theorem vis_same {F : Addr → Bool} {O : Om} {H H' : Hp} (e : Same H H') : Same (vis F O H) (vis F O H') := fun a o h => by
  obtain ⟨h1, h2, h3⟩ := vis_some.mp h
  exact vis_some.mpr ⟨h1, h2, e _ _ h3⟩
theorem vis_le {F : Addr → Bool} {O : Om} {H : Hp} : Same (vis F O H) H := fun a o h => (vis_some.mp h).2.2
theorem has_cons {O : Om} {a b : Addr} {m : M} : has ((b, m) :: O) a = (b == a || has O a) := rfl
theorem has_mem {O : Om} {a : Addr} : has O a = true ↔ ∃ m, (a, m) ∈ O := by
  unfold has
  rw [List.any_eq_true]
  constructor
  · rintro ⟨⟨b, m⟩, h, e⟩
    have e' : b = a := by simpa using e
    exact ⟨m, e' ▸ h⟩
  · rintro ⟨m, h⟩
    exact ⟨_, h, by simp⟩

/-- what a mutable object holds -/
def MRp (K : PySem.W.Frag) (Hv H : Hp) (a : Addr) : M → Prop
  | .lst ds => ∃ vs, H a = some (.lst vs) ∧ RpL K Hv vs ds
  | .ins C ns ds => ∃ dx fv, H a = some (.ins C dx fv) ∧ fv.map (·.1) = ns ∧ RpL K Hv (fv.map (·.2)) ds
  | .dk kvs => ∃ kv : List (Key × V), H a = some (.dK kv) ∧ kv.map (·.1) = kvs.map (·.1) ∧ RpL K Hv (kv.map (·.2)) (kvs.map (·.2))
theorem MRp.some {K : PySem.W.Frag} {Hv H : Hp} {a : Addr} : ∀ {m : M}, MRp K Hv H a m → ∃ o, H a = Option.some o
  | .lst _, ⟨_, h, _⟩ => ⟨_, h⟩
  | .ins _ _ _, ⟨_, _, h, _⟩ => ⟨_, h⟩
  | .dk _, ⟨_, h, _⟩ => ⟨_, h⟩
theorem MRp.mono {K : PySem.W.Frag} {Hv Hv' H H' : Hp} {a : Addr} (e : Same Hv Hv') (eh : ∀ o, H a = Option.some o → H' a = Option.some o) : ∀ {m : M}, MRp K Hv H a m → MRp K Hv' H' a m
  | .lst _, ⟨vs, h, r⟩ => ⟨vs, eh _ h, r.mono e⟩
  | .ins _ _ _, ⟨dx, fv, h, n, r⟩ => ⟨dx, fv, eh _ h, n, r.mono e⟩
  | .dk _, ⟨kv, h, n, r⟩ => ⟨kv, eh _ h, n, r.mono e⟩

/-- the ground of a def's run: the frame's objects (hidden), the heap at entry that has to stand, what is wanted of an error, the frame's mutables that may be read -/
structure Gd where
  F : Addr → Bool
  Hb : Hp
  E : XK
  L : Om
  ok : ∀ a, F a = true → ∃ o, Hb a = some o
  lF : ∀ a m, (a, m) ∈ L → F a = true

structure MOk (K : PySem.W.Frag) (B : Gd) (O : Om) (H : Hp) : Prop where
  base : ∀ a o, B.Hb a = some o → H a = some o ∧ has O a = false
  mem : ∀ a m, (a, m) ∈ O → MRp K (vis B.F O H) H a m
  nd : (O.map (·.1)).Nodup
  lent : ∀ a m, (a, m) ∈ B.L → MRp K (vis B.F O H) H a m
def EnvR (K : PySem.W.Frag) (Hv : Hp) (σ : L2.St) (ρ : List (Option D)) : Prop := σ.length = ρ.length ∧ ∀ (i : Nat) (d : D), ρ[i]? = some (some d) → ∃ v, σ[i]? = some (some v) ∧ Rp K Hv v d
structure StOk (K : PySem.W.Frag) (B : Gd) (ρ : List (Option D)) (O : Om) (σ : L2.St) (H : Hp) : Prop where
  m : MOk K B O H
  env : EnvR K (vis B.F O H) σ ρ
section
variable {K : PySem.W.Frag} {B : Gd} {ρ : List (Option D)} {O : Om} {σ : L2.St} {H H' : Hp}
theorem MOk.same (h : MOk K B O H) (e : Same H H') : MOk K B O H' :=
  ⟨fun a o q => ⟨e _ _ (h.base a o q).1, (h.base a o q).2⟩, fun a m q => (h.mem a m q).mono (vis_same e) (fun o q => e _ _ q), h.nd, fun a m q => (h.lent a m q).mono (vis_same e) (fun o q => e _ _ q)⟩
theorem EnvR.mono {Hv Hv' : Hp} (h : EnvR K Hv σ ρ) (e : Same Hv Hv') : EnvR K Hv' σ ρ := ⟨h.1, fun i d q => let ⟨v, a, b⟩ := h.2 i d q; ⟨v, a, b.mono e⟩⟩
theorem StOk.same (h : StOk K B ρ O σ H) (e : Same H H') : StOk K B ρ O σ H' := ⟨h.m.same e, h.env.mono (vis_same e)⟩
/-- a new address is neither the frame's nor a mutable's -/
theorem MOk.newF (h : MOk K B O H) {p : Addr} (hp : H p = none) : B.F p = false := by
  cases q : B.F p with
  | false => rfl
  | true =>
    obtain ⟨o, e⟩ := B.ok p q
    have := (h.base p o e).1
    rw [hp] at this; cases this
theorem MOk.newO (h : MOk K B O H) {p : Addr} (hp : H p = none) : has O p = false := by
  cases q : has O p with
  | false => rfl
  | true =>
    obtain ⟨m, e⟩ := has_mem.mp q
    obtain ⟨o, e'⟩ := (h.mem p m e).some
    rw [hp] at e'; cases e'
theorem same_new {p : Addr} {o : HO} (hp : H p = none) : Same H (upd H p o) := fun a u e => by
  rw [upd_ne (ne_of_none e hp)]; exact e
theorem MOk.visNew (h : MOk K B O H) {p : Addr} {o : HO} (hp : H p = none) : vis B.F O (upd H p o) p = some o := vis_some.mpr ⟨h.newF hp, h.newO hp, upd_same⟩
/-- a slot is set -/
theorem EnvR.set {Hv : Hp} (h : EnvR K Hv σ ρ) {i : Nat} {v : V} {d : D} (r : Rp K Hv v d) : EnvR K Hv (σ.set i (some v)) (ρ.set i (some d)) := by
  refine ⟨by simp [h.1], fun j d' e => ?_⟩
  by_cases hj : i = j
  · subst hj
    have hl : i < ρ.length := by
      have := (List.getElem?_eq_some_iff.mp e).1
      simpa using this
    rw [List.getElem?_set_self hl] at e
    cases e
    exact ⟨v, by rw [List.getElem?_set_self (by rw [h.1]; exact hl)], r⟩
  · rw [List.getElem?_set_ne hj] at e
    obtain ⟨v', a, b⟩ := h.2 j d' e
    exact ⟨v', by rw [List.getElem?_set_ne hj]; exact a, b⟩
theorem StOk.set (h : StOk K B ρ O σ H) {i : Nat} {v : V} {d : D} (r : Rp K (vis B.F O H) v d) : StOk K B (ρ.set i (some d)) O (σ.set i (some v)) H := ⟨h.m, h.env.set r⟩
/-- slots forgotten -/
def Wk (ρ ρ' : List (Option D)) : Prop := ρ.length = ρ'.length ∧ ∀ (i : Nat) (d : D), ρ[i]? = some (some d) → ρ'[i]? = some (some d)
theorem StOk.weak {ρ' : List (Option D)} (h : StOk K B ρ' O σ H) (w : Wk ρ ρ') : StOk K B ρ O σ H := ⟨h.m, h.env.1.trans w.1.symm, fun i d e => h.env.2 i d (w.2 i d e)⟩
end

/-! ### judgements -/
def tD (K : PySem.W.Frag) (B : Gd) (ρ : List (Option D)) (O : Om) (d : D) : TE := fun σ H Q => StOk K B ρ O σ H ∧ ∀ v H', Same H H' → Rp K (vis B.F O H') v d → Q v H'
/-- a new list | tuple, nobody else's -/
def tN (K : PySem.W.Frag) (B : Gd) (ρ : List (Option D)) (O : Om) (ds : List D) : TE := fun σ H Q => StOk K B ρ O σ H ∧
  ∀ p H' vs, H p = none → Same H H' → H' p = some (.lst vs) → RpL K (vis B.F ((p, .lst ds) :: O) H') vs ds → Q (.ref p) H'
def tT (K : PySem.W.Frag) (B : Gd) (ρ : List (Option D)) (O : Om) (b : Bool) : TT := fun σ H Q => StOk K B ρ O σ H ∧ ∀ H', Same H H' → Q b H'
def tA (K : PySem.W.Frag) (B : Gd) (ρ : List (Option D)) (O : Om) (ds : List D) : TA := fun σ H Q => StOk K B ρ O σ H ∧ ∀ vs H', Same H H' → RpL K (vis B.F O H') vs ds → Q vs H'
abbrev EV (X : Cx) (B : Gd) (ρ : List (Option D)) (O : Om) (e : Expr) (d : D) : Prop := PE X e (tD X.K B ρ O d)
abbrev EN (X : Cx) (B : Gd) (ρ : List (Option D)) (O : Om) (e : Expr) (ds : List D) : Prop := PE X e (tN X.K B ρ O ds)
abbrev ET (X : Cx) (B : Gd) (ρ : List (Option D)) (O : Om) (e : Expr) (b : Bool) : Prop := PT X e (tT X.K B ρ O b)
abbrev EW (X : Cx) (B : Gd) (ρ : List (Option D)) (O : Om) (e : Expr) (b : Bool) : Prop := PW X e (tT X.K B ρ O b)
abbrev EA (X : Cx) (B : Gd) (ρ : List (Option D)) (O : Om) (es : List Expr) (ds : List D) : Prop := PA X es (tA X.K B ρ O ds)
theorem pe_imp {X : Cx} {e : Expr} {t t' : TE} (h : PE X e t) (w : ∀ σ H Q, t' σ H Q → t σ H Q) : PE X e t' := ⟨fun pins s σ H Q I q => h.run pins s σ H Q I (w σ H Q q)⟩
theorem pt_imp {X : Cx} {e : Expr} {t t' : TT} (h : PT X e t) (w : ∀ σ H Q, t' σ H Q → t σ H Q) : PT X e t' := ⟨fun pins s σ H Q I q => h.run pins s σ H Q I (w σ H Q q)⟩
theorem pw_imp {X : Cx} {e : Expr} {t t' : TT} (h : PW X e t) (w : ∀ σ H Q, t' σ H Q → t σ H Q) : PW X e t' := ⟨fun wh pins s σ H Q I q => h.run wh pins s σ H Q I (w σ H Q q)⟩
theorem pa_imp {X : Cx} {es : List Expr} {t t' : TA} (h : PA X es t) (w : ∀ σ H Q, t' σ H Q → t σ H Q) : PA X es t' := ⟨fun p pins s σ H Q I q => h.run p pins s σ H Q I (w σ H Q q)⟩
theorem ps_imp {X : Cx} {st : Stmt} {t t' : TS} (h : PS X st t) (w : ∀ Dn σ H, t' Dn σ H → t Dn σ H) : PS X st t' := ⟨fun pins s σ H Dn I q => h.run pins s σ H Dn I (w Dn σ H q)⟩
theorem pss_imp {X : Cx} {st : List Stmt} {t t' : TS} (h : PSs X st t) (w : ∀ Dn σ H, t' Dn σ H → t Dn σ H) : PSs X st t' := ⟨fun pins s σ H Dn I q => h.run pins s σ H Dn I (w Dn σ H q)⟩

section
variable {X : Cx} {B : Gd} {ρ : List (Option D)} {O : Om} {a b c e : Expr} {es : List Expr} {d d1 d2 d3 : D} {ds : List D} {pos : Pos} {b1 b2 : Bool}
/-! ### names, constants -/
theorem ev_name {i : Nat} {x : Str} (hN : X.N[i]? = some x) (hv : Vis X.env.scope x) (hd : ρ[i]? = some (some d)) (h1 : (x == ("__debug__" : Str)) = false) (h2 : (x == ("__classdict__" : Str)) = false) : EV X B ρ O (.Name x pos) d :=
  pe_imp (pe_var hN hv h1 h2) fun σ H Q ⟨st, k⟩ => by
    obtain ⟨v, e, r⟩ := st.env.2 i d hd
    exact ⟨v, e, k v H (Same.refl H) r⟩
theorem ev_const {v : V} (h : PE X e (tC v)) (r : ∀ K H, Rp K H v d) : EV X B ρ O e d := pe_imp h fun σ H Q ⟨st, k⟩ => k v H (Same.refl H) (r _ _)
theorem ev_int {i : Int} {j} : EV X B ρ O (.Constant (.int i) j pos) (.int i) := ev_const pe_int fun _ _ => .int i
theorem ev_str {i : Str} {j} : EV X B ρ O (.Constant (.str i) j pos) (.str i) := ev_const pe_str fun _ _ => .str i
theorem ev_bl {i : Bool} {j} : EV X B ρ O (.Constant (.bool i) j pos) (.bl i) := ev_const pe_bl fun _ _ => .bl i
theorem ev_non {j} : EV X B ρ O (.Constant .none j pos) .non := ev_const pe_non fun _ _ => .non
/-- a written thing of the module -/
theorem ev_glob {x : Str} {v : V} {u : Value} (hg : Gl X x) (hm : X.mg x = some u) (r : RelV v u) (rp : ∀ H, Rp X.K H v d) (hd : (x == ("__debug__" : Str)) = false := by decide) : EV X B ρ O (.Name x pos) d :=
  pe_imp (pe_glob hg hm r hd) fun σ H Q ⟨st, k⟩ => k v H (Same.refl H) (rp _)

/-! ### two operands -/
def RD (K : PySem.W.Frag) (B : Gd) (O : Om) (r : R2) (d1 d2 d : D) : Prop :=
  ∀ (x y : V) (H : Hp) (Q : VK), MOk K B O H → Rp K (vis B.F O H) x d1 → Rp K (vis B.F O H) y d2 → (∀ v H', Same H H' → Rp K (vis B.F O H') v d → Q v H') → r x y H Q
theorem two {r : R2} (hr : RD X.K B O r d1 d2 d) (σ : L2.St) (H : Hp) (Q : VK) (h : tD X.K B ρ O d σ H Q) : tOp r (tD X.K B ρ O d1) (tD X.K B ρ O d2) σ H Q := by
  obtain ⟨st, k⟩ := h
  refine ⟨st, fun x H1 e1 r1 => ⟨st.same e1, fun y H2 e2 r2 => ?_⟩⟩
  exact hr x y H2 Q ((st.same e1).same e2).m (r1.mono (vis_same e2)) r2 fun v H' e3 r3 => k v H' ((e1.trans e2).trans e3) r3
theorem ev_op {op : Operator} {r : R2} (ho : OpR X (binaryOp op) r) (hr : RD X.K B O r d1 d2 d) (ha : EV X B ρ O a d1) (hb : EV X B ρ O b d2) : EV X B ρ O (.BinOp a op b pos) d := pe_imp (pe_op ho ha hb) (two hr)
theorem ev_cmp {op : CmpOp} {r : R2} (ho : OpR X (compareOp op) r) (hr : RD X.K B O r d1 d2 d) (ha : EV X B ρ O a d1) (hb : EV X B ρ O b d2) (hm : behindInMarks op b = false) : EV X B ρ O (.Compare a [op] [b] pos) d := pe_imp (pe_cmpR ho ha hb hm) (two hr)
theorem et_of (h : EV X B ρ O e (.bl b1)) (he : ∀ whole, isTrue e X.env whole = (do let v ← whole; standAt e.pos; holding [v] (truthy v)) := by intro _; rfl) : ET X B ρ O e b1 :=
  pt_imp (pt_val h he) fun σ H Q ⟨st, k⟩ => ⟨st, fun v H1 e1 r1 => by cases r1; exact ⟨b1, rfl, k H1 e1⟩⟩
theorem et_cmp {op : CmpOp} {r : R2} (ho : OpR X (compareOp op) r) (hr : RD X.K B O r d1 d2 (.bl b1)) (ha : EV X B ρ O a d1) (hb : EV X B ρ O b d2) (hm : behindInMarks op b = false) : ET X B ρ O (.Compare a [op] [b] pos) b1 :=
  pt_imp (pt_cmpR ho ha hb hm) fun σ H Q ⟨st, k⟩ => two (ρ := ρ) hr σ H _ ⟨st, fun v H1 e1 r1 => by cases r1; exact ⟨b1, rfl, k H1 e1⟩⟩
theorem rd_I0 {g : Int → Int → Int} {i j : Int} {K : PySem.W.Frag} : RD K B O (rI0 fun i j => .int (g i j)) (.int i) (.int j) (.int (g i j)) := fun x y H Q m r1 r2 k => by
  cases r1; cases r2; exact ⟨i, j, rfl, rfl, k _ H (Same.refl H) (.int _)⟩
theorem rd_B0 {g : Int → Int → Bool} {i j : Int} {K : PySem.W.Frag} : RD K B O (rI0 fun i j => .bl (g i j)) (.int i) (.int j) (.bl (g i j)) := fun x y H Q m r1 r2 k => by
  cases r1; cases r2; exact ⟨i, j, rfl, rfl, k _ H (Same.refl H) (.bl _)⟩
theorem rd_I {C : Int → Int → Prop} {g : Int → Int → Int} {i j : Int} {K : PySem.W.Frag} (hc : C i j) : RD K B O (rI C fun i j => .int (g i j)) (.int i) (.int j) (.int (g i j)) := fun x y H Q m r1 r2 k => by
  cases r1; cases r2; exact ⟨i, j, rfl, rfl, hc, k _ H (Same.refl H) (.int _)⟩
/-- == of scalars of one kind -/
def scalD : D → V
  | .non => .non | .bl b => .bl b | .int i => .int i | .str s => .str s | .ty n => .ty n | .rf a => .ref a | _ => .flt 0
def isScal : D → Bool
  | .non | .bl _ | .int _ | .str _ | .ty _ | .rf _ => true
  | _ => false
theorem rp_scal {K : PySem.W.Frag} {H : Hp} {v : V} (h : Rp K H v d) (hs : isScal d = true) : v = scalD d := by
  cases h <;> first | rfl | cases hs
theorem rd_eq {K : PySem.W.Frag} (h1 : isScal d1 = true) (h2 : isScal d2 = true) (hs : scal (scalD d1) (scalD d2) = true) : RD K B O rEq d1 d2 (.bl (decide (scalD d1 = scalD d2))) := fun x y H Q m r1 r2 k => by
  rw [rp_scal r1 h1, rp_scal r2 h2]
  exact ⟨hs, k _ H (Same.refl H) (.bl _)⟩
theorem rd_ne {K : PySem.W.Frag} (h1 : isScal d1 = true) (h2 : isScal d2 = true) (hs : scal (scalD d1) (scalD d2) = true) : RD K B O rNe d1 d2 (.bl (!decide (scalD d1 = scalD d2))) := fun x y H Q m r1 r2 k => by
  rw [rp_scal r1 h1, rp_scal r2 h2]
  exact ⟨hs, k _ H (Same.refl H) (.bl _)⟩
theorem rd_imp {K : PySem.W.Frag} {r : R2} {d d' : D} (h : RD K B O r d1 d2 d) (e : d = d') : RD K B O r d1 d2 d' := e ▸ h
theorem rd_eqI {K : PySem.W.Frag} {i j : Int} : RD K B O rEq (.int i) (.int j) (.bl (decide (i = j))) := rd_imp (rd_eq rfl rfl rfl) (by simp [scalD])
theorem rd_neI {K : PySem.W.Frag} {i j : Int} : RD K B O rNe (.int i) (.int j) (.bl (!decide (i = j))) := rd_imp (rd_ne rfl rfl rfl) (by simp [scalD])
theorem rd_eqS {K : PySem.W.Frag} {i j : Str} : RD K B O rEq (.str i) (.str j) (.bl (decide (i = j))) := rd_imp (rd_eq rfl rfl rfl) (by simp [scalD])
theorem rd_neS {K : PySem.W.Frag} {i j : Str} : RD K B O rNe (.str i) (.str j) (.bl (!decide (i = j))) := rd_imp (rd_ne rfl rfl rfl) (by simp [scalD])
theorem rd_eqB {K : PySem.W.Frag} {i j : Bool} : RD K B O rEq (.bl i) (.bl j) (.bl (decide (i = j))) := rd_imp (rd_eq rfl rfl rfl) (by simp [scalD])
theorem rd_neB {K : PySem.W.Frag} {i j : Bool} : RD K B O rNe (.bl i) (.bl j) (.bl (!decide (i = j))) := rd_imp (rd_ne rfl rfl rfl) (by simp [scalD])
theorem rd_addS {K : PySem.W.Frag} {i j : Str} (hz : i.length + j.length ≤ sizeLine) : RD K B O (fun x y H Q => ∃ i j, x = .str i ∧ y = .str j ∧ i.length + j.length ≤ sizeLine ∧ Q (.str (i ++ j)) H) (.str i) (.str j) (.str (i ++ j)) := fun x y H Q m r1 r2 k => by
  cases r1; cases r2; exact ⟨i, j, rfl, rfl, hz, k _ H (Same.refl H) (.str _)⟩
theorem ev_neg {i : Int} (ha : EV X B ρ O a (.int i)) : EV X B ρ O (.UnaryOp .USub a pos) (.int (-i)) := pe_imp (pe_un un_neg ha) fun σ H Q ⟨st, k⟩ => ⟨st, fun v H1 e1 r1 => by cases r1; exact ⟨i, rfl, k _ H1 e1 (.int _)⟩⟩

/-! ### and, or, not, if -/
theorem et_not (h : ET X B ρ O a b1) : ET X B ρ O (.UnaryOp .Not a pos) (!b1) := pt_imp (pt_not h) fun σ H Q ⟨st, k⟩ => ⟨st, fun H1 e1 => k H1 e1⟩
theorem ev_not (h : EV X B ρ O a (.bl b1)) : EV X B ρ O (.UnaryOp .Not a pos) (.bl (!b1)) := pe_imp (pe_not h) fun σ H Q ⟨st, k⟩ => ⟨st, fun v H1 e1 r1 => by cases r1; exact ⟨b1, rfl, k _ H1 e1 (.bl _)⟩⟩
theorem ew_and1 (h : ET X B ρ O a b1) : EW X B ρ O (.BoolOp .And [a] pos) b1 := pw_and1 h
theorem ew_or1 (h : ET X B ρ O a b1) : EW X B ρ O (.BoolOp .Or [a] pos) b1 := pw_or1 h
theorem ew_and (h1 : ET X B ρ O a b1) (h2 : b1 = true → EW X B ρ O (.BoolOp .And (b :: es) pos) b2) : EW X B ρ O (.BoolOp .And (a :: b :: es) pos) (b1 && b2) := by
  cases b1 with
  | true => exact pw_imp (pw_and h1 (h2 rfl)) fun σ H Q ⟨st, k⟩ => ⟨st, fun H1 e1 => iteT ⟨st.same e1, fun H2 e2 => k H2 (e1.trans e2)⟩⟩
  | false => exact pw_imp (pw_and h1 (tB' := fun _ _ _ => False) ⟨fun _ _ _ _ _ _ _ h => h.elim⟩) fun σ H Q ⟨st, k⟩ => ⟨st, fun H1 e1 => iteF (k H1 e1)⟩
theorem ew_or (h1 : ET X B ρ O a b1) (h2 : b1 = false → EW X B ρ O (.BoolOp .Or (b :: es) pos) b2) : EW X B ρ O (.BoolOp .Or (a :: b :: es) pos) (b1 || b2) := by
  cases b1 with
  | false => exact pw_imp (pw_or h1 (h2 rfl)) fun σ H Q ⟨st, k⟩ => ⟨st, fun H1 e1 => iteF ⟨st.same e1, fun H2 e2 => k H2 (e1.trans e2)⟩⟩
  | true => exact pw_imp (pw_or h1 (tB' := fun _ _ _ => False) ⟨fun _ _ _ _ _ _ _ h => h.elim⟩) fun σ H Q ⟨st, k⟩ => ⟨st, fun H1 e1 => iteT (k H1 e1)⟩
theorem et_w (h : EW X B ρ O e b1) : ET X B ρ O e b1 := PW.pt h
theorem ev_one {op} (h : EV X B ρ O a d) : EV X B ρ O (.BoolOp op [a] pos) d := pe_one h
theorem ev_and (h1 : EV X B ρ O a (.bl b1)) (h2 : b1 = true → EV X B ρ O (.BoolOp .And (b :: es) pos) (.bl b2)) : EV X B ρ O (.BoolOp .And (a :: b :: es) pos) (.bl (b1 && b2)) := by
  cases b1 with
  | true => exact pe_imp (pe_and h1 (h2 rfl)) fun σ H Q ⟨st, k⟩ => ⟨st, fun v H1 e1 r1 => by cases r1; exact ⟨true, rfl, iteT ⟨st.same e1, fun w H2 e2 r2 => k w H2 (e1.trans e2) r2⟩⟩⟩
  | false => exact pe_imp (pe_and h1 (tb := fun _ _ _ => False) ⟨fun _ _ _ _ _ _ h => h.elim⟩) fun σ H Q ⟨st, k⟩ => ⟨st, fun v H1 e1 r1 => by cases r1; exact ⟨false, rfl, iteF (k _ H1 e1 (.bl _))⟩⟩
theorem ev_or (h1 : EV X B ρ O a (.bl b1)) (h2 : b1 = false → EV X B ρ O (.BoolOp .Or (b :: es) pos) (.bl b2)) : EV X B ρ O (.BoolOp .Or (a :: b :: es) pos) (.bl (b1 || b2)) := by
  cases b1 with
  | false => exact pe_imp (pe_or h1 (h2 rfl)) fun σ H Q ⟨st, k⟩ => ⟨st, fun v H1 e1 r1 => by cases r1; exact ⟨false, rfl, iteF ⟨st.same e1, fun w H2 e2 r2 => k w H2 (e1.trans e2) r2⟩⟩⟩
  | true => exact pe_imp (pe_or h1 (tb := fun _ _ _ => False) ⟨fun _ _ _ _ _ _ h => h.elim⟩) fun σ H Q ⟨st, k⟩ => ⟨st, fun v H1 e1 r1 => by cases r1; exact ⟨true, rfl, iteT (k _ H1 e1 (.bl _))⟩⟩
theorem ev_if (hc : ET X B ρ O c b1) (ha : b1 = true → EV X B ρ O a d) (hb : b1 = false → EV X B ρ O b d) : EV X B ρ O (.IfExp c a b pos) d := by
  cases b1 with
  | true => exact pe_imp (pe_ifExp hc (ha rfl) (tb := fun _ _ _ => False) ⟨fun _ _ _ _ _ _ h => h.elim⟩) fun σ H Q ⟨st, k⟩ => ⟨st, fun H1 e1 => iteT ⟨st.same e1, fun w H2 e2 r2 => k w H2 (e1.trans e2) r2⟩⟩
  | false => exact pe_imp (pe_ifExp hc (ta := fun _ _ _ => False) ⟨fun _ _ _ _ _ _ h => h.elim⟩ (hb rfl)) fun σ H Q ⟨st, k⟩ => ⟨st, fun H1 e1 => iteF ⟨st.same e1, fun w H2 e2 r2 => k w H2 (e1.trans e2) r2⟩⟩

/-! ### arguments, displays -/
theorem ea_nil : EA X B ρ O [] [] := pa_imp pa_nil fun σ H Q ⟨st, k⟩ => k [] H (Same.refl H) .nil
theorem ea_cons (ha : EV X B ρ O e d) (hr : EA X B ρ O es ds) (hs : starEach (e :: es) X.env = (false, eval e X.env) :: starEach es X.env := by rfl) : EA X B ρ O (e :: es) (d :: ds) :=
  pa_imp (pa_cons ha hr hs) fun σ H Q ⟨st, k⟩ => ⟨st, fun v H1 e1 r1 => ⟨st.same e1, fun vs H2 e2 r2 => k (v :: vs) H2 (e1.trans e2) (.cons (r1.mono (vis_same e2)) r2)⟩⟩
theorem ev_tup {x1} (h : EA X B ρ O es ds) (hz : ds.length ≤ sizeLine) : EV X B ρ O (.Tuple es x1 pos) (.tup ds) :=
  pe_imp (pe_tup h) fun σ H Q ⟨st, k⟩ => ⟨st, fun vs H1 e1 r1 => ⟨by rw [r1.length]; exact hz, fun p hp =>
    k (.ref p) _ (e1.trans (same_new hp)) (.tup (.inl (.inl ((st.same e1).m.visNew hp))) (r1.mono (vis_same (same_new hp))))⟩⟩
/-- a new list's place: nobody's yet -/
theorem new_vis {K : PySem.W.Frag} {H : Hp} (m : MOk K B O H) {p : Addr} {o : HO} (hp : H p = none) {vs : List V} (r : RpL K (vis B.F O H) vs ds) (mm : M) : RpL K (vis B.F ((p, mm) :: O) (upd H p o)) vs ds := r.mono fun a u h => by
  obtain ⟨h1, h2, h3⟩ := vis_some.mp h
  have ne : a ≠ p := ne_of_none h3 hp
  exact vis_some.mpr ⟨h1, by rw [has_cons, h2, Bool.or_false]; exact beq_eq_false_iff_ne.mpr (Ne.symm ne), by rw [upd_ne ne]; exact h3⟩
theorem en_lst (h : EA X B ρ O es ds) (hz : ds.length ≤ sizeLine) : EN X B ρ O (.List es pos) ds :=
  pe_imp (pe_lst h) fun σ H Q ⟨st, k⟩ => ⟨st, fun vs H1 e1 r1 => ⟨by rw [r1.length]; exact hz, fun p hp =>
    k p _ vs (e1.free hp) (e1.trans (same_new hp)) upd_same (new_vis (st.same e1).m hp r1 _)⟩⟩
/-- a new list as a value that stays -/
theorem ev_new (h : EN X B ρ O e ds) : EV X B ρ O e (.lst ds) := pe_imp h fun σ H Q ⟨st, k⟩ => ⟨st, fun p H' vs hp e1 hv r => by
  have fp := st.m.newF hp
  have op := st.m.newO hp
  refine k _ H' e1 (.lst (.inl (.inl (vis_some.mpr ⟨fp, op, hv⟩))) (r.mono fun a o h => ?_))
  obtain ⟨h1, h2, h3⟩ := vis_some.mp h
  rw [has_cons, Bool.or_eq_false_iff] at h2
  exact vis_some.mpr ⟨h1, h2.2, h3⟩⟩
theorem ev_lst (h : EA X B ρ O es ds) (hz : ds.length ≤ sizeLine) : EV X B ρ O (.List es pos) (.lst ds) := ev_new (en_lst h hz)
end
end DL

set_option Elab.async false
set_option linter.all false
set_option maxRecDepth 100000
set_option maxHeartbeats 2000000
namespace DL
open PySem PySem.Spec PyProof.Rows L2

/-! ### statements -/
structure AE where
  nx : List (Option D) → Om → Prop
  rt : D → Om → Prop
  bk : List (Option D) → Om → Prop := fun _ _ => False
  ct : List (Option D) → Om → Prop := fun _ _ => False
structure Post (K : PySem.W.Frag) (B : Gd) (A : AE) (Dn : Ends) (Hv : Hp) : Prop where
  nx : ∀ ρ O σ H, A.nx ρ O → StOk K B ρ O σ H → Same Hv (vis B.F O H) → Dn.nx σ H
  rt : ∀ d O v H, A.rt d O → MOk K B O H → Rp K (vis B.F O H) v d → Dn.rt v H
  bk : ∀ ρ O σ H, A.bk ρ O → StOk K B ρ O σ H → Same Hv (vis B.F O H) → Dn.bk σ H
  ct : ∀ ρ O σ H, A.ct ρ O → StOk K B ρ O σ H → Same Hv (vis B.F O H) → Dn.ct σ H
theorem Post.grow {K : PySem.W.Frag} {B : Gd} {A : AE} {Dn : Ends} {Hv Hv' : Hp} (p : Post K B A Dn Hv) (e : Same Hv Hv') : Post K B A Dn Hv' :=
  ⟨fun ρ O σ H a s q => p.nx ρ O σ H a s (e.trans q), p.rt, fun ρ O σ H a s q => p.bk ρ O σ H a s (e.trans q), fun ρ O σ H a s q => p.ct ρ O σ H a s (e.trans q)⟩
def tW (K : PySem.W.Frag) (B : Gd) (ρ : List (Option D)) (O : Om) (A : AE) : TS := fun Dn σ H => StOk K B ρ O σ H ∧ Post K B A Dn (vis B.F O H)
abbrev J (X : Cx) (B : Gd) (ss : List Stmt) (ρ : List (Option D)) (O : Om) (A : AE) : Prop := PSs X ss (tW X.K B ρ O A)
abbrev J1 (X : Cx) (B : Gd) (st : Stmt) (ρ : List (Option D)) (O : Om) (A : AE) : Prop := PS X st (tW X.K B ρ O A)

/-- effects: an expression that changes what is held -/
def tG (K : PySem.W.Frag) (B : Gd) (ρ : List (Option D)) (O : Om) (d : D) (O' : Om) : TE := fun σ H Q => StOk K B ρ O σ H ∧ ∀ v H', StOk K B ρ O' σ H' → Same (vis B.F O H) (vis B.F O' H') → Rp K (vis B.F O' H') v d → Q v H'
def tGA (K : PySem.W.Frag) (B : Gd) (ρ : List (Option D)) (O : Om) (ds : List D) (O' : Om) : TA := fun σ H Q => StOk K B ρ O σ H ∧ ∀ vs H', StOk K B ρ O' σ H' → Same (vis B.F O H) (vis B.F O' H') → RpL K (vis B.F O' H') vs ds → Q vs H'
abbrev EG (X : Cx) (B : Gd) (ρ : List (Option D)) (O : Om) (e : Expr) (d : D) (O' : Om) : Prop := PE X e (tG X.K B ρ O d O')
abbrev EGA (X : Cx) (B : Gd) (ρ : List (Option D)) (O : Om) (es : List Expr) (ds : List D) (O' : Om) : Prop := PA X es (tGA X.K B ρ O ds O')

section
variable {X : Cx} {B : Gd} {ρ ρ' : List (Option D)} {O O' O1 O2 : Om} {A : AE} {a b c e : Expr} {es : List Expr} {d d1 d2 d3 : D} {ds : List D} {pos pos' : Pos} {b1 b2 : Bool} {st : Stmt} {ss rest : List Stmt}
theorem eg_of (h : EV X B ρ O e d) : EG X B ρ O e d O := pe_imp h fun σ H Q ⟨st, k⟩ => ⟨st, fun v H1 e1 r1 => k v H1 (st.same e1) (vis_same e1) r1⟩
theorem ega_of (h : EA X B ρ O es ds) : EGA X B ρ O es ds O := pa_imp h fun σ H Q ⟨st, k⟩ => ⟨st, fun v H1 e1 r1 => k v H1 (st.same e1) (vis_same e1) r1⟩
theorem ega_nil : EGA X B ρ O [] [] O := ega_of ea_nil
theorem ega_cons (ha : EG X B ρ O e d O1) (hr : EGA X B ρ O1 es ds O2) (hs : starEach (e :: es) X.env = (false, eval e X.env) :: starEach es X.env := by rfl) : EGA X B ρ O (e :: es) (d :: ds) O2 :=
  pa_imp (pa_cons ha hr hs) fun σ H Q ⟨st, k⟩ => ⟨st, fun v H1 s1 e1 r1 => ⟨s1, fun vs H2 s2 e2 r2 => k (v :: vs) H2 s2 (e1.trans e2) (.cons (r1.mono e2) r2)⟩⟩

theorem j_nil (h : A.nx ρ O) : J X B [] ρ O A := pss_imp pss_nil fun Dn σ H ⟨st, p⟩ => p.nx ρ O σ H h st (Same.refl _)
theorem j_cons (h : J1 X B st ρ O { A with nx := fun ρ' O' => J X B rest ρ' O' A }) : J X B (st :: rest) ρ O A := by
  have h2 : PSs X rest (fun Dn σ H => ∃ ρ' O', J X B rest ρ' O' A ∧ StOk X.K B ρ' O' σ H ∧ Post X.K B A Dn (vis B.F O' H)) :=
    ⟨fun pins s σ H Dn I ⟨ρ', O', q, s', p⟩ => q.run pins s σ H Dn I ⟨s', p⟩⟩
  refine pss_imp (pss_cons h h2) fun Dn σ H ⟨st, p⟩ => ⟨st, ?_⟩
  exact ⟨fun ρ' O' σ' H' q s' e => ⟨ρ', O', q, s', p.grow e⟩, p.rt, p.bk, p.ct⟩
/-- a block within a block -/
theorem j_imp {A' : AE} (h : J X B ss ρ O A) (hn : ∀ ρ O, A.nx ρ O → A'.nx ρ O) (hr : ∀ d O, A.rt d O → A'.rt d O) (hb : ∀ ρ O, A.bk ρ O → A'.bk ρ O) (hc : ∀ ρ O, A.ct ρ O → A'.ct ρ O) : J X B ss ρ O A' :=
  pss_imp h fun Dn σ H ⟨st, p⟩ => ⟨st, fun ρ O σ H q => p.nx ρ O σ H (hn _ _ q), fun d O v H q => p.rt d O v H (hr _ _ q), fun ρ O σ H q => p.bk ρ O σ H (hb _ _ q), fun ρ O σ H q => p.ct ρ O σ H (hc _ _ q)⟩
theorem j_pass (h : A.nx ρ O) : J1 X B (.Pass pos) ρ O A := ps_imp ps_pass fun Dn σ H ⟨st, p⟩ => p.nx ρ O σ H h st (Same.refl _)
theorem j_break (h : A.bk ρ O) : J1 X B (.Break pos) ρ O A := ps_imp ps_break fun Dn σ H ⟨st, p⟩ => p.bk ρ O σ H h st (Same.refl _)
theorem j_continue (h : A.ct ρ O) : J1 X B (.Continue pos) ρ O A := ps_imp ps_continue fun Dn σ H ⟨st, p⟩ => p.ct ρ O σ H h st (Same.refl _)
theorem j_set {i : Nat} {x : Str} (hN : X.N.Nodup) (hi : X.N[i]? = some x) (hx : Loc X.env.scope x) (he : EV X B ρ O e d) (hs : swapsWith e (some (.Name x pos')) pos.line X.env = pure false) (hf : X.fn x = true ∨ X.env.scope.names.lookup x = some .local)
    (h : A.nx (ρ.set i (some d)) O) : J1 X B (.Assign [.Name x pos'] e pos) ρ O A :=
  ps_imp (ps_set hN hi hx he hs hf) fun Dn σ H ⟨st, p⟩ => ⟨st, fun v H1 e1 r1 => p.nx _ O _ H1 h ((st.same e1).set r1) (vis_same e1)⟩
theorem j_setG {i : Nat} {x : Str} (hN : X.N.Nodup) (hi : X.N[i]? = some x) (hx : Loc X.env.scope x) (he : EG X B ρ O e d O') (hs : swapsWith e (some (.Name x pos')) pos.line X.env = pure false) (hf : X.fn x = true ∨ X.env.scope.names.lookup x = some .local)
    (h : A.nx (ρ.set i (some d)) O') : J1 X B (.Assign [.Name x pos'] e pos) ρ O A :=
  ps_imp (ps_set hN hi hx he hs hf) fun Dn σ H ⟨st, p⟩ => ⟨st, fun v H1 s1 e1 r1 => p.nx _ O' _ H1 h (s1.set r1) e1⟩
/-- x = a new list that will be changed -/
theorem j_setN {i : Nat} {x : Str} (hN : X.N.Nodup) (hi : X.N[i]? = some x) (hx : Loc X.env.scope x) (he : EN X B ρ O e ds) (hs : swapsWith e (some (.Name x pos')) pos.line X.env = pure false) (hf : X.fn x = true ∨ X.env.scope.names.lookup x = some .local)
    (h : ∀ p, has O p = false → A.nx (ρ.set i (some (.rf p))) ((p, .lst ds) :: O)) : J1 X B (.Assign [.Name x pos'] e pos) ρ O A :=
  ps_imp (ps_set hN hi hx he hs hf) fun Dn σ H ⟨st, p⟩ => ⟨st, fun q H1 vs hp e1 hv r => by
    have op := st.m.newO hp
    have vs1 : Same (vis B.F O H) (vis B.F ((q, .lst ds) :: O) H1) := fun a o h => by
      obtain ⟨h1, h2, h3⟩ := vis_some.mp h
      have ne : a ≠ q := ne_of_none h3 hp
      exact vis_some.mpr ⟨h1, by rw [has_cons, h2, Bool.or_false]; exact beq_eq_false_iff_ne.mpr (Ne.symm ne), e1 _ _ h3⟩
    refine p.nx _ _ _ H1 (h q op) ⟨⟨fun a o hb => ?_, fun a m hm => ?_, ?_, fun a m hm => (st.m.lent a m hm).mono vs1 fun o q => e1 _ _ q⟩, ?_⟩ vs1
    · have := st.m.base a o hb
      have ne : a ≠ q := ne_of_none this.1 hp
      exact ⟨e1 _ _ this.1, by rw [has_cons, this.2, Bool.or_false]; exact beq_eq_false_iff_ne.mpr (Ne.symm ne)⟩
    · rcases List.mem_cons.mp hm with z | z
      · cases z; exact ⟨vs, hv, r⟩
      · exact (st.m.mem a m z).mono vs1 fun o q => e1 _ _ q
    · rw [List.map_cons, List.nodup_cons]
      refine ⟨fun z => ?_, st.m.nd⟩
      obtain ⟨⟨a, m⟩, hm, ea⟩ := List.mem_map.mp z
      have : has O q = true := has_mem.mpr ⟨m, by have z : a = q := ea; rw [← z]; exact hm⟩
      rw [op] at this; cases this
    · exact (st.env.mono vs1).set (.rf q)⟩
theorem j_expr (he : EG X B ρ O e d O') (h : A.nx ρ O') (hs : swapsWith e none pos.line X.env = pure false := by rfl) : J1 X B (.Expr e pos) ρ O A :=
  ps_imp (ps_expr he hs) fun Dn σ H ⟨st, p⟩ => ⟨st, fun v H1 s1 e1 r1 => p.nx ρ O' σ H1 h s1 e1⟩
theorem j_ret (he : EV X B ρ O e d) (h : A.rt d O) : J1 X B (.Return (some e) pos) ρ O A :=
  ps_imp (ps_ret he) fun Dn σ H ⟨st, p⟩ => ⟨st, fun v H1 e1 r1 => p.rt d O v H1 h (st.same e1).m r1⟩
theorem j_retG (he : EG X B ρ O e d O') (h : A.rt d O') : J1 X B (.Return (some e) pos) ρ O A :=
  ps_imp (ps_ret he) fun Dn σ H ⟨st, p⟩ => ⟨st, fun v H1 s1 e1 r1 => p.rt d O' v H1 h s1.m r1⟩
theorem j_retN (h : A.rt .non O) : J1 X B (.Return none pos) ρ O A :=
  ps_imp ps_retN fun Dn σ H ⟨st, p⟩ => p.rt .non O .non H h st.m .non
/-- a new list handed back -/
def hold (p : Addr) (ds : List D) (O : Om) : Om := (p, .lst ds) :: O
theorem j_if {s1 s2 : List Stmt} (hc : ET X B ρ O c b1) (h1 : b1 = true → J X B s1 ρ O A) (h2 : b1 = false → J X B s2 ρ O A) : J1 X B (.If c s1 s2 pos) ρ O A := by
  cases b1 with
  | true => exact ps_imp (ps_if hc (h1 rfl) (u := fun _ _ _ => False) ⟨fun _ _ _ _ _ _ h => h.elim⟩) fun Dn σ H ⟨st, p⟩ => ⟨st, fun H1 e1 => iteT ⟨st.same e1, p.grow (vis_same e1)⟩⟩
  | false => exact ps_imp (ps_if hc (t := fun _ _ _ => False) ⟨fun _ _ _ _ _ _ h => h.elim⟩ (h2 rfl)) fun Dn σ H ⟨st, p⟩ => ⟨st, fun H1 e1 => iteF ⟨st.same e1, p.grow (vis_same e1)⟩⟩
theorem j_never (h : False) : J1 X B st ρ O A := h.elim

/-! ### a view of a list: one that stays, or a mutable -/
def Vw (O : Om) (d : D) (ds : List D) : Prop := d = .lst ds ∨ ∃ a, d = .rf a ∧ (a, M.lst ds) ∈ O
theorem Vw.sql {K : PySem.W.Frag} {H : Hp} {v : V} (w : Vw (B.L ++ O) d ds) (m : MOk K B O H) (r : Rp K (vis B.F O H) v d) : ∃ a vs, v = .ref a ∧ SqL K H a vs ∧ RpL K (vis B.F O H) vs ds := by
  rcases w with rfl | ⟨a, rfl, h⟩
  · cases r with
    | lst h r => exact ⟨_, _, rfl, vis_le.seq h, r⟩
  · cases r
    obtain ⟨vs, h1, h2⟩ := (List.mem_append.mp h).elim (m.lent _ _) (m.mem _ _)
    exact ⟨_, vs, rfl, .inl (.inl h1), h2⟩
end
end DL

set_option Elab.async false
set_option linter.all false
set_option maxRecDepth 100000
set_option maxHeartbeats 2000000
namespace DL
open PySem PySem.Spec PyProof.Rows L2

/-! ### targets -/
/-- slots outside are as they were -/
def Off (sl : List Nat) (σ σ' : L2.St) : Prop := σ'.length = σ.length ∧ ∀ j, j ∉ sl → σ'[j]? = σ[j]?
theorem Off.refl (sl : List Nat) (σ : L2.St) : Off sl σ σ := ⟨rfl, fun _ _ => rfl⟩
theorem Off.trans {s1 s2 : List Nat} {a b c : L2.St} (h : Off s1 a b) (k : Off s2 b c) : Off (s1 ++ s2) a c :=
  ⟨k.1.trans h.1, fun j hj => (k.2 j fun z => hj (List.mem_append_right _ z)).trans (h.2 j fun z => hj (List.mem_append_left _ z))⟩
theorem Off.wipe {sl vs : List Nat} {σ σ' : L2.St} (h : Off sl σ σ') (hs : ∀ j ∈ sl, j ∈ vs) : L2.wipe σ' vs = L2.wipe σ vs := by
  have at_ : ∀ (σ : L2.St) (vs : List Nat) (i : Nat), (L2.wipe σ vs)[i]? = if i ∈ vs then (σ[i]?).map (fun _ => none) else σ[i]? := by
    intro σ vs i
    induction vs with
    | nil => simp [L2.wipe]
    | cons v vs ih =>
      unfold L2.wipe
      by_cases e : v = i
      · subst e
        by_cases hl : v < (L2.wipe σ vs).length
        · rw [List.getElem?_set_self hl]
          have hl' : v < σ.length := by rw [L2.wipe_length] at hl; exact hl
          simp [hl']
        · have hl' : ¬ v < σ.length := by rw [L2.wipe_length] at hl; exact hl
          rw [List.getElem?_eq_none (by simpa using hl)]
          simp [List.getElem?_eq_none (Nat.le_of_not_lt hl')]
      · rw [List.getElem?_set_ne e, ih]
        have e' : ¬ i = v := fun z => e z.symm
        simp [e']
  apply List.ext_getElem?
  intro i
  rw [at_, at_]
  by_cases hi : i ∈ vs
  · rw [if_pos hi, if_pos hi]
    by_cases hl : i < σ.length
    · have hl' : i < σ'.length := by rw [h.1]; exact hl
      simp [hl, hl']
    · have hl' : ¬ i < σ'.length := by rw [h.1]; exact hl
      simp [hl, hl']
  · rw [if_neg hi, if_neg hi]
    exact h.2 i fun z => hi (hs i z)
/-- what a target does to the slots with a datum -/
structure EB (X : Cx) (tg : Expr) (g : TG) (sl : List Nat) (f : D → List (Option D) → Option (List (Option D))) : Prop where
  pg : PG X tg g
  is : ∀ (B : Gd) (O : Om) (d : D) (ρ ρ' : List (Option D)) (v : V) (σ : L2.St) (H : Hp) (Q : L2.St → Hp → Prop), f d ρ = some ρ' → StOk X.K B ρ O σ H → Rp X.K (vis B.F O H) v d → (∀ σ', StOk X.K B ρ' O σ' H → Off sl σ σ' → Q σ' H) → g v σ H Q
def bName (i : Nat) : D → List (Option D) → Option (List (Option D)) := fun d ρ => some (ρ.set i (some d))
section
variable {X : Cx} {B : Gd} {ρ ρ' : List (Option D)} {O O' O1 O2 : Om} {A : AE} {a b c e : Expr} {es : List Expr} {d d1 d2 d3 : D} {ds : List D} {pos pos' : Pos} {b1 b2 : Bool} {st : Stmt} {ss rest : List Stmt}
theorem eb_name {i : Nat} {x : Str} (hN : X.N.Nodup) (hi : X.N[i]? = some x) (hx : Loc X.env.scope x) (hf : X.fn x = true ∨ X.env.scope.names.lookup x = some .local) : EB X (.Name x pos) (gName i) [i] (bName i) :=
  ⟨pg_name hN hi hx hf, fun B O d ρ ρ' v σ H Q e s r k => by
    cases e
    exact k _ (s.set r) ⟨by simp, fun j hj => List.getElem?_set_ne (fun z => hj (by simp [z]))⟩⟩
/-- several targets -/
structure EBs (X : Cx) (ts : List Expr) (g : TGs) (sl : List Nat) (f : List D → List (Option D) → Option (List (Option D))) : Prop where
  pg : PGs X ts g
  is : ∀ (B : Gd) (O : Om) (ds : List D) (ρ ρ' : List (Option D)) (vs : List V) (σ : L2.St) (H : Hp) (Q : L2.St → Hp → Prop), f ds ρ = some ρ' → StOk X.K B ρ O σ H → RpL X.K (vis B.F O H) vs ds → (∀ σ', StOk X.K B ρ' O σ' H → Off sl σ σ' → Q σ' H) → g vs σ H Q
def bNil : List D → List (Option D) → Option (List (Option D)) := fun ds ρ => match ds with | [] => some ρ | _ => none
def bCons (f : D → List (Option D) → Option (List (Option D))) (g : List D → List (Option D) → Option (List (Option D))) : List D → List (Option D) → Option (List (Option D)) :=
  fun ds ρ => match ds with | [] => none | d :: ds => match f d ρ with | none => none | some ρ' => g ds ρ'
theorem ebs_nil : EBs X [] gNil [] bNil := ⟨pgs_nil, fun B O ds ρ ρ' vs σ H Q e s r k => by
  cases r with
  | nil => cases e; exact ⟨rfl, k _ s (Off.refl _ _)⟩
  | cons _ _ => cases e⟩
theorem ebs_cons {t : TG} {u : TGs} {s1 s2 : List Nat} {f g} (h1 : EB X e t s1 f) (h2 : EBs X es u s2 g) (hs : (assignEach (e :: es) X.env).map (·.2) = assign e X.env :: (assignEach es X.env).map (·.2) := by rfl) : EBs X (e :: es) (gCons t u) (s1 ++ s2) (bCons f g) :=
  ⟨pgs_cons h1.pg h2.pg hs, fun B O ds ρ ρ' vs σ H Q e s r k => by
    cases r with
    | nil => cases e
    | @cons v vs d ds rv r =>
      have e' : (match f d ρ with | none => none | some ρ1 => g ds ρ1) = some ρ' := e
      cases h : f d ρ with
      | none => rw [h] at e'; cases e'
      | some ρ1 =>
        rw [h] at e'
        exact ⟨v, vs, rfl, h1.is B O d ρ ρ1 v σ H _ h s rv fun σ1 s1 o1 => h2.is B O ds ρ1 ρ' vs σ1 H Q e' s1 r fun σ2 s2 o2 => k σ2 s2 (o1.trans o2)⟩⟩
def bTup (g : List D → List (Option D) → Option (List (Option D))) : D → List (Option D) → Option (List (Option D)) := fun d ρ => match d with | .tup ds => g ds ρ | _ => none
theorem eb_tup {k : Nat} {t : TGs} {f} {n : Nat} {sl : List Nat} (hc : X.calm = true) (h : EBs X es t sl f) (hl : ∀ ds ρ ρ', f ds ρ = some ρ' → ds.length = n) (hn : (assignEach es X.env).length = n := by rfl) (hst : (assignEach es X.env).findIdx? (·.1) = none := by rfl) :
    EB X (.Tuple es k pos) (gTup X.K n t) sl (bTup f) :=
  ⟨pg_tup hc h.pg hn hst, fun B O d ρ ρ' v σ H Q e s r k => by
    cases d with
    | tup ds =>
      cases r with
      | tup hq r => exact ⟨_, _, rfl, same_t vis_le hq, by rw [r.length]; exact hl _ _ _ e, h.is B O ds ρ ρ' _ σ H Q e s r k⟩
    | _ => cases e⟩
theorem bcons_len {f g} {n : Nat} (h : ∀ ds ρ ρ', g ds ρ = some ρ' → ds.length = n) : ∀ ds ρ ρ', bCons f g ds ρ = some ρ' → ds.length = n + 1 := fun ds ρ ρ' e => by
  cases ds with
  | nil => cases e
  | cons d ds =>
    have e' : (match f d ρ with | none => none | some ρ1 => g ds ρ1) = some ρ' := e
    cases q : f d ρ with
    | none => rw [q] at e'; cases e'
    | some ρ1 => rw [q] at e'; rw [List.length_cons, h _ _ _ e']
theorem bnil_len : ∀ (ds : List D) (ρ ρ' : List (Option D)), bNil ds ρ = some ρ' → ds.length = 0 := fun ds ρ ρ' e => by
  cases ds with
  | nil => rfl
  | cons _ _ => cases e
/-- target = value, a tuple's items -/
theorem j_asg {tg : Expr} {g : TG} {sl : List Nat} {f} (he : EV X B ρ O e d) (hg : EB X tg g sl f) (hf : f d ρ = some ρ') (h : A.nx ρ' O) (hs : swapsWithSole [tg] e pos.line X.env = pure false := by rfl) (hw : swappedStores [tg] e X.env = pure none := by rfl)
    (h1 : (assignEach [tg] X.env).map (·.2) = [assign tg X.env] := by rfl) : J1 X B (.Assign [tg] e pos) ρ O A :=
  ps_imp (ps_asg he hg.pg hs hw h1) fun Dn σ H ⟨st, p⟩ => ⟨st, fun v H1 e1 r1 => hg.is B O d ρ ρ' v σ H1 _ hf (st.same e1) r1 fun σ' s' _ => p.nx ρ' O σ' H1 h s' (vis_same e1)⟩
theorem j_asgG {tg : Expr} {g : TG} {sl : List Nat} {f} (he : EG X B ρ O e d O') (hg : EB X tg g sl f) (hf : f d ρ = some ρ') (h : A.nx ρ' O') (hs : swapsWithSole [tg] e pos.line X.env = pure false := by rfl) (hw : swappedStores [tg] e X.env = pure none := by rfl)
    (h1 : (assignEach [tg] X.env).map (·.2) = [assign tg X.env] := by rfl) : J1 X B (.Assign [tg] e pos) ρ O A :=
  ps_imp (ps_asg he hg.pg hs hw h1) fun Dn σ H ⟨st, p⟩ => ⟨st, fun v H1 s1 e1 r1 => hg.is B O' d ρ ρ' v σ H1 _ hf s1 r1 fun σ' s' _ => p.nx ρ' O' σ' H1 h s' e1⟩

/-! ### what is walked -/
structure Src (K : PySem.W.Frag) (L : Om) (Hv : Hp) (J : It) (G : Om → Prop) (ds : List D) : Prop where
  goes : ∀ (i : Nat) (B : Gd) (O : Om) (H : Hp), B.L = L → i < ds.length → MOk K B O H → Same Hv (vis B.F O H) → G O → J.go i H
  stops : ∀ (B : Gd) (O : Om) (H : Hp), B.L = L → MOk K B O H → Same Hv (vis B.F O H) → G O → J.stop ds.length H
  yields : ∀ (i : Nat) (B : Gd) (O : Om) (H : Hp) (x : V) (H' : Hp), B.L = L → i < ds.length → MOk K B O H → Same Hv (vis B.F O H) → G O → J.yld i H x H' → Same H H' ∧ ∃ d, ds[i]? = some d ∧ Rp K (vis B.F O H') x d
structure EI (X : Cx) (B : Gd) (ρ : List (Option D)) (O : Om) (tg iter : Expr) (wi : TI) (G : Om → Prop) (ds : List D) : Prop where
  pi : PI X tg iter wi
  is : ∀ (σ : L2.St) (H : Hp) (R : It → Hp → Prop), StOk X.K B ρ O σ H → (∀ J H1, Same H H1 → Src X.K B.L (vis B.F O H1) J G ds → R J H1) → wi σ H R
theorem src_list {K : PySem.W.Frag} {H : Hp} {a : Addr} {v : V} (w : Vw (B.L ++ O) d ds) (m : MOk K B O H) (r : Rp K (vis B.F O H) v d) (hv : v = .ref a) : Src K B.L (vis B.F O H) (Itl K a) (fun O' => Vw (B.L ++ O') d ds) ds := by
  subst hv
  have again : ∀ {B' : Gd} {O' : Om} {H' : Hp}, B'.L = B.L → Vw (B.L ++ O') d ds → MOk K B' O' H' → Same (vis B.F O H) (vis B'.F O' H') → ∃ vs', SqL K H' a vs' ∧ RpL K (vis B'.F O' H') vs' ds := fun {B' O' H'} eL w m e => by
    rw [← eL] at w
    obtain ⟨a', vs', ea, q, r⟩ := w.sql m (r.mono e)
    cases ea
    exact ⟨vs', q, r⟩
  refine ⟨fun i B' O' H' eL hi m e g => ?_, fun B' O' H' eL m e g => ?_, fun i B' O' H' x H2 eL hi m e g y => ?_⟩
  · obtain ⟨vs, q, r⟩ := again eL g m e
    obtain ⟨v, hv, _⟩ := r.get (i := i) (d := ds[i]) (by simp [hi])
    exact ⟨vs, v, q, hv⟩
  · obtain ⟨vs, q, r⟩ := again eL g m e
    exact ⟨vs, q, by rw [r.length]; exact Nat.le_refl _⟩
  · obtain ⟨vs, q, r⟩ := again eL g m e
    obtain ⟨e2, y⟩ := y
    subst e2
    obtain ⟨v, hv, rv⟩ := r.get (i := i) (d := ds[i]) (by simp [hi])
    have ex := y vs q
    rw [hv] at ex
    cases ex
    exact ⟨Same.refl _, _, by simp [hi], rv⟩
theorem ei_list {tg iter : Expr} (hi : EV X B ρ O iter d) (w : Vw (B.L ++ O) d ds) : EI X B ρ O tg iter (iList X.K (tD X.K B ρ O d)) (fun O' => Vw (B.L ++ O') d ds) ds :=
  ⟨pi_list hi, fun σ H R st k => ⟨st, fun v H1 e1 r1 => by
    obtain ⟨a, vs, rfl, hq, rl⟩ := w.sql (st.same e1).m r1
    exact ⟨a, rfl, ⟨vs, hq⟩, k _ H1 e1 (src_list w (st.same e1).m r1 rfl)⟩⟩⟩
theorem ei_tup {tg iter : Expr} (hi : EV X B ρ O iter (.tup ds)) : EI X B ρ O tg iter (iTup X.K (tD X.K B ρ O (.tup ds))) (fun _ => True) ds :=
  ⟨pi_tup hi, fun σ H R st k => ⟨st, fun v H1 e1 r1 => by
    cases r1 with
    | @tup a vs _ hq rl =>
    refine ⟨a, rfl, ⟨vs, same_t vis_le hq⟩, k _ H1 e1 ⟨fun i B' O' H' eL hi m e g => ?_, fun B' O' H' eL m e g => ?_, fun i B' O' H' x H2 eL hi m e g y => ?_⟩⟩
    · obtain ⟨v, hv, _⟩ := rl.get (i := i) (d := ds[i]) (by simp [hi])
      exact ⟨vs, v, same_t vis_le (same_t e hq), hv⟩
    · exact ⟨vs, same_t vis_le (same_t e hq), by rw [rl.length]; exact Nat.le_refl _⟩
    · obtain ⟨e2, y⟩ := y
      subst e2
      obtain ⟨v, hv, rv⟩ := rl.get (i := i) (d := ds[i]) (by simp [hi])
      have ex := y vs (same_t vis_le (same_t e hq))
      rw [hv] at ex
      cases ex
      exact ⟨Same.refl _, _, by simp [hi], rv.mono e⟩⟩⟩
theorem ei_str {tg iter : Expr} {z : Str} (hi : EV X B ρ O iter (.str z)) : EI X B ρ O tg iter (iStr (tD X.K B ρ O (.str z))) (fun _ => True) (z.cps.toList.map fun c => D.str ⟨#[c]⟩) :=
  ⟨pi_str hi, fun σ H R st k => ⟨st, fun v H1 e1 r1 => by
    cases r1
    refine ⟨z, rfl, k _ H1 e1 ⟨fun i B' O' H' eL hi m e g => ?_, fun B' O' H' eL m e g => ?_, fun i B' O' H' x H2 eL hi m e g y => ?_⟩⟩
    · show i < z.cps.size; simpa using hi
    · show z.cps.size ≤ _; simp
    · obtain ⟨e2, c, hc, ex⟩ := y
      subst e2 ex
      refine ⟨Same.refl _, .str ⟨#[c]⟩, ?_, .str _⟩
      rw [List.getElem?_map, Array.getElem?_toList, hc]; rfl⟩⟩
def rngD (lo : Int) (n : Nat) : List D := (List.range n).map fun i : Nat => D.int (lo + (i : Int))
theorem src_range {K : PySem.W.Frag} {L : Om} {Hv : Hp} {lo : Int} {n : Nat} : Src K L Hv (Itr lo n) (fun _ => True) (rngD lo n) := by
  have hl : (rngD lo n).length = n := by simp [rngD]
  refine ⟨fun i B' O' H' eL hi m e g => ?_, fun B' O' H' eL m e g => ?_, fun i B' O' H' x H2 eL hi m e g y => ?_⟩
  · rw [hl] at hi; exact hi
  · rw [hl]; exact Nat.le_refl _
  · rw [hl] at hi
    obtain ⟨e2, ex⟩ := y
    subst e2 ex
    exact ⟨Same.refl _, .int (lo + i), by simp [rngD, hi], .int _⟩
theorem ei_range1 {tg na : Expr} {p p' : Pos} {n : Int} (hgl : Gl X "range") (hm : X.mg "range" = none) (hi : EA X B ρ O [na] [.int n]) (hn : -(2 ^ 62) ≤ n ∧ n < 2 ^ 62) (hse : starEach [na] X.env = [(false, eval na X.env)] := by rfl) :
    EI X B ρ O tg (.Call (.Name "range" p) [na] [] p') (iRng1 (tA X.K B ρ O [.int n])) (fun _ => True) (rngD 0 n.toNat) :=
  ⟨pi_range1 hgl hm hi hse, fun σ H R st k => ⟨st, fun vs H1 e1 r1 => by
    cases r1 with
    | cons h r => cases h; cases r; exact ⟨n, rfl, hn.1, hn.2, k _ H1 e1 src_range⟩⟩⟩
theorem ei_range2 {tg ma na : Expr} {p p' : Pos} {m n : Int} (hgl : Gl X "range") (hm : X.mg "range" = none) (hi : EA X B ρ O [ma, na] [.int m, .int n]) (hn : -(2 ^ 62) ≤ m ∧ m < 2 ^ 62 ∧ -(2 ^ 62) ≤ n ∧ n < 2 ^ 62)
    (hse : starEach [ma, na] X.env = [(false, eval ma X.env), (false, eval na X.env)] := by rfl) (hse2 : starEach [na] X.env = [(false, eval na X.env)] := by rfl) :
    EI X B ρ O tg (.Call (.Name "range" p) [ma, na] [] p') (iRng2 (tA X.K B ρ O [.int m, .int n])) (fun _ => True) (rngD m (n - m).toNat) :=
  ⟨pi_range2 hgl hm hi hse hse2, fun σ H R st k => ⟨st, fun vs H1 e1 r1 => by
    cases r1 with
    | cons h r =>
      cases h
      cases r with
      | cons h r => cases h; cases r; exact ⟨m, n, rfl, hn, k _ H1 e1 src_range⟩⟩⟩
def enumD (ds : List D) : List D := (List.range ds.length).map fun i : Nat => D.tup [.int (i : Int), (ds[i]?).getD .non]
theorem ei_enum {ea : Expr} {elts : List Expr} {kk : Nat} {p p' tpos : Pos} (hgl : Gl X "enumerate") (hm : X.mg "enumerate" = none) (hi : EA X B ρ O [ea] [d]) (w : Vw (B.L ++ O) d ds) (hse : starEach [ea] X.env = [(false, eval ea X.env)] := by rfl) :
    EI X B ρ O (.Tuple elts kk tpos) (.Call (.Name "enumerate" p) [ea] [] p') (iEnum X.K (tA X.K B ρ O [d])) (fun O' => Vw (B.L ++ O') d ds) (enumD ds) :=
  ⟨pi_enum hgl hm hi hse, fun σ H R st k => ⟨st, fun vs H1 e1 r1 => by
    cases r1 with
    | @cons v _ _ _ h r =>
    cases r
    obtain ⟨a, vs, rfl, hq, rl⟩ := w.sql (st.same e1).m h
    have S := src_list w (st.same e1).m h rfl
    have hl : (enumD ds).length = ds.length := by simp [enumD]
    refine ⟨a, vs, rfl, hq, k _ H1 e1 ⟨fun i B' O' H' eL hi m e g => ?_, fun B' O' H' eL m e g => ?_, fun i B' O' H' x H2 eL hi m e g y => ?_⟩⟩
    · rw [hl] at hi
      exact S.goes i B' O' H' eL hi m e g
    · rw [hl]
      exact S.stops B' O' H' eL m e g
    · rw [hl] at hi
      obtain ⟨T, x', ex, hT, e2, y⟩ := y
      subst e2 ex
      obtain ⟨_, d', hd', rd⟩ := S.yields i B' O' H' x' H' eL hi m e g ⟨rfl, y⟩
      refine ⟨same_new hT, .tup [.int (i : Int), d'], ?_, .tup (.inl (.inl (m.visNew hT))) (.cons (.int _) (.cons (rd.mono (vis_same (same_new hT))) .nil))⟩
      unfold enumD; rw [List.getElem?_map, List.getElem?_range hi]; simp [hd']⟩⟩
def zipD (ds es : List D) : List D := (List.range (min ds.length es.length)).map fun i : Nat => D.tup [(ds[i]?).getD .non, (es[i]?).getD .non]
theorem ei_zip {ea eb : Expr} {elts : List Expr} {kk : Nat} {p p' tpos : Pos} {es : List D} (hgl : Gl X "zip") (hm : X.mg "zip" = none) (hi : EA X B ρ O [ea, eb] [d1, d2]) (w1 : Vw (B.L ++ O) d1 ds) (w2 : Vw (B.L ++ O) d2 es)
    (hse : starEach [ea, eb] X.env = (false, eval ea X.env) :: starEach [eb] X.env := by rfl) (hpl : (backTo p' (starEach [eb] X.env)).any (·.1) = false := by rfl) :
    EI X B ρ O (.Tuple elts kk tpos) (.Call (.Name "zip" p) [ea, eb] [] p') (iZip X.K (tA X.K B ρ O [d1, d2])) (fun O' => Vw (B.L ++ O') d1 ds ∧ Vw (B.L ++ O') d2 es) (zipD ds es) :=
  ⟨pi_zip hgl hm hi hse hpl, fun σ H R st k => ⟨st, fun vs H1 e1 r1 => by
    cases r1 with
    | @cons v _ _ _ h r =>
    cases r with
    | @cons v2 _ _ _ h2 r =>
    cases r
    obtain ⟨a, vs, rfl, hq, rl⟩ := w1.sql (st.same e1).m h
    obtain ⟨b, us, rfl, hq2, rl2⟩ := w2.sql (st.same e1).m h2
    have again : ∀ {B' : Gd} {O' : Om} {H' : Hp} {dd : D} {dl : List D} {a0 : Addr}, Rp X.K (vis B.F O H1) (.ref a0) dd → B'.L = B.L → Vw (B.L ++ O') dd dl → MOk X.K B' O' H' → Same (vis B.F O H1) (vis B'.F O' H') → ∃ vs', SqL X.K H' a0 vs' ∧ RpL X.K (vis B'.F O' H') vs' dl := fun {B' O' H' dd dl a0} r eL w m e => by
      rw [← eL] at w
      obtain ⟨a', vs', ea, q, r⟩ := w.sql m (r.mono e)
      cases ea
      exact ⟨vs', q, r⟩
    have hl : (zipD ds es).length = min ds.length es.length := by simp [zipD]
    refine ⟨a, b, vs, us, rfl, hq, hq2, k _ H1 e1 ⟨fun i B' O' H' eL hi m e g => ?_, fun B' O' H' eL m e g => ?_, fun i B' O' H' x H2 eL hi m e g y => ?_⟩⟩
    · rw [hl] at hi
      obtain ⟨xs, q1, r1⟩ := again h eL g.1 m e
      obtain ⟨ys, q2, r2⟩ := again h2 eL g.2 m e
      exact (walk_zip (n := min xs.length ys.length) rfl).goes i H' (by rw [r1.length, r2.length]; exact hi) ⟨q1, q2⟩
    · obtain ⟨xs, q1, r1⟩ := again h eL g.1 m e
      obtain ⟨ys, q2, r2⟩ := again h2 eL g.2 m e
      rw [hl, ← r1.length, ← r2.length]
      exact (walk_zip (n := min xs.length ys.length) rfl).stops H' ⟨q1, q2⟩
    · rw [hl] at hi
      obtain ⟨xs, q1, r1⟩ := again h eL g.1 m e
      obtain ⟨ys, q2, r2⟩ := again h2 eL g.2 m e
      obtain ⟨T, x', z', ex, hT, e2, y1, y2⟩ := (walk_zip (n := min xs.length ys.length) rfl).yields i H' x H2 (by rw [r1.length, r2.length]; exact hi) ⟨q1, q2⟩ y
      subst e2 ex
      obtain ⟨d', hd', rd⟩ := r1.get' y1
      obtain ⟨d'', hd'', rd'⟩ := r2.get' y2
      refine ⟨same_new hT, .tup [d', d''], ?_, .tup (.inl (.inl (m.visNew hT))) (.cons (rd.mono (vis_same (same_new hT))) (.cons (rd'.mono (vis_same (same_new hT))) .nil))⟩
      unfold zipD; rw [List.getElem?_map, List.getElem?_range hi]; simp [hd', hd'']⟩⟩

/-! ### loops -/
/-- a body, whatever the state -/
def tAny (X : Cx) (B : Gd) (ss : List Stmt) : TS := fun Dn σ H => ∃ ρ O A, J X B ss ρ O A ∧ tW X.K B ρ O A Dn σ H
theorem any_ok : PSs X ss (tAny X B ss) := ⟨fun pins s σ H Dn I ⟨ρ, O, A, j, q⟩ => j.run pins s σ H Dn I q⟩
theorem j_for {iter tg : Expr} {body : List Stmt} {wi : TI} {sl : List Nat} {f} {g : TG} {G : Om → Prop} (R : Nat → List (Option D) → Om → Prop)
    (hp : PassesOwn (model X.prog X.w) X.A X.env X.xe) (hc : X.calm = true) (hi : EI X B ρ O tg iter wi G ds) (hg : EB X tg g sl f)
    (hv : ∀ i ρ O, R i ρ O → G O)
    (h0 : ∃ ρ0, Wk ρ0 ρ ∧ R 0 ρ0 O)
    (hs : ∀ i d ρ O, ds[i]? = some d → R i ρ O → ∃ ρ', f d ρ = some ρ' ∧ J X B body ρ' O { A with nx := fun ρ2 O2 => ∃ ρ3, Wk ρ3 ρ2 ∧ R (i + 1) ρ3 O2, ct := fun ρ2 O2 => ∃ ρ3, Wk ρ3 ρ2 ∧ R (i + 1) ρ3 O2, bk := A.nx })
    (hd : ∀ ρ O, R ds.length ρ O → A.nx ρ O)
    (hfs : ∀ x, foldedSetIterable iter X.env x = pure x := by intro _; rfl) : J1 X B (.For tg iter body [] pos) ρ O A := by
  refine ps_imp (ps_for hp hc hi.pi hg.pg (any_ok (B := B)) hfs) fun Dn σ H ⟨st, p⟩ => hi.is σ H _ st fun J H1 e1 S => ?_
  obtain ⟨ρ0, w0, h0⟩ := h0
  have s1 := (st.same e1).weak w0
  refine ⟨fun i m σ' H' => m = ds.length - i ∧ i ≤ ds.length ∧ ∃ ρ' O', R i ρ' O' ∧ StOk X.K B ρ' O' σ' H' ∧ Same (vis B.F O H1) (vis B.F O' H'), ⟨ds.length, by simp, Nat.zero_le _, ρ0, O, h0, s1, Same.refl _⟩, ?_⟩
  rintro i m σ' H' ⟨rfl, hi', ρ', O', hr, s', e'⟩
  by_cases hlt : i < ds.length
  · refine .inr ⟨S.goes i B O' H' rfl hlt s'.m e' (hv _ _ _ hr), fun σ2 H2 => ∃ ρ2 O2, R (i + 1) ρ2 O2 ∧ StOk X.K B ρ2 O2 σ2 H2 ∧ Same (vis B.F O H1) (vis B.F O2 H2), fun σ2 H2 ⟨ρ2, O2, h2, s2, e2⟩ => ⟨ds.length - (i + 1), by omega, rfl, hlt, ρ2, O2, h2, s2, e2⟩, fun x H2 y => ?_⟩
    obtain ⟨e2, d, hd', rv⟩ := S.yields i B O' H' x H2 rfl hlt s'.m e' (hv _ _ _ hr) y
    obtain ⟨ρ1, hf, j⟩ := hs i d ρ' O' hd' hr
    refine hg.is B O' d ρ' ρ1 x σ' H2 _ hf (s'.same e2) rv fun σ2 s2 _ => ⟨ρ1, O', _, j, s2, ?_⟩
    have e'' := e'.trans (vis_same (F := B.F) (O := O') e2)
    exact ⟨fun ρ3 O3 σ3 H3 ⟨ρ4, w, h4⟩ s3 e3 => ⟨ρ4, O3, h4, s3.weak w, e''.trans e3⟩, p.rt, fun ρ3 O3 σ3 H3 h3 s3 e3 => p.nx ρ3 O3 σ3 H3 h3 s3 ((vis_same e1).trans (e''.trans e3)), fun ρ3 O3 σ3 H3 ⟨ρ4, w, h4⟩ s3 e3 => ⟨ρ4, O3, h4, s3.weak w, e''.trans e3⟩⟩
  · have e : i = ds.length := by omega
    subst e
    exact .inl ⟨S.stops B O' H' rfl s'.m e' (hv _ _ _ hr), p.nx ρ' O' σ' H' (hd ρ' O' hr) s' ((vis_same e1).trans e')⟩
/-- while -/
def tAnyT (X : Cx) (B : Gd) (c : Expr) : TT := fun σ H Q => ∃ ρ O b, ET X B ρ O c b ∧ tT X.K B ρ O b σ H Q
theorem anyT_ok : PT X c (tAnyT X B c) := ⟨fun pins s σ H Q I ⟨ρ, O, b, j, q⟩ => j.run pins s σ H Q I q⟩
theorem j_while {body : List Stmt} (R : List (Option D) → Om → Prop) (μ : List (Option D) → Om → Nat) (hp : PassesOwn (model X.prog X.w) X.A X.env X.xe) (h0 : R ρ O)
    (hs : ∀ ρ O, R ρ O → ∃ b, ET X B ρ O c b ∧ (b = true → J X B body ρ O { A with nx := fun ρ2 O2 => ∃ ρ3, Wk ρ3 ρ2 ∧ R ρ3 O2 ∧ μ ρ3 O2 < μ ρ O, ct := fun ρ2 O2 => ∃ ρ3, Wk ρ3 ρ2 ∧ R ρ3 O2 ∧ μ ρ3 O2 < μ ρ O, bk := A.nx }) ∧ (b = false → A.nx ρ O)) :
    J1 X B (.While c body [] pos) ρ O A := by
  refine ps_imp (ps_while hp (anyT_ok (B := B)) (any_ok (B := B))) fun Dn σ H ⟨st, p⟩ => ?_
  refine ⟨fun m σ' H' => ∃ ρ' O', R ρ' O' ∧ m = μ ρ' O' ∧ StOk X.K B ρ' O' σ' H' ∧ Same (vis B.F O H) (vis B.F O' H'), ⟨_, ρ, O, h0, rfl, st, Same.refl _⟩, ?_⟩
  rintro m σ' H' ⟨ρ', O', hr, rfl, s', e'⟩
  obtain ⟨b, t, h1, h2⟩ := hs ρ' O' hr
  refine ⟨ρ', O', b, t, s', fun H2 e2 => ?_⟩
  have s2 := s'.same e2
  have e3 := e'.trans (vis_same (F := B.F) (O := O') e2)
  cases b with
  | true =>
    refine iteT ⟨fun σ3 H3 => ∃ ρ3 O3, R ρ3 O3 ∧ μ ρ3 O3 < μ ρ' O' ∧ StOk X.K B ρ3 O3 σ3 H3 ∧ Same (vis B.F O H) (vis B.F O3 H3), fun σ3 H3 ⟨ρ3, O3, q1, q2, q3, q4⟩ => ⟨_, q2, ρ3, O3, q1, rfl, q3, q4⟩, ρ', O', _, h1 rfl, s2, ?_⟩
    exact ⟨fun ρ3 O3 σ3 H3 ⟨ρ4, w, h4, l⟩ s3 e4 => ⟨ρ4, O3, h4, l, s3.weak w, e3.trans e4⟩, p.rt, fun ρ3 O3 σ3 H3 h3 s3 e4 => p.nx ρ3 O3 σ3 H3 h3 s3 (e3.trans e4), fun ρ3 O3 σ3 H3 ⟨ρ4, w, h4, l⟩ s3 e4 => ⟨ρ4, O3, h4, l, s3.weak w, e3.trans e4⟩⟩
  | false => exact iteF (p.nx ρ' O' σ' H2 (h2 rfl) s2 e3)

/-! ### comprehensions -/
theorem has_keys {O O' : Om} (h : O.map (·.1) = O'.map (·.1)) (a : Addr) : has O a = has O' a := by
  have : ∀ O : Om, has O a = (O.map (·.1)).contains a := fun O => by
    unfold has
    induction O with
    | nil => rfl
    | cons q O ih => rw [List.any_cons, ih, List.map_cons, List.contains_cons, Bool.beq_comm]
  rw [this, this, h]
theorem vis_keys {O O' : Om} {F : Addr → Bool} {H : Hp} (h : O.map (·.1) = O'.map (·.1)) : vis F O H = vis F O' H := by
  funext a
  unfold vis
  rw [has_keys h a]
theorem wipe_wipe (σ : L2.St) (vs : List Nat) : L2.wipe (L2.wipe σ vs) vs = L2.wipe σ vs := by
  have z : ∀ (us : List Nat), (∀ j ∈ us, j ∈ vs) → L2.wipe (L2.wipe σ vs) us = L2.wipe σ vs := by
    intro us hu
    induction us with
    | nil => rfl
    | cons u us ih =>
      show (L2.wipe (L2.wipe σ vs) us).set u none = L2.wipe σ vs
      rw [show L2.wipe (L2.wipe σ vs) us = L2.wipe σ vs from ih fun j hj => hu j (List.mem_cons_of_mem _ hj)]
      have hm := hu u List.mem_cons_self
      have : ∀ (ws : List Nat), u ∈ ws → (L2.wipe σ ws).set u none = L2.wipe σ ws := by
        intro ws
        induction ws with
        | nil => intro h; simp at h
        | cons w ws ih2 =>
          intro h
          unfold L2.wipe
          by_cases e : w = u
          · subst e; rw [List.set_set]
          · rw [List.set_comm _ _ e, ih2 (by rcases List.mem_cons.mp h with z | z; exact absurd z.symm e; exact z)]
      exact this vs hm
  exact z vs fun _ h => h
def wipeD (ρ : List (Option D)) : List Nat → List (Option D)
  | [] => ρ
  | v :: vs => (wipeD ρ vs).set v none
theorem wipeD_env {K : PySem.W.Frag} {Hv : Hp} {σ : L2.St} (h : EnvR K Hv σ ρ) (vs : List Nat) : EnvR K Hv (L2.wipe σ vs) (wipeD ρ vs) := by
  induction vs with
  | nil => exact h
  | cons v vs ih =>
    refine ⟨by unfold L2.wipe wipeD; rw [List.length_set, List.length_set]; exact ih.1, fun i d e => ?_⟩
    unfold wipeD at e
    by_cases hi : v = i
    · subst hi
      by_cases hl : v < (wipeD ρ vs).length
      · rw [List.getElem?_set_self hl] at e; cases e
      · rw [List.getElem?_eq_none (by simpa using hl)] at e; cases e
    · rw [List.getElem?_set_ne hi] at e
      obtain ⟨u, a, b⟩ := ih.2 i d e
      exact ⟨u, by unfold L2.wipe; rw [List.getElem?_set_ne hi]; exact a, b⟩
abbrev ETs (X : Cx) (B : Gd) (ρ : List (Option D)) (O : Om) (ifs : List Expr) (b : Bool) : Prop := PTs X ifs (tT X.K B ρ O b)
theorem ets_nil : ETs X B ρ O [] true := ⟨fun pins s σ H Q I ⟨st, k⟩ => pts_nil.run pins s σ H Q I (k H (Same.refl H))⟩
theorem ets_one (h : ET X B ρ O c b1) : ETs X B ρ O [c] b1 := pts_one h
/-- tests, elements: whatever the state -/
def tAnyTs (Xs : Cx → Prop) (ifs : List Expr) : TT := fun σ H Q => ∃ (K : PySem.W.Frag) (B : Gd) (ρ : List (Option D)) (O : Om) (b : Bool), (∀ X, Xs X → X.K = K ∧ ETs X B ρ O ifs b) ∧ tT K B ρ O b σ H Q
def tAnyE (Xs : Cx → Prop) (e : Expr) : TE := fun σ H Q => ∃ (K : PySem.W.Frag) (B : Gd) (ρ : List (Option D)) (O : Om) (d : D), (∀ X, Xs X → X.K = K ∧ EV X B ρ O e d) ∧ tD K B ρ O d σ H Q
theorem anyTs_ok {Xs : Cx → Prop} {ifs : List Expr} (h : Xs X) : PTs X ifs (tAnyTs Xs ifs) := ⟨fun pins s σ H Q I ⟨K, B, ρ, O, b, j, q⟩ => by
  obtain ⟨ek, jj⟩ := j X h
  subst ek
  exact jj.run pins s σ H Q I q⟩
theorem anyE_ok {Xs : Cx → Prop} (h : Xs X) : PE X e (tAnyE Xs e) := ⟨fun pins s σ H Q I ⟨K, B, ρ, O, d, j, q⟩ => by
  obtain ⟨ek, jj⟩ := j X h
  subst ek
  exact jj.run pins s σ H Q I q⟩
/-- the contexts of a comprehension's block -/
def Blk (X : Cx) (scope : Scope) : Cx → Prop := fun X' => ∃ (s : Shared) (H : Hp) (C : Addr) (cl : List (Str × Addr)) (fp : List Addr), X' = X.blk s H scope (compEnvC scope cl C X.env) fp
/-- the ground of a comprehension: the new list hidden -/
def Gd.hid (B : Gd) (D : Addr) (H : Hp) (O : Om) (h1 : ∀ a, B.F a = true → ∃ o, B.Hb a = some o) (h2 : ∃ o, H D = some o) (h3 : ∀ a o, B.Hb a = some o → H a = some o ∧ has O a = false) (h4 : has O D = false) : Gd :=
  ⟨fun a => B.F a || a == D, fun a => if has O a = true then none else H a, B.E, B.L, fun a h => by
    rw [Bool.or_eq_true] at h
    rcases h with h | h
    · obtain ⟨o, e⟩ := h1 a h
      obtain ⟨q1, q2⟩ := h3 a o e
      exact ⟨o, by rw [q2]; exact q1⟩
    · have e : a = D := beq_iff_eq.mp h
      subst e
      obtain ⟨o, q⟩ := h2
      exact ⟨o, by rw [h4]; exact q⟩, fun a m h => by rw [B.lF a m h]; rfl⟩
theorem en_lcW {α : Type} {xs : List α} {h : α → D} {pr : α → Bool} {el : α → D} {elt iter tg : Expr} {ifs : List Expr} {scope : Scope} {own : List (Str × Nat)} {wi : TI} {G : Om → Prop} {g : TG} {sl : List Nat} {f}
    (hc : X.calm = true) (hN : X.N.Nodup) (hi : EI X B ρ O tg iter wi G (xs.map h)) (hG : G O) (ok : BlkOk X.N X.env.scope scope own)
    (hg : ∀ X', Blk X scope X' → EB X' tg g sl f) (hsl : ∀ j ∈ sl, j ∈ own.map (·.2))
    (hb : ∀ x ∈ xs, ∃ ρ', f (h x) (wipeD ρ (own.map (·.2))) = some ρ' ∧ (∀ X' B', B'.L = B.L → Blk X scope X' → ETs X' B' ρ' O ifs (pr x)) ∧ (pr x = true → ∀ X' B', B'.L = B.L → Blk X scope X' → EV X' B' ρ' O elt (el x)))
    (hz : xs.length < sizeLine) (hs : ∀ x, foldedSetIterable iter X.env x = pure x := by intro _; rfl) :
    EN X B ρ O (.ListComp elt [⟨tg, iter, ifs, 0⟩] scope pos) ((xs.filter pr).map el) := by
  refine pe_imp (pe_lc (own := own) (g := g) (tt := tAnyTs (Blk X scope) ifs) (te := tAnyE (Blk X scope) elt) hc hN hi.pi ok (fun s H C cl fp => (hg _ ⟨s, H, C, cl, fp, rfl⟩).pg) (fun s H C cl fp => anyTs_ok ⟨s, H, C, cl, fp, rfl⟩) (fun s H C cl fp => anyE_ok ⟨s, H, C, cl, fp, rfl⟩) hs) fun σ H Q ⟨st, k⟩ => ?_
  refine hi.is σ H _ st fun J H1 e1 S D hD => ?_
  have s1 := st.same e1
  have oD := s1.m.newO hD
  have fD := s1.m.newF hD
  -- what holds at a turn: all that stood, and the new list's items known without it
  let Inv : Nat → Hp → Prop := fun i H' => Same H1 H' ∧ ∃ acc, H' D = some (.lst acc) ∧ RpL X.K (vis B.F ((D, .lst []) :: O) H') acc (((xs.take i).filter pr).map el)
  have visD : ∀ {H' : Hp}, vis B.F ((D, .lst []) :: O) H' = fun a => if (B.F a || a == D || has O a) = true then none else H' a := fun {H'} => by
    funext a
    unfold vis
    rw [has_cons, Bool.beq_comm (a := D), Bool.or_assoc]
  have keep : ∀ {H' : Hp}, Same H1 H' → Same (vis B.F O H1) (vis B.F ((D, .lst []) :: O) H') := fun {H'} e a o h => by
    obtain ⟨h1, h2, h3⟩ := vis_some.mp h
    have ne : a ≠ D := ne_of_none h3 hD
    exact vis_some.mpr ⟨h1, by rw [has_cons, h2, Bool.or_false]; exact beq_eq_false_iff_ne.mpr (Ne.symm ne), e _ _ h3⟩
  have hid : ∀ {H' : Hp} (e : Same H1 H') (hd : ∃ o, H' D = some o), ∃ B' : Gd, B'.L = B.L ∧ (∀ H2, vis B'.F O H2 = vis B.F ((D, .lst []) :: O) H2) ∧ StOk X.K B' (wipeD ρ (own.map (·.2))) O (L2.wipe σ (own.map (·.2))) H' := fun {H'} e hd => by
    have b3 : ∀ a o, B.Hb a = some o → H' a = some o ∧ has O a = false := fun a o q => ⟨e _ _ (s1.m.base a o q).1, (s1.m.base a o q).2⟩
    have ev : ∀ H2, vis (B.hid D H' O B.ok hd b3 oD).F O H2 = vis B.F ((D, .lst []) :: O) H2 := fun H2 => by rw [visD]; rfl
    refine ⟨B.hid D H' O B.ok hd b3 oD, rfl, ev, ⟨⟨fun a o q => ?_, fun a m hm => ?_, s1.m.nd, fun a m hm => ?_⟩, ?_⟩⟩
    · have q' : (if has O a = true then none else H' a) = some o := q
      cases ha : has O a with
      | true => rw [ha, if_pos rfl] at q'; cases q'
      | false => rw [ha, if_neg Bool.false_ne_true] at q'; exact ⟨q', rfl⟩
    · rw [ev]
      exact (s1.m.mem a m hm).mono (keep e) fun o q => e _ _ q
    · rw [ev]
      exact (s1.m.lent a m hm).mono (keep e) fun o q => e _ _ q
    · rw [ev]
      exact wipeD_env (s1.env.mono (keep e)) _
  refine ⟨fun i m H' => m = xs.length - i ∧ i ≤ xs.length ∧ Inv i H', ⟨xs.length, by simp, Nat.zero_le _, same_new hD, [], upd_same, .nil⟩, ?_⟩
  rintro i m H' ⟨rfl, hi', eS, acc, hA, rA⟩
  have hlx : (xs.map h).length = xs.length := List.length_map ..
  obtain ⟨B', eL, ev, sB⟩ := hid eS ⟨_, hA⟩
  have eB : Same (vis B.F O H1) (vis B'.F O H') := by rw [ev]; exact keep eS
  by_cases hlt : i < xs.length
  · refine .inr ⟨S.goes i B' O H' eL (by rw [hlx]; exact hlt) sB.m eB hG, fun H2 => Inv (i + 1) H2, fun H2 q => ⟨xs.length - (i + 1), by omega, rfl, hlt, q⟩, fun x H2 y => ?_⟩
    obtain ⟨e2, d, hd', rv⟩ := S.yields i B' O H' x H2 eL (by rw [hlx]; exact hlt) sB.m eB hG y
    have ed : d = h (xs[i]) := by
      rw [List.getElem?_map, List.getElem?_eq_getElem hlt] at hd'
      exact (Option.some.inj hd').symm
    subst ed
    obtain ⟨ρ', hf, ht, he⟩ := hb (xs[i]) (List.getElem_mem hlt)
    have hK : ∀ X', Blk X scope X' → X'.K = X.K := fun X' ⟨s, H, C, cl, fp, e⟩ => by rw [e]
    refine (hg (X.blk X.s_0 H scope (compEnvC scope [] 0 X.env) []) ⟨X.s_0, H, 0, [], [], rfl⟩).is B' O _ _ ρ' x _ H2 _ hf (sB.same e2) rv fun σ2 s2 off => ⟨(off.wipe hsl).trans (wipe_wipe _ _), ?_⟩
    refine ⟨X.K, B', ρ', O, pr xs[i], fun X' hX' => ⟨hK X' hX', ht X' B' eL hX'⟩, s2, fun H3 e3 => ?_⟩
    have tk : xs.take (i + 1) = xs.take i ++ [xs[i]] := by rw [List.take_succ, List.getElem?_eq_getElem hlt]; rfl
    have eS3 : Same H1 H3 := (eS.trans e2).trans e3
    have la : acc.length < sizeLine := by
      rw [rA.length, List.length_map]
      have := List.length_filter_le pr (xs.take i)
      rw [List.length_take] at this
      omega
    cases hp : pr xs[i] with
    | false =>
      refine iteF ⟨eS3, acc, e3 _ _ (e2 _ _ hA), ?_⟩
      rw [tk, List.filter_append]
      have : List.filter pr [xs[i]] = [] := by simp [hp]
      rw [this, List.append_nil]
      exact rA.mono (vis_same (e2.trans e3))
    | true =>
      refine iteT ⟨X.K, B', ρ', O, el xs[i], fun X' hX' => ⟨hK X' hX', he hp X' B' eL hX'⟩, s2.same e3, fun v H4 e4 r4 => ⟨acc, e4 _ _ (e3 _ _ (e2 _ _ hA)), la, ?_⟩⟩
      have up : vis B.F ((D, .lst []) :: O) (upd H4 D (.lst (acc ++ [v]))) = vis B.F ((D, .lst []) :: O) H4 := by
        rw [visD, visD]
        funext a
        by_cases q : a = D
        · subst q; simp
        · rw [upd_ne q]
      refine ⟨fun a o q => ?_, acc ++ [v], upd_same, ?_⟩
      · rw [upd_ne (ne_of_none q hD)]
        exact e4 _ _ (eS3 _ _ q)
      · rw [up, tk, List.filter_append]
        have : List.filter pr [xs[i]] = [xs[i]] := by simp [hp]
        rw [this, List.map_append]
        refine (rA.mono (vis_same ((e2.trans e3).trans e4))).append (.cons ?_ .nil)
        rw [← ev]
        exact r4
  · have e : i = xs.length := by omega
    subst e
    refine .inl ⟨by have q := S.stops B' O H' eL sB.m eB hG; rw [hlx] at q; exact q, k D H' acc (e1.free hD) (e1.trans eS) hA ?_⟩
    rw [List.take_length] at rA
    rw [show vis B.F ((D, .lst ((xs.filter pr).map el)) :: O) H' = vis B.F ((D, .lst []) :: O) H' from vis_keys rfl]
    exact rA
end
end DL

set_option Elab.async false
set_option linter.all false
set_option maxRecDepth 100000
set_option maxHeartbeats 2000000
namespace DL
open PySem PySem.Spec PyProof.Rows L2

section
variable {X : Cx} {B : Gd} {ρ ρ' : List (Option D)} {O O' O1 O2 : Om} {A : AE} {a b c e o : Expr} {es : List Expr} {d d1 d2 d3 : D} {ds : List D} {pos pos' p apos : Pos} {b1 b2 : Bool} {st : Stmt} {ss rest : List Stmt} {x : Str}
/-! ### built-ins by name -/
theorem ev_bltn {v : V} {u : Value} (hg : Gl X x) (hm : X.mg x = none) (hv : bootBuiltins x = some u) (r : RelV v u) (rp : ∀ H, Rp X.K H v d) (hn : x ≠ "__name__" := by decide) (hd : (x == ("__debug__" : Str)) = false := by decide) : EV X B ρ O (.Name x pos) d :=
  pe_imp (pe_bltn hg hm hv r hn hd) fun σ H Q ⟨st, k⟩ => k v H (Same.refl H) (rp _)
def RC (K : PySem.W.Frag) (B : Gd) (O : Om) (r : List V → Hp → VK → Prop) (ds : List D) (d : D) : Prop :=
  ∀ (xs : List V) (H : Hp) (Q : VK), MOk K B O H → RpL K (vis B.F O H) xs ds → (∀ v H', Same H H' → Rp K (vis B.F O H') v d → Q v H') → r xs H Q
/-- a new list comes -/
def RCN (K : PySem.W.Frag) (B : Gd) (O : Om) (r : List V → Hp → VK → Prop) (ds es : List D) : Prop :=
  ∀ (xs : List V) (H : Hp) (Q : VK), MOk K B O H → RpL K (vis B.F O H) xs ds → (∀ p H' vs, H p = none → Same H H' → H' p = some (.lst vs) → RpL K (vis B.F ((p, .lst es) :: O) H') vs es → Q (.ref p) H') → r xs H Q
theorem call_rc {r : List V → Hp → VK → Prop} (hr : RC X.K B O r ds d) (σ : L2.St) (H : Hp) (Q : VK) (h : tD X.K B ρ O d σ H Q) : tCB r (tA X.K B ρ O ds) σ H Q := by
  obtain ⟨st, k⟩ := h
  exact ⟨st, fun vs H1 e1 r1 => hr vs H1 Q (st.same e1).m r1 fun v H2 e2 r2 => k v H2 (e1.trans e2) r2⟩
theorem call_rcn {r : List V → Hp → VK → Prop} {es : List D} (hr : RCN X.K B O r ds es) (σ : L2.St) (H : Hp) (Q : VK) (h : tN X.K B ρ O es σ H Q) : tCB r (tA X.K B ρ O ds) σ H Q := by
  obtain ⟨st, k⟩ := h
  exact ⟨st, fun vs H1 e1 r1 => hr vs H1 Q (st.same e1).m r1 fun p H2 ws hp e2 hq r2 => k p H2 ws (e1.free hp) (e1.trans e2) hq r2⟩
theorem ev_callB {r : List V → Hp → VK → Prop} {id : String} (hc : CallR X (.builtin id) r) (hr : RC X.K B O r ds d) (hg : Gl X x) (hm : X.mg x = none) (hv : bootBuiltins x = some (.builtin id)) (ha : EA X B ρ O (e :: es) ds) (hn : x ≠ "__name__" := by decide) (hdb : (x == ("__debug__" : Str)) = false := by decide)
    (he : starEach (e :: es) X.env = (false, eval e X.env) :: starEach es X.env := by rfl) (hpl : (backTo pos (starEach es X.env)).any (·.1) = false := by rfl) : EV X B ρ O (.Call (.Name x p) (e :: es) [] pos) d :=
  pe_imp (pe_callB hc hg hm hv ha hn hdb he hpl) (call_rc hr)
theorem ev_callTy {r : List V → Hp → VK → Prop} {T : String} (hc : CallR X (.type T) r) (hr : RC X.K B O r ds d) (hg : Gl X x) (hm : X.mg x = none) (hv : bootBuiltins x = some (.type T)) (ha : EA X B ρ O (e :: es) ds) (hn : x ≠ "__name__" := by decide) (hdb : (x == ("__debug__" : Str)) = false := by decide)
    (he : starEach (e :: es) X.env = (false, eval e X.env) :: starEach es X.env := by rfl) (hpl : (backTo pos (starEach es X.env)).any (·.1) = false := by rfl) : EV X B ρ O (.Call (.Name x p) (e :: es) [] pos) d :=
  pe_imp (pe_callTy hc hg hm hv ha hn hdb he hpl) (call_rc hr)
theorem en_callTy {r : List V → Hp → VK → Prop} {T : String} {ds' : List D} (hc : CallR X (.type T) r) (hr : RCN X.K B O r ds ds') (hg : Gl X x) (hm : X.mg x = none) (hv : bootBuiltins x = some (.type T)) (ha : EA X B ρ O (e :: es) ds) (hn : x ≠ "__name__" := by decide) (hdb : (x == ("__debug__" : Str)) = false := by decide)
    (he : starEach (e :: es) X.env = (false, eval e X.env) :: starEach es X.env := by rfl) (hpl : (backTo pos (starEach es X.env)).any (·.1) = false := by rfl) : EN X B ρ O (.Call (.Name x p) (e :: es) [] pos) ds' :=
  pe_imp (pe_callTy hc hg hm hv ha hn hdb he hpl) (call_rcn hr)
theorem en_callB {r : List V → Hp → VK → Prop} {id : String} {ds' : List D} (hc : CallR X (.builtin id) r) (hr : RCN X.K B O r ds ds') (hg : Gl X x) (hm : X.mg x = none) (hv : bootBuiltins x = some (.builtin id)) (ha : EA X B ρ O (e :: es) ds) (hn : x ≠ "__name__" := by decide) (hdb : (x == ("__debug__" : Str)) = false := by decide)
    (he : starEach (e :: es) X.env = (false, eval e X.env) :: starEach es X.env := by rfl) (hpl : (backTo pos (starEach es X.env)).any (·.1) = false := by rfl) : EN X B ρ O (.Call (.Name x p) (e :: es) [] pos) ds' :=
  pe_imp (pe_callB hc hg hm hv ha hn hdb he hpl) (call_rcn hr)
/-- a new list of what stands -/
theorem new_same {K : PySem.W.Frag} {H : Hp} (m : MOk K B O H) {vs : List V} (r : RpL K (vis B.F O H) vs ds) {Q : VK} (k : ∀ p H' vs, H p = none → Same H H' → H' p = some (.lst vs) → RpL K (vis B.F ((p, .lst ds) :: O) H') vs ds → Q (.ref p) H') :
    ∀ l, H l = none → Q (.ref l) (upd H l (.lst vs)) := fun l hl => k l _ vs hl (same_new hl) upd_same (new_vis m hl r _)
theorem vw_rp {K : PySem.W.Frag} {H : Hp} {xs : List V} (w : Vw (B.L ++ O) d ds) (m : MOk K B O H) (r : RpL K (vis B.F O H) xs [d]) : ∃ a vs, xs = [.ref a] ∧ SqL K H a vs ∧ RpL K (vis B.F O H) vs ds := by
  cases r with
  | cons h r =>
    cases r
    obtain ⟨a, vs, e, q, rl⟩ := w.sql m h
    exact ⟨a, vs, by rw [e], q, rl⟩
/-- a view of a list or a tuple -/
def Vq (O : Om) (d : D) (ds : List D) : Prop := Vw O d ds ∨ d = .tup ds
theorem Vq.sq {K : PySem.W.Frag} {H : Hp} {v : V} (w : Vq (B.L ++ O) d ds) (m : MOk K B O H) (r : Rp K (vis B.F O H) v d) : ∃ a vs, v = .ref a ∧ (SqL K H a vs ∨ SqT K H a vs) ∧ RpL K (vis B.F O H) vs ds := by
  rcases w with w | rfl
  · obtain ⟨a, vs, e, q, rl⟩ := w.sql m r
    exact ⟨a, vs, e, .inl q, rl⟩
  · cases r with
    | tup h r => exact ⟨_, _, rfl, .inr (same_t vis_le h), r⟩
theorem vq_rp {K : PySem.W.Frag} {H : Hp} {xs : List V} (w : Vq (B.L ++ O) d ds) (m : MOk K B O H) (r : RpL K (vis B.F O H) xs [d]) : ∃ a vs, xs = [.ref a] ∧ (SqL K H a vs ∨ SqT K H a vs) ∧ RpL K (vis B.F O H) vs ds := by
  cases r with
  | cons h r =>
    cases r
    obtain ⟨a, vs, e, q, rl⟩ := w.sq m h
    exact ⟨a, vs, by rw [e], q, rl⟩
theorem rc_len {K : PySem.W.Frag} (w : Vq (B.L ++ O) d ds) : RC K B O (fun xs H Q => ∃ p ys, xs = [.ref p] ∧ (SqL K H p ys ∨ SqT K H p ys) ∧ Q (.int ys.length) H) [d] (.int ds.length) := fun xs H Q m r k => by
  obtain ⟨a, vs, e, q, rl⟩ := vq_rp w m r
  exact ⟨a, vs, e, q, by rw [rl.length]; exact k _ H (Same.refl H) (.int _)⟩
theorem rc_lenS {z : Str} {K : PySem.W.Frag} (hz : z.length ≤ sizeLine) : RC K B O (fun xs H Q => ∃ z, xs = [.str z] ∧ z.length ≤ sizeLine ∧ Q (.int z.length) H) [.str z] (.int z.length) := fun xs H Q m r k => by
  cases r with
  | cons h r => cases r; cases h; exact ⟨z, rfl, hz, k _ H (Same.refl H) (.int _)⟩
theorem rc_int {i : Int} {K : PySem.W.Frag} : RC K B O (fun xs H Q => (∃ i, xs = [.int i] ∧ Q (.int i) H) ∨ ∃ k, xs = [.bl k] ∧ Q (.int (if k then 1 else 0)) H) [.int i] (.int i) := fun xs H Q m r k => by
  cases r with
  | cons h r => cases r; cases h; exact .inl ⟨i, rfl, k _ H (Same.refl H) (.int _)⟩
theorem rc_intS {z : Str} {n : Int} {K : PySem.W.Frag} (h1 : PySem.intText? z = some n) (h2 : z.length ≤ 640) : RC K B O (fun xs H Q => ∃ a n, xs = [.str a] ∧ PySem.intText? a = some n ∧ a.length ≤ 640 ∧ Q (.int n) H) [.str z] (.int n) := fun xs H Q m r k => by
  cases r with
  | cons h r => cases r; cases h; exact ⟨z, n, rfl, h1, h2, k _ H (Same.refl H) (.int _)⟩
theorem rc_strI {i : Int} {K : PySem.W.Frag} (hz : i.natAbs.log2 < 1920) : RC K B O (fun xs H Q => ∃ i, xs = [.int i] ∧ i.natAbs.log2 < 1920 ∧ Q (.str (toString i)) H) [.int i] (.str (toString i)) := fun xs H Q m r k => by
  cases r with
  | cons h r => cases r; cases h; exact ⟨i, rfl, hz, k _ H (Same.refl H) (.str _)⟩
theorem rcn_list {K : PySem.W.Frag} (w : Vq (B.L ++ O) d ds) : RCN K B O (fun xs H Q => ∃ p ys, xs = [.ref p] ∧ (SqL K H p ys ∨ SqT K H p ys) ∧ ∀ l, H l = none → Q (.ref l) (upd H l (.lst ys))) [d] ds := fun xs H Q m r k => by
  obtain ⟨a, vs, e, q, rl⟩ := vq_rp w m r
  exact ⟨a, vs, e, q, new_same m rl k⟩
theorem rc_tuple {K : PySem.W.Frag} (w : Vq (B.L ++ O) d ds) : RC K B O (fun xs H Q => ∃ p ys, xs = [.ref p] ∧ ((SqL K H p ys ∧ ∀ l, H l = none → Q (.ref l) (upd H l (.tup ys))) ∨ (SqT K H p ys ∧ Q (.ref p) H))) [d] (.tup ds) := fun xs H Q m r k => by
  rcases w with w | rfl
  · obtain ⟨a, vs, e, q, rl⟩ := vw_rp w m r
    exact ⟨a, vs, e, .inl ⟨q, fun l hl => k _ _ (same_new hl) (.tup (.inl (.inl (m.visNew hl))) (rl.mono (vis_same (same_new hl))))⟩⟩
  · cases r with
    | cons h r =>
      cases r
      cases h with
      | tup hq r => exact ⟨_, _, rfl, .inr ⟨same_t vis_le hq, k _ H (Same.refl H) (.tup hq r)⟩⟩
theorem rc_any {bs : List Bool} {K : PySem.W.Frag} (w : Vw (B.L ++ O) d (bs.map fun x => D.bl x)) : RC K B O (rAny K) [d] (.bl (bs.any id)) := fun xs H Q m r k => by
  obtain ⟨a, vs, e, q, rl⟩ := vw_rp w m r
  have ev := rl.bls
  subst ev
  exact ⟨a, bs, e, q, k _ H (Same.refl H) (.bl _)⟩
theorem rc_all {bs : List Bool} {K : PySem.W.Frag} (w : Vw (B.L ++ O) d (bs.map fun x => D.bl x)) : RC K B O (rAll K) [d] (.bl (bs.all id)) := fun xs H Q m r k => by
  obtain ⟨a, vs, e, q, rl⟩ := vw_rp w m r
  have ev := rl.bls
  subst ev
  exact ⟨a, bs, e, q, k _ H (Same.refl H) (.bl _)⟩

/-! ### isinstance -/
/-- a datum's built-in type -/
inductive DT (O : Om) : D → String → Prop where
  | non : DT O .non "NoneType"
  | bl {b : Bool} : DT O (.bl b) "bool"
  | int {i : Int} : DT O (.int i) "int"
  | str {s : Str} : DT O (.str s) "str"
  | lst {ds : List D} : DT O (.lst ds) "list"
  | tup {ds : List D} : DT O (.tup ds) "tuple"
  | mlst {a : Addr} {ds : List D} : (a, M.lst ds) ∈ O → DT O (.rf a) "list"
  | mdk {a : Addr} {kvs : List (Key × D)} : (a, M.dk kvs) ∈ O → DT O (.rf a) "dict"
theorem dt_ty {K : PySem.W.Frag} {H : Hp} {v : V} {t : String} (h : DT (B.L ++ O) d t) (m : MOk K B O H) (r : Rp K (vis B.F O H) v d) : TyX K H v (.type t) := by
  cases h with
  | non => cases r; exact .base .non
  | bl => cases r; exact .base (.bl _)
  | int => cases r; exact .base (.int _)
  | str => cases r; exact .base (.str _)
  | lst =>
    cases r with
    | lst hq r =>
      rcases vis_le.seq hq with (h | ⟨o, h⟩) | ⟨o, its, n, h, hc, _⟩
      · exact .base (.lst h)
      · exact .base (.frz h)
      · exact .kList h hc
  | tup =>
    cases r with
    | tup hq r =>
      rcases same_t vis_le hq with (h | ⟨o, h⟩) | ⟨o, its, n, h, hc, _⟩
      · exact .base (.tup h)
      · exact .fTuple h
      · exact .kTuple h hc
  | mlst hm =>
    cases r
    obtain ⟨vs, h, _⟩ := (List.mem_append.mp hm).elim (m.lent _ _) (m.mem _ _)
    exact .base (.lst h)
  | mdk hm =>
    cases r
    obtain ⟨vs, h, _⟩ := (List.mem_append.mp hm).elim (m.lent _ _) (m.mem _ _)
    exact .base (.dK h)
theorem rc_isi {t c : String} {K : PySem.W.Frag} (h : DT (B.L ++ O) d t) (hk : kitB t c = some b1) : RC K B O (rIsi K) [d, .ty c] (.bl b1) := fun xs H Q m r k => by
  cases r with
  | cons h1 r =>
    cases r with
    | cons h2 r =>
      cases r
      cases h2
      exact ⟨_, _, _, _, b1, rfl, .ty c, dt_ty h m h1, kit_ty hk, k _ H (Same.refl H) (.bl _)⟩

/-! ### items -/
theorem ix_imp {r : R2} (hr : IxR X r) (hrd : RD X.K B O r d1 d2 d) (ha : EV X B ρ O a d1) (hb : EV X B ρ O b d2) (hs : PlainIx b := by intro _ _; rfl) : EV X B ρ O (.Subscript a b pos) d := pe_imp (pe_ix hr ha hb hs) (two hrd)
theorem rd_ixL {i : Int} {K : PySem.W.Frag} (w : Vw (B.L ++ O) d1 ds) (h : atI ds i = some d) : RD K B O (rIxL K) d1 (.int i) d := fun x y H Q m r1 r2 k => by
  cases r2
  obtain ⟨a, vs, e, q, rl⟩ := w.sql m r1
  obtain ⟨j, h1, h2, h3, h4, h5⟩ := atI_get h
  obtain ⟨v, hv, rv⟩ := rl.get h2
  refine ⟨a, vs, i, v, e, rfl, q, ?_, k v H (Same.refl H) rv⟩
  unfold atI at h ⊢
  rw [rl.length]
  cases hi : ixN ds.length i with
  | none => rw [hi] at h; cases h
  | some j' =>
    rw [hi] at h
    have e' := (ixN_seq hi).1
    rw [h1] at e'
    cases e'
    exact hv
theorem rd_ixT {i : Int} {K : PySem.W.Frag} (h : atI ds i = some d) : RD K B O (rIxT K) (.tup ds) (.int i) d := fun x y H Q m r1 r2 k => by
  cases r2
  cases r1 with
  | tup hq rl =>
    obtain ⟨j, h1, h2, h3, h4, h5⟩ := atI_get h
    obtain ⟨v, hv, rv⟩ := rl.get h2
    refine ⟨_, _, i, v, rfl, rfl, same_t vis_le hq, ?_, k v H (Same.refl H) rv⟩
    unfold atI at h ⊢
    rw [rl.length]
    cases hi : ixN ds.length i with
    | none => rw [hi] at h; cases h
    | some j' =>
      rw [hi] at h
      have e' := (ixN_seq hi).1
      rw [h1] at e'
      cases e'
      exact hv
theorem rd_ixS {z : Str} {i : Int} {c : Nat} {K : PySem.W.Frag} (hz : z.length ≤ sizeLine) (h : atI z.cps.toList i = some c) : RD K B O rIxS (.str z) (.int i) (.str ⟨#[c]⟩) := fun x y H Q m r1 r2 k => by
  cases r1; cases r2
  exact ⟨z, i, c, rfl, rfl, hz, h, k _ H (Same.refl H) (.str _)⟩
theorem ev_ixL {i : Int} (ha : EV X B ρ O a d1) (hb : EV X B ρ O b (.int i)) (w : Vw (B.L ++ O) d1 ds) (h : atI ds i = some d) (hs : PlainIx b := by intro _ _; rfl) : EV X B ρ O (.Subscript a b pos) d := ix_imp ix_list (rd_ixL w h) ha hb hs
theorem ev_ixT {i : Int} (ha : EV X B ρ O a (.tup ds)) (hb : EV X B ρ O b (.int i)) (h : atI ds i = some d) (hs : PlainIx b := by intro _ _; rfl) : EV X B ρ O (.Subscript a b pos) d := ix_imp ix_tup (rd_ixT h) ha hb hs
theorem ev_ixS {z : Str} {i : Int} {c : Nat} (ha : EV X B ρ O a (.str z)) (hb : EV X B ρ O b (.int i)) (hz : z.length ≤ sizeLine) (h : atI z.cps.toList i = some c) (hs : PlainIx b := by intro _ _; rfl) : EV X B ρ O (.Subscript a b pos) (.str ⟨#[c]⟩) := ix_imp ix_str (rd_ixS hz h) ha hb hs

/-! ### slices -/
def tOo (K : PySem.W.Frag) (B : Gd) (ρ : List (Option D)) (O : Om) (i : Option Int) : TO := fun σ H Q => StOk K B ρ O σ H ∧ ∀ H', Same H H' → Q i H'
abbrev EO (X : Cx) (B : Gd) (ρ : List (Option D)) (O : Om) (e : Option Expr) (i : Option Int) : Prop := PO X e (tOo X.K B ρ O i)
theorem po_imp {e : Option Expr} {t t' : TO} (h : PO X e t) (w : ∀ σ H Q, t' σ H Q → t σ H Q) : PO X e t' := ⟨fun pins s σ H Q I q => h.run pins s σ H Q I (w σ H Q q)⟩
theorem eo_none : EO X B ρ O none none := po_imp po_none fun σ H Q ⟨st, k⟩ => k H (Same.refl H)
theorem eo_some {i : Int} (h : EV X B ρ O e (.int i)) : EO X B ρ O (some e) (some i) := po_imp (po_some h) fun σ H Q ⟨st, k⟩ => ⟨st, fun v H1 e1 r1 => by cases r1; exact ⟨i, rfl, k H1 e1⟩⟩
def cutD (xs : List D) (lo hi : Option Int) : List D := (xs.drop (HT.sIx xs.length 0 lo)).take (HT.sIx xs.length xs.length hi - HT.sIx xs.length 0 lo)
theorem RpL.cut {K : PySem.W.Frag} {H : Hp} {vs : List V} {ds : List D} (r : RpL K H vs ds) (lo hi : Option Int) : RpL K H (cutV vs lo hi) (cutD ds lo hi) := by
  unfold cutV cutD
  rw [r.length]
  exact (r.drop _).take _
theorem en_slice {lo hi : Option Expr} {l h : Option Int} {p2 : Pos} (ha : EV X B ρ O e d) (w : Vw (B.L ++ O) d ds) (hl : EO X B ρ O lo l) (hh : EO X B ρ O hi h) : EN X B ρ O (.Subscript e (.Slice lo hi none p2) pos) (cutD ds l h) :=
  pe_imp (pe_slice sl_list ha hl hh) fun σ H Q ⟨st, k⟩ => ⟨st, fun v H1 e1 r1 => ⟨st.same e1, fun H2 e2 => ⟨(st.same e1).same e2, fun H3 e3 => by
    have s3 := ((st.same e1).same e2).same e3
    have e13 := e2.trans e3
    obtain ⟨a, vs, ea, q, rl⟩ := w.sql s3.m (r1.mono (vis_same e13))
    exact ⟨a, vs, ea, q, new_same s3.m (rl.cut l h) fun q H' ws hq e' hv r => k q H' ws (e1.free (e13.free hq)) ((e1.trans e13).trans e') hv r⟩⟩⟩⟩
theorem ev_sliceS {lo hi : Option Expr} {l h : Option Int} {p2 : Pos} {z : Str} (ha : EV X B ρ O e (.str z)) (hl : EO X B ρ O lo l) (hh : EO X B ρ O hi h) (hz : z.length ≤ sizeLine) : EV X B ρ O (.Subscript e (.Slice lo hi none p2) pos) (.str (cutS z l h)) :=
  pe_imp (pe_slice sl_str ha hl hh) fun σ H Q ⟨st, k⟩ => ⟨st, fun v H1 e1 r1 => ⟨st.same e1, fun H2 e2 => ⟨(st.same e1).same e2, fun H3 e3 => by
    cases r1
    exact ⟨z, rfl, hz, k _ H3 ((e1.trans e2).trans e3) (.str _)⟩⟩⟩⟩

/-! ### in -/
theorem RpL.scals {K : PySem.W.Frag} {H : Hp} : ∀ {vs : List V} {ds : List D}, RpL K H vs ds → ds.all isScal = true → vs = ds.map scalD
  | _, _, .nil, _ => rfl
  | _, _, .cons h r, e => by
    simp only [List.all_cons, Bool.and_eq_true] at e
    rw [List.map_cons, rp_scal h e.1, r.scals e.2]
theorem rd_in {K : PySem.W.Frag} (w : Vq (B.L ++ O) d2 ds) (h1 : isScal d1 = true) (h2 : ds.all isScal = true) (h3 : flatV (scalD d1) = true) (h4 : (ds.map scalD).all flatV = true) : RD K B O (rIn K false) d1 d2 (.bl (inV (scalD d1) (ds.map scalD))) := fun x y H Q m r1 r2 k => by
  obtain ⟨a, vs, e, q, rl⟩ := w.sq m r2
  rw [rp_scal r1 h1, e]
  have ev := rl.scals h2
  subst ev
  exact ⟨a, _, rfl, q, h3, h4, k _ H (Same.refl H) (.bl _)⟩
theorem rd_notin {K : PySem.W.Frag} (w : Vq (B.L ++ O) d2 ds) (h1 : isScal d1 = true) (h2 : ds.all isScal = true) (h3 : flatV (scalD d1) = true) (h4 : (ds.map scalD).all flatV = true) : RD K B O (rIn K true) d1 d2 (.bl (!inV (scalD d1) (ds.map scalD))) := fun x y H Q m r1 r2 k => by
  obtain ⟨a, vs, e, q, rl⟩ := w.sq m r2
  rw [rp_scal r1 h1, e]
  have ev := rl.scals h2
  subst ev
  exact ⟨a, _, rfl, q, h3, h4, k _ H (Same.refl H) (.bl _)⟩
theorem inV_strs (x : Str) (ys : List Str) : inV (.str x) (ys.map V.str) = decide (x ∈ ys) := by
  unfold inV
  induction ys with
  | nil => simp
  | cons y ys ih =>
    rw [List.map_cons, List.any_cons, ih]
    have : eqV (.str y) (.str x) = decide (y = x) := by
      rw [Bool.eq_iff_iff]; simp [eqV]
    rw [this]
    by_cases h : y = x
    · subst h; simp
    · have h' : ¬ x = y := fun q => h q.symm
      simp [h, h']
theorem inV_ints (x : Int) (ys : List Int) : inV (.int x) (ys.map V.int) = decide (x ∈ ys) := by
  unfold inV
  induction ys with
  | nil => simp
  | cons y ys ih =>
    rw [List.map_cons, List.any_cons, ih]
    have : eqV (.int y) (.int x) = decide (y = x) := by
      rw [Bool.eq_iff_iff]; simp [eqV]
    rw [this]
    by_cases h : y = x
    · subst h; simp
    · have h' : ¬ x = y := fun q => h q.symm
      simp [h, h']
theorem rd_inS {K : PySem.W.Frag} {x : Str} {ys : List Str} (w : Vq (B.L ++ O) d2 (ys.map fun y => D.str y)) : RD K B O (rIn K false) (.str x) d2 (.bl (decide (x ∈ ys))) :=
  rd_imp (rd_in w rfl (by simp [isScal]) rfl (by simp [flatV, scalD])) (by rw [List.map_map]; exact congrArg D.bl (inV_strs x ys))
theorem rd_notinS {K : PySem.W.Frag} {x : Str} {ys : List Str} (w : Vq (B.L ++ O) d2 (ys.map fun y => D.str y)) : RD K B O (rIn K true) (.str x) d2 (.bl (!decide (x ∈ ys))) :=
  rd_imp (rd_notin w rfl (by simp [isScal]) rfl (by simp [flatV, scalD])) (by rw [List.map_map]; exact congrArg (fun b => D.bl (!b)) (inV_strs x ys))
theorem rd_inI {K : PySem.W.Frag} {x : Int} {ys : List Int} (w : Vq (B.L ++ O) d2 (ys.map fun y => D.int y)) : RD K B O (rIn K false) (.int x) d2 (.bl (decide (x ∈ ys))) :=
  rd_imp (rd_in w rfl (by simp [isScal]) rfl (by simp [flatV, scalD])) (by rw [List.map_map]; exact congrArg D.bl (inV_ints x ys))
theorem rd_notinI {K : PySem.W.Frag} {x : Int} {ys : List Int} (w : Vq (B.L ++ O) d2 (ys.map fun y => D.int y)) : RD K B O (rIn K true) (.int x) d2 (.bl (!decide (x ∈ ys))) :=
  rd_imp (rd_notin w rfl (by simp [isScal]) rfl (by simp [flatV, scalD])) (by rw [List.map_map]; exact congrArg (fun b => D.bl (!b)) (inV_ints x ys))
/-- one sign in a text -/
theorem rd_inC {K : PySem.W.Frag} {c : Nat} {z : Str} : RD K B O (fun x y H Q => ∃ (c : Nat) (z : Str), x = .str ⟨#[c]⟩ ∧ y = .str z ∧ Q (.bl (decide (c ∈ z.cps.toList))) H) (.str ⟨#[c]⟩) (.str z) (.bl (decide (c ∈ z.cps.toList))) := fun x y H Q m r1 r2 k => by
  cases r1; cases r2
  exact ⟨c, z, rfl, rfl, k _ H (Same.refl H) (.bl _)⟩

/-! ### methods of texts -/
theorem ev_m1 {id : String} {name : Str} {r : V → List V → Hp → VK → Prop} {z : Str} (slot : Slot "str" name id) (ty : typeOf (.builtin id) = pure (.type "method_descriptor")) (rule : MtR X id r) (ho : EV X B ρ O o (.str z)) (he : EV X B ρ O e d1)
    (hr : RC X.K B O (fun xs H Q => r (.str z) xs H Q) [d1] d)
    (hs : starEach [e] X.env = [(false, eval e X.env)] := by rfl) (hbase : attributeBase o name X.env (eval o X.env) = eval o X.env := by rfl) (hline : (apos.endLine == pos.line) = true := by rfl) : EV X B ρ O (.Call (.Attribute o name apos) [e] [] pos) d :=
  pe_imp (pe_m1 slot ty rule ho he hs hbase hline) fun σ H Q ⟨st, k⟩ => ⟨st, fun v H1 e1 r1 => by
    cases r1
    exact ⟨⟨z, rfl⟩, st.same e1, fun y H2 e2 r2 => hr [y] H2 Q ((st.same e1).same e2).m (.cons r2 .nil) fun v H3 e3 r3 => k v H3 ((e1.trans e2).trans e3) r3⟩⟩
theorem en_m1 {id : String} {name : Str} {r : V → List V → Hp → VK → Prop} {z : Str} (slot : Slot "str" name id) (ty : typeOf (.builtin id) = pure (.type "method_descriptor")) (rule : MtR X id r) (ho : EV X B ρ O o (.str z)) (he : EV X B ρ O e d1)
    (hr : RCN X.K B O (fun xs H Q => r (.str z) xs H Q) [d1] ds)
    (hs : starEach [e] X.env = [(false, eval e X.env)] := by rfl) (hbase : attributeBase o name X.env (eval o X.env) = eval o X.env := by rfl) (hline : (apos.endLine == pos.line) = true := by rfl) : EN X B ρ O (.Call (.Attribute o name apos) [e] [] pos) ds :=
  pe_imp (pe_m1 slot ty rule ho he hs hbase hline) fun σ H Q ⟨st, k⟩ => ⟨st, fun v H1 e1 r1 => by
    cases r1
    exact ⟨⟨z, rfl⟩, st.same e1, fun y H2 e2 r2 => hr [y] H2 Q ((st.same e1).same e2).m (.cons r2 .nil) fun p H3 ws hp e3 hv r3 => k p H3 ws (e1.free (e2.free hp)) ((e1.trans e2).trans e3) hv r3⟩⟩
theorem ev_find {z y : Str} (ho : EV X B ρ O o (.str z)) (he : EV X B ρ O e (.str y)) (hs : starEach [e] X.env = [(false, eval e X.env)] := by rfl) (hbase : attributeBase o "find" X.env (eval o X.env) = eval o X.env := by rfl) (hline : (apos.endLine == pos.line) = true := by rfl) :
    EV X B ρ O (.Call (.Attribute o "find" apos) [e] [] pos) (.int (Txt.find z y)) :=
  ev_m1 F.slot_str_find F.type_str_find mt_find ho he (fun xs H Q m r k => by
    cases r with
    | cons h r => cases r; cases h; exact ⟨z, y, rfl, rfl, k _ H (Same.refl H) (.int _)⟩) hs hbase hline
theorem en_split {z y : Str} (ho : EV X B ρ O o (.str z)) (he : EV X B ρ O e (.str y)) (hy : (y.length == 0) = false) (hz : z.length + 2 ≤ sizeLine) (hs : starEach [e] X.env = [(false, eval e X.env)] := by rfl) (hbase : attributeBase o "split" X.env (eval o X.env) = eval o X.env := by rfl) (hline : (apos.endLine == pos.line) = true := by rfl) :
    EN X B ρ O (.Call (.Attribute o "split" apos) [e] [] pos) ((Txt.split z y).map fun s => D.str s) :=
  en_m1 F.slot_str_split F.type_str_split mt_split ho he (fun xs H Q m r k => by
    cases r with
    | cons h r => cases r; cases h; exact ⟨z, y, rfl, rfl, hy, hz, new_same m (.ofStrs _) k⟩) hs hbase hline
theorem ev_join {z : Str} {ys : List Str} (ho : EV X B ρ O o (.str z)) (he : EV X B ρ O e d1) (w : Vq (B.L ++ O) d1 (ys.map fun s => D.str s)) (hz : (ys.map (·.length)).sum + ys.length * z.length ≤ 16777216)
    (hs : starEach [e] X.env = [(false, eval e X.env)] := by rfl) (hbase : attributeBase o "join" X.env (eval o X.env) = eval o X.env := by rfl) (hline : (apos.endLine == pos.line) = true := by rfl) :
    EV X B ρ O (.Call (.Attribute o "join" apos) [e] [] pos) (.str (Txt.join z ys)) :=
  ev_m1 F.slot_str_join F.type_str_join mt_join ho he (fun xs H Q m r k => by
    obtain ⟨a, vs, e, q, rl⟩ := vq_rp w m r
    have ev := rl.strs
    subst ev
    exact ⟨z, a, ys, rfl, e, q, hz, k _ H (Same.refl H) (.str _)⟩) hs hbase hline

/-! ### lists that change -/
def putO (O : Om) (p : Addr) (m : M) : Om := O.map fun q => if q.1 = p then (p, m) else q
theorem putO_keys {p : Addr} {m : M} : (putO O p m).map (·.1) = O.map (·.1) := by
  unfold putO
  rw [List.map_map]
  refine List.map_congr_left fun q _ => ?_
  show (if q.1 = p then (p, m) else q).1 = q.1
  split
  · rename_i h; exact h.symm
  · rfl
theorem vis_put {F : Addr → Bool} {H : Hp} {p : Addr} {o : HO} (h : has O p = true) : vis F O (upd H p o) = vis F O H := by
  funext a
  unfold vis
  by_cases e : a = p
  · subst e
    rw [h, Bool.or_true, if_pos rfl, if_pos rfl]
  · rw [upd_ne e]
/-- a mutable object gets another content -/
theorem StOk.put {K : PySem.W.Frag} {σ : L2.St} {H : Hp} {p : Addr} {m m' : M} {o : HO} (st : StOk K B ρ O σ H) (hm : (p, m) ∈ O) (r : MRp K (vis B.F O H) (upd H p o) p m') : StOk K B ρ (putO O p m') σ (upd H p o) ∧ vis B.F (putO O p m') (upd H p o) = vis B.F O H := by
  have hp : has O p = true := has_mem.mpr ⟨m, hm⟩
  have ev : vis B.F (putO O p m') (upd H p o) = vis B.F O H := by rw [vis_keys (O' := O) putO_keys, vis_put hp]
  refine ⟨⟨⟨fun a u hb => ?_, fun a u ha => ?_, by rw [putO_keys]; exact st.m.nd, fun a u ha => ?_⟩, by rw [ev]; exact st.env⟩, ev⟩
  · obtain ⟨h1, h2⟩ := st.m.base a u hb
    have ne : a ≠ p := fun z => by rw [z, hp] at h2; cases h2
    exact ⟨by rw [upd_ne ne]; exact h1, by rw [has_keys putO_keys]; exact h2⟩
  · rw [ev]
    unfold putO at ha
    obtain ⟨⟨b, n⟩, hb, e⟩ := List.mem_map.mp ha
    by_cases q : b = p
    · have e' : (if b = p then (p, m') else (b, n)) = (a, u) := e
      rw [if_pos q] at e'
      cases e'
      exact r
    · have e' : (if b = p then (p, m') else (b, n)) = (a, u) := e
      rw [if_neg q] at e'
      cases e'
      exact (st.m.mem _ _ hb).mono (Same.refl _) fun o h => by rw [upd_ne q]; exact h
  · rw [ev]
    have ne : a ≠ p := fun z => by
      obtain ⟨u', hu⟩ := B.ok a (B.lF a u ha)
      have := (st.m.base a u' hu).2
      rw [z, hp] at this; cases this
    exact (st.m.lent a u ha).mono (Same.refl _) fun o h => by rw [upd_ne ne]; exact h
/-- one entry's content changed -/
inductive Put : Om → Addr → M → M → Om → Prop where
  | head {O : Om} {p : Addr} {m m' : M} : Put ((p, m) :: O) p m m' ((p, m') :: O)
  | tail {O O' : Om} {q : Addr × M} {p : Addr} {m m' : M} : Put O p m m' O' → Put (q :: O) p m m' (q :: O')
theorem Put.mem {p : Addr} {m m' : M} : ∀ {O O' : Om}, Put O p m m' O' → (p, m) ∈ O
  | _, _, .head => List.mem_cons_self
  | _, _, .tail h => List.mem_cons_of_mem _ h.mem
theorem Put.eq {p : Addr} {m m' : M} : ∀ {O O' : Om}, Put O p m m' O' → (O.map (·.1)).Nodup → putO O p m' = O'
  | _, _, .head (O := O), nd => by
    rw [List.map_cons, List.nodup_cons] at nd
    show (if p = p then (p, m') else (p, m)) :: putO O p m' = _
    rw [if_pos rfl]
    congr 1
    unfold putO
    refine (List.map_congr_left fun q hq => ?_).trans (List.map_id _)
    have : q.1 ≠ p := fun z => nd.1 (z ▸ List.mem_map_of_mem (f := (·.1)) hq)
    show (if q.1 = p then (p, m') else q) = q
    rw [if_neg this]
  | _, _, .tail (q := q) (O := O) h, nd => by
    rw [List.map_cons, List.nodup_cons] at nd
    have : q.1 ≠ p := fun z => nd.1 (z ▸ List.mem_map_of_mem (f := (·.1)) h.mem)
    show (if q.1 = p then (p, m') else q) :: putO O p m' = _
    rw [if_neg this, h.eq nd.2]
theorem StOk.putP {K : PySem.W.Frag} {σ : L2.St} {H : Hp} {p : Addr} {m m' : M} {o : HO} (st : StOk K B ρ O σ H) (hm : Put O p m m' O') (r : MRp K (vis B.F O H) (upd H p o) p m') : StOk K B ρ O' σ (upd H p o) ∧ vis B.F O' (upd H p o) = vis B.F O H := by
  have h := st.put hm.mem r
  rw [hm.eq st.m.nd] at h
  exact h
theorem eg_append {p : Addr} (ho : EV X B ρ O o (.rf p)) (hm : (p, M.lst ds) ∈ O) (he : EG X B ρ O e d O1) (hz : ds.length < sizeLine) (hm1 : Put O1 p (.lst ds) (.lst (ds ++ [d])) O2)
    (hbase : attributeBase o "append" X.env (eval o X.env) = eval o X.env := by rfl)
    (hfew : ((backTo pos (starEach [e] X.env)).all (fun x => !x.1) && (backToKw pos (keywordEach [] X.env)).all (fun x => x.1.isSome)
      && decide ([e].length + ([] : List Keyword).length + (if ([] : List Keyword).isEmpty then 0 else 1) < 30)) = true := by rfl)
    (hline : (apos.endLine == pos.line) = true := by rfl) (hs : starEach [e] X.env = (false, eval e X.env) :: starEach [] X.env := by rfl) (hplain : (backTo pos (starEach [] X.env)).any (·.1) = false := by rfl) :
    EG X B ρ O (.Call (.Attribute o "append" apos) [e] [] pos) .non O2 :=
  pe_imp (pe_bm PySem.F.plainAttrs_list PySem.F.slot_list_append PySem.F.type_list_append mt_append ho (pa_cons he pa_nil hs) hbase hfew hline hs hplain) fun σ H Q ⟨st, k⟩ => ⟨st, fun v H1 e1 r1 => by
    cases r1
    have s1 := st.same e1
    obtain ⟨vs, h1, h2⟩ := s1.m.mem _ _ hm
    refine ⟨.inl ⟨rfl, vs, .inl (.inl h1)⟩, s1, fun w H2 s2 e2 r2 => ?_⟩
    obtain ⟨ws, h3, h4⟩ := s2.m.mem _ _ hm1.mem
    obtain ⟨s3, ev⟩ := s2.putP (o := .lst (ws ++ [w])) hm1 ⟨_, upd_same, h4.append (.cons r2 .nil)⟩
    refine ⟨p, ws, w, rfl, rfl, h3, by rw [h4.length]; exact hz, k .non _ s3 ?_ .non⟩
    rw [ev]
    exact (vis_same e1).trans e2⟩
theorem eg_pop {p : Addr} (ho : EV X B ρ O o (.rf p)) (hd : ds[ds.length - 1]? = some d) (hm : Put O p (.lst ds) (.lst ds.dropLast) O')
    (hbase : attributeBase o "pop" X.env (eval o X.env) = eval o X.env := by rfl) (hline : (apos.endLine == pos.line) = true := by rfl) :
    EG X B ρ O (.Call (.Attribute o "pop" apos) [] [] pos) d O' :=
  pe_imp (pe_bm0 PySem.F.plainAttrs_list PySem.F.slot_list_pop PySem.F.type_list_pop mt_pop ho hbase hline) fun σ H Q ⟨st, k⟩ => ⟨st, fun v H1 e1 r1 => by
    cases r1
    have s1 := st.same e1
    obtain ⟨vs, h1, h2⟩ := s1.m.mem _ _ hm.mem
    obtain ⟨w, hw, rw'⟩ := h2.get hd
    obtain ⟨s3, ev⟩ := s1.putP (o := .lst vs.dropLast) hm ⟨_, upd_same, h2.dropLast⟩
    refine ⟨.inl ⟨rfl, vs, .inl (.inl h1)⟩, p, vs, w, rfl, rfl, h1, by rw [h2.length]; exact hw, k w _ s3 ?_ ?_⟩
    · rw [ev]; exact vis_same e1
    · rw [ev]; exact rw'⟩
/-- xs[i] = e -/
theorem j_setIx {p : Addr} {i : Int} {j : Nat} (ho : EV X B ρ O o (.rf p)) (hi : EV X B ρ O c (.int i)) (he : EV X B ρ O e d) (hm : Put O p (.lst ds) (.lst (ds.set j d)) O') (hj : ixN ds.length i = some j) (h : A.nx ρ O')
    (ha : ∀ v, assign (.Subscript o c pos') X.env v = (do
      let ov ← holding [v] (eval o X.env)
      let iv ← holding [v, ov] (eval c X.env)
      standAt pos'
      holding [v, ov, iv] (setItem ov iv v)
      release [v, ov, iv] []) := by intro _; rfl)
    (hs : swapsWithSole [.Subscript o c pos'] e pos.line X.env = pure false := by rfl) (hw : swappedStores [.Subscript o c pos'] e X.env = pure none := by rfl)
    (h1 : (assignEach [.Subscript o c pos'] X.env).map (·.2) = [assign (.Subscript o c pos') X.env] := by rfl) : J1 X B (.Assign [.Subscript o c pos'] e pos) ρ O A :=
  ps_imp (ps_asg he (pg_sub ho hi set_list ha) hs hw h1) fun Dn σ H ⟨st, pp⟩ => ⟨st, fun v H1 e1 r1 => ⟨st.same e1, fun u H2 e2 r2 => ⟨(st.same e1).same e2, fun w H3 e3 r3 => by
    cases r2
    cases r3
    have s3 := ((st.same e1).same e2).same e3
    obtain ⟨vs, h2, h4⟩ := s3.m.mem _ _ hm.mem
    obtain ⟨s4, ev⟩ := s3.putP (o := .lst (vs.set j v)) hm ⟨_, upd_same, h4.set (r1.mono (vis_same (e2.trans e3))) j⟩
    refine ⟨p, vs, i, j, rfl, rfl, h2, by rw [h4.length]; exact hj, pp.nx ρ _ σ _ h s4 ?_⟩
    rw [ev]
    exact vis_same ((e1.trans e2).trans e3)⟩⟩⟩
/-- xs + ys -/
theorem SqL.mutable {K : PySem.W.Frag} {H : Hp} {p : Addr} {xs : List V} (h : H p = some (.lst xs)) : SqL K H p xs := .inl (.inl h)
end
end DL

set_option Elab.async false
set_option linter.all false
set_option maxRecDepth 100000
set_option maxHeartbeats 2000000
namespace DL
open PySem PySem.Spec PyProof.Rows L2

/-! ### what is handed back: mutables become values -/
mutual
inductive Frz (O : Om) : D → D → Prop where
  | refl (d : D) : Frz O d d
  | mlst {p : Addr} {ds ds' : List D} : (p, M.lst ds) ∈ O → FrzL O ds ds' → Frz O (.rf p) (.lst ds')
  | mins {p C : Addr} {ns : List Str} {ds ds' : List D} : (p, M.ins C ns ds) ∈ O → FrzL O ds ds' → Frz O (.rf p) (.obj C ns ds')
  | tup {ds ds' : List D} : FrzL O ds ds' → Frz O (.tup ds) (.tup ds')
  | lst {ds ds' : List D} : FrzL O ds ds' → Frz O (.lst ds) (.lst ds')
inductive FrzL (O : Om) : List D → List D → Prop where
  | refl (ds : List D) : FrzL O ds ds
  | cons {d d' : D} {ds ds' : List D} : Frz O d d' → FrzL O ds ds' → FrzL O (d :: ds) (d' :: ds')
end
section
variable {K : PySem.W.Frag} {B : Gd} {O : Om} {H : Hp}
theorem vis_all : Same (vis B.F O H) (vis B.F [] H) := fun a o h => by
  obtain ⟨h1, h2, h3⟩ := vis_some.mp h
  exact vis_some.mpr ⟨h1, rfl, h3⟩
theorem MOk.visM (m : MOk K B O H) {p : Addr} {o : HO} (hp : has O p = true) (e : H p = some o) : vis B.F [] H p = some o := by
  refine vis_some.mpr ⟨?_, rfl, e⟩
  cases q : B.F p with
  | false => rfl
  | true =>
    obtain ⟨u, e'⟩ := B.ok p q
    have := (m.base p u e').2
    rw [hp] at this; cases this
mutual
theorem Rp.frz {Hv Hv' : Hp} (e : Same Hv Hv') (hm : ∀ p m, (p, m) ∈ O → MRp K Hv Hv' p m) : ∀ {v : V} {d d' : D}, Frz O d d' → Rp K Hv v d → Rp K Hv' v d'
  | _, _, _, .refl d, r => r.mono e
  | _, _, _, .mlst h f, r => by
    cases r
    obtain ⟨vs, h1, h2⟩ := hm _ _ h
    exact .lst (.inl (.inl h1)) (RpL.frz e hm f h2)
  | _, _, _, .mins h f, r => by
    cases r
    obtain ⟨dx, fv, h1, h2, h3⟩ := hm _ _ h
    exact .obj h1 h2 (RpL.frz e hm f h3)
  | _, _, _, .tup f, r => by
    cases r with
    | tup hq r => exact .tup (same_t e hq) (RpL.frz e hm f r)
  | _, _, _, .lst f, r => by
    cases r with
    | lst hq r => exact .lst (e.seq hq) (RpL.frz e hm f r)
theorem RpL.frz {Hv Hv' : Hp} (e : Same Hv Hv') (hm : ∀ p m, (p, m) ∈ O → MRp K Hv Hv' p m) : ∀ {vs : List V} {ds ds' : List D}, FrzL O ds ds' → RpL K Hv vs ds → RpL K Hv' vs ds'
  | _, _, _, .refl ds, r => r.mono e
  | _, _, _, .cons f g, r => by
    cases r with
    | cons h r => exact .cons (Rp.frz e hm f h) (RpL.frz e hm g r)
end
theorem MOk.frz (m : MOk K B O H) : ∀ p mm, (p, mm) ∈ O → MRp K (vis B.F O H) (vis B.F [] H) p mm := fun p mm h =>
  (m.mem p mm h).mono (Same.refl _) fun o q => m.visM (has_mem.mpr ⟨_, h⟩) q
end

/-! ### contracts -/
/-- what a callee finds: F hidden, the mutables L of the caller readable -/
structure Bor (K : PySem.W.Frag) (F : Addr → Bool) (L O : Om) (H : Hp) : Prop where
  ok : ∀ a, F a = true → ∃ o, H a = some o
  lF : ∀ a m, (a, m) ∈ L → F a = true
  lent : ∀ a m, (a, m) ∈ L → MRp K (vis F O H) H a m
/-- values in, a value out, nothing changed -/
def spP (K : PySem.W.Frag) (Ar : Om → List D → D → Prop) : Sp := fun vs H Q _ => ∃ (F : Addr → Bool) (L : Om) (ds : List D) (d : D), Bor K F L [] H ∧ RpL K (vis F [] H) vs ds ∧ Ar L ds d ∧
  ∀ v H', Same H H' → Rp K (vis F [] H') v d → Q v H'
/-- a new list out, that nobody else holds -/
def spN (K : PySem.W.Frag) (Ar : Om → List D → List D → Prop) : Sp := fun vs H Q _ => ∃ (F : Addr → Bool) (L : Om) (ds es : List D), Bor K F L [] H ∧ RpL K (vis F [] H) vs ds ∧ Ar L ds es ∧
  ∀ p H' ws, H p = none → Same H H' → H' p = some (.lst ws) → RpL K (vis F [(p, .lst es)] H') ws es → Q (.ref p) H'
/-- an __init__: the fields of the new instance -/
def spI (K : PySem.W.Frag) (C : Addr) (Ar : Om → List D → List Str → List D → Prop) : Sp := fun vs H Q _ => ∃ (F : Addr → Bool) (L : Om) (x dx : Addr) (us : List V) (ds : List D) (ns : List Str) (fs : List D), vs = .ref x :: us ∧ Bor K F L [(x, .ins C [] [])] H ∧ F x = false ∧
  H x = some (.ins C dx []) ∧ RpL K (vis F [(x, .ins C [] [])] H) us ds ∧ Ar L ds ns fs ∧
  ∀ H' dx' fv, (∀ a o, a ≠ x → H a = some o → H' a = some o) → H' x = some (.ins C dx' fv) → fv.map (·.1) = ns → RpL K (vis F [(x, .ins C [] [])] H') (fv.map (·.2)) fs → Q .non H'
/-- a def that keeps a promise, with what its call needs -/
structure Fok (P : Program) (w : World) (K : PySem.W.Frag) (mg : Str → Option Value) (base : Heap) (CX : CXT) (k : Nat) (f : Addr) (sp : Sp) : Prop where
  ex : ∃ fd ps, FnOk P w K mg base CX k f fd ps sp ∧ Binds K fd ps []
  kp : PySem.W.keepIn K (.ref f) = true
theorem Fok.raw {P : Program} {w : World} {K : PySem.W.Frag} {mg : Str → Option Value} {base : Heap} {CX : CXT} {k : Nat} {f : Addr} {sp : Sp} (F : Fok P w K mg base CX k f sp) : FnR P w K mg base CX k f sp := by
  obtain ⟨fd, ps, G, b⟩ := F.ex
  have h := G.raw b .nil
  exact h.imp fun vs H Q E q => by rw [List.append_nil]; exact q
/-- .. by its name -/
structure Cal (P : Program) (w : World) (K : PySem.W.Frag) (mg : Str → Option Value) (base : Heap) (CX : CXT) (k : Nat) (x : Str) (sp : Sp) : Prop where
  ex : ∃ f, Fok P w K mg base CX k f sp ∧ mg x = some (.ref f)
theorem pe_callR {X : Cx} {CX : CXT} {k : Nat} {f : Addr} {sp : Sp} {E : XK} {x : Str} {e : Expr} {es : List Expr} {t : TA} {p pos : Pos} (F : FnR X.prog X.w X.K X.mg X.base CX k f sp) (hr : Room k X.A) (hg : Gl X x) (hm : X.mg x = some (.ref f)) (hk : PySem.W.keepIn X.K (.ref f) = true) (hx : Passes CX X E)
    (ha : PA X (e :: es) t) (hdb : (x == ("__debug__" : Str)) = false := by decide) (he : starEach (e :: es) X.env = (false, eval e X.env) :: starEach es X.env := by rfl) (hpl : (backTo pos (starEach es X.env)).any (·.1) = false := by rfl) :
    PE X (.Call (.Name x p) (e :: es) [] pos) (fun σ H Q => t σ H fun vs H1 => sp vs H1 Q E) := by
  refine ⟨fun pins s σ H Q I h => ?_⟩
  refine wpAny_Call_Name_kw (ld_glob I hg hm ?_ hdb)
  refine PySem.W.callWith_K (h₀ := X.base) I.ok.mod.kin hk (thn (ha.run pos pins s σ H _ I h) fun us s1 ⟨vs, H1, I1, r, q⟩ => ⟨I1.kIn, ?_⟩) he hpl
  exact wpAny_call (run_fnR F hr hx I1 r q)

section
variable {X : Cx} {B : Gd} {ρ ρ' : List (Option D)} {O O' O1 O2 : Om} {A : AE} {a b c e o : Expr} {es : List Expr} {d d1 d2 d3 : D} {ds : List D} {pos pos' p apos : Pos} {b1 b2 : Bool} {st : Stmt} {ss rest : List Stmt} {x : Str} {k : Nat} {C : Addr}
/-- the caller's frame for a callee -/
def frF (B : Gd) (O : Om) : Addr → Bool := fun a => B.F a || has O a
theorem vis_fr {H : Hp} : vis (frF B O) [] H = vis B.F O H := by
  funext a
  unfold vis frF
  show (if (B.F a || has O a || false) = true then none else H a) = _
  rw [Bool.or_false]
theorem vis_fr1 {H : Hp} {q : Addr} {m : M} : vis (frF B O) [(q, m)] H = vis B.F ((q, m) :: O) H := by
  funext a
  unfold vis frF
  rw [has_cons, has_cons]
  show (if (B.F a || has O a || (q == a || false)) = true then none else H a) = _
  rw [Bool.or_false, Bool.or_assoc, Bool.or_comm (has O a)]
theorem fr_ok {K : PySem.W.Frag} {H : Hp} (m : MOk K B O H) : ∀ a, frF B O a = true → ∃ o, H a = some o := fun a h => by
  unfold frF at h
  rw [Bool.or_eq_true] at h
  rcases h with h | h
  · obtain ⟨o, e⟩ := B.ok a h
    exact ⟨o, (m.base a o e).1⟩
  · obtain ⟨mm, e⟩ := has_mem.mp h
    exact (m.mem a mm e).some
theorem bor_of {K : PySem.W.Frag} {H : Hp} (m : MOk K B O H) : Bor K (frF B O) (B.L ++ O) [] H :=
  ⟨fr_ok m, fun a mm h => by
    unfold frF
    rcases List.mem_append.mp h with h | h
    · rw [B.lF a mm h]; rfl
    · rw [has_mem.mpr ⟨mm, h⟩, Bool.or_true], fun a mm h => by
    rw [vis_fr]
    exact (List.mem_append.mp h).elim (m.lent a mm) (m.mem a mm)⟩
theorem spP_use {K : PySem.W.Frag} {Ar : Om → List D → D → Prop} {H : Hp} {Q : VK} {E : XK} {vs : List V} (m : MOk K B O H) (r : RpL K (vis B.F O H) vs ds) (h : Ar (B.L ++ O) ds d) (k : ∀ v H', Same H H' → Rp K (vis B.F O H') v d → Q v H') : spP K Ar vs H Q E :=
  ⟨frF B O, B.L ++ O, ds, d, bor_of m, by rw [vis_fr]; exact r, h, fun v H' e r' => k v H' e (by rw [vis_fr] at r'; exact r')⟩
theorem spN_use {K : PySem.W.Frag} {Ar : Om → List D → List D → Prop} {H : Hp} {Q : VK} {E : XK} {vs : List V} {fs : List D} (m : MOk K B O H) (r : RpL K (vis B.F O H) vs ds) (h : Ar (B.L ++ O) ds fs) (k : ∀ p H' ws, H p = none → Same H H' → H' p = some (.lst ws) → RpL K (vis B.F ((p, .lst fs) :: O) H') ws fs → Q (.ref p) H') : spN K Ar vs H Q E :=
  ⟨frF B O, B.L ++ O, ds, fs, bor_of m, by rw [vis_fr]; exact r, h, fun p H' ws hp e hv r' => k p H' ws hp e hv (by rw [vis_fr1] at r'; exact r')⟩
/-- f(..) -/
theorem ev_call {Ar : Om → List D → D → Prop} (c : Cal X.prog X.w X.K X.mg X.base CX0 k x (spP X.K Ar)) (hr : Room k X.A) (hg : Gl X x) (ha : EA X B ρ O (e :: es) ds) (h : Ar (B.L ++ O) ds d) (hdb : (x == ("__debug__" : Str)) = false := by decide)
    (he : starEach (e :: es) X.env = (false, eval e X.env) :: starEach es X.env := by rfl) (hpl : (backTo pos (starEach es X.env)).any (·.1) = false := by rfl) : EV X B ρ O (.Call (.Name x p) (e :: es) [] pos) d := by
  obtain ⟨f, F, hm⟩ := c.ex
  exact pe_imp (pe_callR (E := E0) F.raw hr hg hm F.kp pass0 ha hdb he hpl) fun σ H Q ⟨st, k⟩ => ⟨st, fun vs H1 e1 r1 => spP_use (st.same e1).m r1 h fun v H2 e2 r2 => k v H2 (e1.trans e2) r2⟩
theorem eg_call {Ar : Om → List D → D → Prop} (c : Cal X.prog X.w X.K X.mg X.base CX0 k x (spP X.K Ar)) (hr : Room k X.A) (hg : Gl X x) (ha : EGA X B ρ O (e :: es) ds O') (h : Ar (B.L ++ O') ds d) (hdb : (x == ("__debug__" : Str)) = false := by decide)
    (he : starEach (e :: es) X.env = (false, eval e X.env) :: starEach es X.env := by rfl) (hpl : (backTo pos (starEach es X.env)).any (·.1) = false := by rfl) : EG X B ρ O (.Call (.Name x p) (e :: es) [] pos) d O' := by
  obtain ⟨f, F, hm⟩ := c.ex
  exact pe_imp (pe_callR (E := E0) F.raw hr hg hm F.kp pass0 ha hdb he hpl) fun σ H Q ⟨st, k⟩ => ⟨st, fun vs H1 s1 e1 r1 => spP_use s1.m r1 h fun v H2 e2 r2 => k v H2 (s1.same e2) (e1.trans (vis_same e2)) r2⟩
theorem en_call {Ar : Om → List D → List D → Prop} {fs : List D} (c : Cal X.prog X.w X.K X.mg X.base CX0 k x (spN X.K Ar)) (hr : Room k X.A) (hg : Gl X x) (ha : EA X B ρ O (e :: es) ds) (h : Ar (B.L ++ O) ds fs) (hdb : (x == ("__debug__" : Str)) = false := by decide)
    (he : starEach (e :: es) X.env = (false, eval e X.env) :: starEach es X.env := by rfl) (hpl : (backTo pos (starEach es X.env)).any (·.1) = false := by rfl) : EN X B ρ O (.Call (.Name x p) (e :: es) [] pos) fs := by
  obtain ⟨f, F, hm⟩ := c.ex
  exact pe_imp (pe_callR (E := E0) F.raw hr hg hm F.kp pass0 ha hdb he hpl) fun σ H Q ⟨st, k⟩ => ⟨st, fun vs H1 e1 r1 => spN_use (st.same e1).m r1 h fun p H2 ws hp e2 hv r2 => k p H2 ws (e1.free hp) (e1.trans e2) hv r2⟩

/-! ### fields -/
theorem look_at : ∀ {fv : List (Str × V)} {ns : List Str} {f : Str} {i : Nat} {v : V}, fv.map (·.1) = ns → ns.idxOf? f = some i → (fv.map (·.2))[i]? = some v → fv.lookup f = some v
  | [], _, _, _, _, rfl, h, _ => by simp at h
  | (g, u) :: fv, _, f, i, v, rfl, h, hv => by
    rw [List.map_cons, List.idxOf?_cons] at h
    by_cases e : g = f
    · subst e
      simp at h
      subst h
      simp at hv
      subst hv
      simp [List.lookup]
    · have e1 : (g == f) = false := beq_eq_false_iff_ne.mpr e
      have e2 : (f == g) = false := beq_eq_false_iff_ne.mpr (Ne.symm e)
      rw [e1] at h
      simp only [Bool.false_eq_true, if_false, Option.map_eq_some_iff] at h
      obtain ⟨j, hj, rfl⟩ := h
      rw [List.lookup_cons, e2]
      exact look_at rfl hj (by simpa using hv)
theorem look_no : ∀ {fv : List (Str × V)} {ns : List Str} {f : Str}, fv.map (·.1) = ns → ns.idxOf? f = none → fv.lookup f = none
  | [], _, _, rfl, _ => rfl
  | (g, u) :: fv, _, f, rfl, h => by
    rw [List.map_cons, List.idxOf?_cons] at h
    by_cases e : g = f
    · subst e; simp at h
    · have e1 : (g == f) = false := beq_eq_false_iff_ne.mpr e
      have e2 : (f == g) = false := beq_eq_false_iff_ne.mpr (Ne.symm e)
      rw [e1] at h
      simp only [Bool.false_eq_true, if_false, Option.map_eq_none_iff] at h
      rw [List.lookup_cons, e2]
      exact look_no rfl h
/-- an instance: one that stays, or a mutable -/
def Vo (O : Om) (d : D) (C : Addr) (ns : List Str) (ds : List D) : Prop := d = .obj C ns ds ∨ ∃ a, d = .rf a ∧ (a, M.ins C ns ds) ∈ O
theorem Vo.at {K : PySem.W.Frag} {H : Hp} {v : V} {ns : List Str} (w : Vo (B.L ++ O) d C ns ds) (m : MOk K B O H) (r : Rp K (vis B.F O H) v d) : ∃ a dx fv, v = .ref a ∧ H a = some (.ins C dx fv) ∧ fv.map (·.1) = ns ∧ RpL K (vis B.F O H) (fv.map (·.2)) ds := by
  rcases w with rfl | ⟨a, rfl, h⟩
  · cases r with
    | obj h1 h2 h3 => exact ⟨_, _, _, rfl, vis_le _ _ h1, h2, h3⟩
  · cases r
    obtain ⟨dx, fv, h1, h2, h3⟩ := (List.mem_append.mp h).elim (m.lent _ _) (m.mem _ _)
    exact ⟨_, dx, fv, rfl, h1, h2, h3⟩
theorem ev_fld {ns : List Str} {f : Str} {i : Nat} (he : EV X B ρ O e d1) (w : Vo (B.L ++ O) d1 C ns ds) (c : Cls X.K C) (n : NoAttr X.K C f) (hi : ns.idxOf? f = some i) (hd : ds[i]? = some d) (hb : attributeBase e f X.env (eval e X.env) = eval e X.env := by rfl) :
    EV X B ρ O (.Attribute e f pos) d :=
  pe_imp (pe_fld he hb) fun σ H Q ⟨st, k⟩ => ⟨st, fun v H1 e1 r1 => by
    obtain ⟨a, dx, fv, ea, h1, h2, h3⟩ := w.at (st.same e1).m r1
    obtain ⟨u, hu, ru⟩ := h3.get hd
    exact ⟨a, C, dx, fv, u, ea, h1, c, n, look_at h2 hi hu, k u H1 e1 ru⟩⟩
/-- C.NAME -/
theorem ev_cval {f : Str} {mc : Value} {v : V} {u : Value} (he : EV X B ρ O e (.rf C)) (rd : ClX.CRead X.K C mc) (cv : ClX.CVal X.K C mc f v u) (rp : ∀ H, Rp X.K H v d) (hb : attributeBase e f X.env (eval e X.env) = eval e X.env := by rfl) : EV X B ρ O (.Attribute e f pos) d :=
  pe_imp (ClX.pe_cval he hb) fun σ H Q ⟨st, k⟩ => ⟨st, fun v H1 e1 r1 => by
    cases r1
    exact ⟨C, mc, _, _, rfl, rd, cv, k _ H1 e1 (rp _)⟩⟩
/-- self.f = e, a new field -/
theorem put_new : ∀ {fv : List (Str × V)} {f : Str} {v : V}, (fv.map (·.1)).idxOf? f = none → putF f v fv = fv ++ [(f, v)]
  | [], _, _, _ => rfl
  | (g, u) :: fv, f, v, h => by
    rw [List.map_cons, List.idxOf?_cons] at h
    by_cases e : g = f
    · subst e; simp at h
    · have e1 : (g == f) = false := beq_eq_false_iff_ne.mpr e
      rw [e1] at h
      simp only [Bool.false_eq_true, if_false, Option.map_eq_none_iff] at h
      show (if g = f then (g, v) :: fv else (g, u) :: putF f v fv) = _
      rw [if_neg e, put_new h]
      rfl
theorem put_at : ∀ {fv : List (Str × V)} {f : Str} {v : V} {i : Nat}, (fv.map (·.1)).idxOf? f = some i → (putF f v fv).map (·.1) = fv.map (·.1) ∧ (putF f v fv).map (·.2) = (fv.map (·.2)).set i v
  | [], _, _, _, h => by simp at h
  | (g, u) :: fv, f, v, i, h => by
    rw [List.map_cons, List.idxOf?_cons] at h
    by_cases e : g = f
    · subst e
      simp at h
      subst h
      have : putF g v ((g, u) :: fv) = (g, v) :: fv := by
        show (if g = g then (g, v) :: fv else (g, u) :: putF g v fv) = _
        rw [if_pos rfl]
      rw [this]
      exact ⟨rfl, rfl⟩
    · have e1 : (g == f) = false := beq_eq_false_iff_ne.mpr e
      rw [e1] at h
      simp only [Bool.false_eq_true, if_false, Option.map_eq_some_iff] at h
      obtain ⟨j, hj, rfl⟩ := h
      have : putF f v ((g, u) :: fv) = (g, u) :: putF f v fv := by
        show (if g = f then (g, v) :: fv else (g, u) :: putF f v fv) = _
        rw [if_neg e]
      obtain ⟨h1, h2⟩ := put_at (v := v) hj
      rw [this, List.map_cons, List.map_cons, List.map_cons, List.map_cons, h1, h2]
      exact ⟨rfl, rfl⟩
theorem j_fldNew {q : Addr} {ns : List Str} {f : Str} (ho : EV X B ρ O o (.rf q)) (he : EV X B ρ O e d) (c : Cls X.K C) (n : NoAttr X.K C f) (hm : Put O q (.ins C ns ds) (.ins C (ns ++ [f]) (ds ++ [d])) O') (hi : ns.idxOf? f = none) (hl : ns.length < 1000)
    (h : A.nx ρ O') (hs : swapsWith e (some (.Attribute o f pos')) pos.line X.env = pure false) : J1 X B (.Assign [.Attribute o f pos'] e pos) ρ O A :=
  ps_imp (ps_fld ho he hs) fun Dn σ H ⟨st, pp⟩ => ⟨st, fun v H1 e1 r1 => ⟨st.same e1, fun u H2 e2 r2 => by
    cases r2
    have s2 := (st.same e1).same e2
    obtain ⟨dx, fv, h1, h2, h3⟩ := s2.m.mem _ _ hm.mem
    have hp : putF f v fv = fv ++ [(f, v)] := put_new (by rw [h2]; exact hi)
    obtain ⟨s3, ev⟩ := s2.putP (o := .ins C dx (putF f v fv)) hm ⟨dx, _, upd_same, by rw [hp, List.map_append, h2]; rfl, by
      rw [hp, List.map_append]
      exact h3.append (.cons (r1.mono (vis_same e2)) .nil)⟩
    refine ⟨q, C, dx, fv, rfl, h1, c, n, by rw [← List.length_map (f := (·.1)) (as := fv), h2]; exact hl, pp.nx ρ _ σ _ h s3 ?_⟩
    rw [ev]
    exact vis_same (e1.trans e2)⟩⟩
theorem j_fldSet {q : Addr} {ns : List Str} {f : Str} {i : Nat} (ho : EV X B ρ O o (.rf q)) (he : EV X B ρ O e d) (c : Cls X.K C) (n : NoAttr X.K C f) (hm : Put O q (.ins C ns ds) (.ins C ns (ds.set i d)) O') (hi : ns.idxOf? f = some i) (hl : ns.length < 1000)
    (h : A.nx ρ O') (hs : swapsWith e (some (.Attribute o f pos')) pos.line X.env = pure false) : J1 X B (.Assign [.Attribute o f pos'] e pos) ρ O A :=
  ps_imp (ps_fld ho he hs) fun Dn σ H ⟨st, pp⟩ => ⟨st, fun v H1 e1 r1 => ⟨st.same e1, fun u H2 e2 r2 => by
    cases r2
    have s2 := (st.same e1).same e2
    obtain ⟨dx, fv, h1, h2, h3⟩ := s2.m.mem _ _ hm.mem
    obtain ⟨g1, g2⟩ := put_at (fv := fv) (v := v) (f := f) (i := i) (by rw [h2]; exact hi)
    obtain ⟨s3, ev⟩ := s2.putP (o := .ins C dx (putF f v fv)) hm ⟨dx, _, upd_same, by rw [g1, h2], by
      rw [g2]
      exact h3.set (r1.mono (vis_same e2)) i⟩
    refine ⟨q, C, dx, fv, rfl, h1, c, n, by rw [← List.length_map (f := (·.1)) (as := fv), h2]; exact hl, pp.nx ρ _ σ _ h s3 ?_⟩
    rw [ev]
    exact vis_same (e1.trans e2)⟩⟩

/-! ### methods, properties, instances called -/
/-- o.m(..), o a value -/
theorem ev_meth {Ar : Om → List D → D → Prop} {ns : List Str} {m : Str} {f : Addr} (he : EV X B ρ O o (.obj C ns ds)) (c : Cls X.K C) (hm : Meth X.K C m f) (F : Fok X.prog X.w X.K X.mg X.base CX0 k f (spP X.K Ar)) (hr : Room k X.A) (ha : EA X B ρ O (e :: es) es') (hn : ns.idxOf? m = none)
    (h : Ar (B.L ++ O) (.obj C ns ds :: es') d) (pl : Sem Bool)
    (hst : starEach (e :: es) X.env = (false, eval e X.env) :: starEach es X.env := by rfl) (hpl : (backTo pos (starEach es X.env)).any (·.1) = false := by rfl)
    (ht : eval (.Call (.Attribute o m apos) (e :: es) [] pos) X.env = (do
      let ov ← eval o X.env
      standAt apos.atName
      let (f, first) ← holding [ov] (getMethod ov m pl)
      callWith pos f first (backTo pos (starEach (e :: es) X.env)) (backToKw pos (keywordEach [] X.env))) := by rfl) :
    EV X B ρ O (.Call (.Attribute o m apos) (e :: es) [] pos) d :=
  pe_imp (pe_methR (E := E0) (pl := pl) he c hm F.raw hr pass0 ha hst hpl ht) fun σ H Q ⟨st, k⟩ => ⟨st, fun v H1 e1 r1 => by
    cases r1 with
    | obj h1 h2 h3 => exact ⟨_, _, _, rfl, vis_le _ _ h1, look_no h2 hn, st.same e1, fun vs H2 e2 r2 => spP_use ((st.same e1).same e2).m (.cons ((Rp.obj h1 h2 h3).mono (vis_same e2)) r2) h fun w H3 e3 r3 => k w H3 ((e1.trans e2).trans e3) r3⟩⟩
/-- o.f, a property -/
theorem ev_prop {Ar : Om → List D → D → Prop} {ns : List Str} {f : Str} {pp g : Addr} (he : EV X B ρ O o (.obj C ns ds)) (c : Cls X.K C) (hp : PropOf X.K C f pp g) (F : Fok X.prog X.w X.K X.mg X.base CX0 k g (spP X.K Ar)) (hr : Room (k + 1) X.A)
    (h : Ar (B.L ++ O) [.obj C ns ds] d) (hb : attributeBase o f X.env (eval o X.env) = eval o X.env := by rfl) : EV X B ρ O (.Attribute o f pos) d := by
  obtain ⟨fd, ps, G, b⟩ := F.ex
  exact pe_imp (pe_prop (E := E0) (dvs := []) he c hp G hr b .nil pass0 hb) fun σ H Q ⟨st, k⟩ => ⟨st, fun v H1 e1 r1 => by
    cases r1 with
    | obj h1 h2 h3 => exact ⟨_, _, _, rfl, vis_le _ _ h1, spP_use (st.same e1).m (.cons (Rp.obj h1 h2 h3) .nil) h fun w H3 e3 r3 => k w H3 (e1.trans e3) r3⟩⟩
/-- f(..), f an instance -/
theorem ev_callO {Ar : Om → List D → D → Prop} {ns : List Str} {g : Addr} {fe : Expr} {es' : List D} (hf : EV X B ρ O fe (.obj C ns ds)) (c : StX.CallO X.K C g) (F : Fok X.prog X.w X.K X.mg X.base CX0 k g (spP X.K Ar)) (hr : Room k X.A) (ha : EA X B ρ O (e :: es) es') (h : Ar (B.L ++ O) (.obj C ns ds :: es') d)
    (ht : eval (.Call fe (e :: es) [] pos) X.env = (do callWith pos (← eval fe X.env) [] (backTo pos (starEach (e :: es) X.env)) (backToKw pos (keywordEach [] X.env))) := by rfl)
    (he : starEach (e :: es) X.env = (false, eval e X.env) :: starEach es X.env := by rfl) (hpl : (backTo pos (starEach es X.env)).any (·.1) = false := by rfl) : EV X B ρ O (.Call fe (e :: es) [] pos) d :=
  pe_imp (StX.pe_callO (E := E0) hf c F.raw hr pass0 ha ht he hpl) fun σ H Q ⟨st, k⟩ => ⟨st, fun v H1 e1 r1 => by
    cases r1 with
    | obj h1 h2 h3 => exact ⟨_, rfl, st.same e1, fun vs H2 e2 r2 => ⟨.inr ⟨_, _, e2 _ _ (vis_le _ _ h1)⟩, spP_use ((st.same e1).same e2).m (.cons ((Rp.obj h1 h2 h3).mono (vis_same e2)) r2) h fun w H3 e3 r3 => k w H3 ((e1.trans e2).trans e3) r3⟩⟩⟩
/-- C.m(..), m a classmethod -/
theorem ev_cmeth {Ar : Om → List D → D → Prop} {m : Str} {mc : Value} {pp g : Addr} {es' : List D} (he : EV X B ρ O o (.rf C)) (rd : ClX.CRead X.K C mc) (c : ClX.CMet X.K C mc m pp g) (F : Fok X.prog X.w X.K X.mg X.base CX0 k g (spP X.K Ar)) (hr : Room k X.A) (ha : EA X B ρ O (e :: es) es')
    (h : Ar (B.L ++ O) (.rf C :: es') d) (pl : Sem Bool)
    (hst : starEach (e :: es) X.env = (false, eval e X.env) :: starEach es X.env := by rfl) (hpl : (backTo pos (starEach es X.env)).any (·.1) = false := by rfl)
    (ht : eval (.Call (.Attribute o m apos) (e :: es) [] pos) X.env = (do
      let ov ← eval o X.env
      standAt apos.atName
      let (f, first) ← holding [ov] (getMethod ov m pl)
      callWith pos f first (backTo pos (starEach (e :: es) X.env)) (backToKw pos (keywordEach [] X.env))) := by rfl) :
    EV X B ρ O (.Call (.Attribute o m apos) (e :: es) [] pos) d :=
  pe_imp (ClX.pe_cmeth (E := E0) (pl := pl) he rd c F.raw hr pass0 ha hst hpl ht) fun σ H Q ⟨st, k⟩ => ⟨st, fun v H1 e1 r1 => by
    cases r1
    exact ⟨rfl, st.same e1, fun vs H2 e2 r2 => spP_use ((st.same e1).same e2).m (.cons (.rf C) r2) h fun w H3 e3 r3 => k w H3 ((e1.trans e2).trans e3) r3⟩⟩
/-- C(..), a value -/
theorem made_use {K : PySem.W.Frag} {Ar : Om → List D → List Str → List D → Prop} {H : Hp} {Q : VK} {E : XK} {vs : List V} {ns : List Str} {fs : List D} (m : MOk K B O H) (r : RpL K (vis B.F O H) vs ds) (h : Ar (B.L ++ O) ds ns fs)
    (k : ∀ v H', Same H H' → Rp K (vis B.F O H') v (.obj C ns fs) → Q v H') (x dx : Addr) (hx : H x = none) (hdx : H dx = none) (ne : dx ≠ x) :
    spI K C Ar (V.ref x :: vs) (upd (upd H dx (.own x)) x (.ins C dx [])) (fun v H2 => v = .non ∧ Q (.ref x) H2) E := by
  have s1 : Same H (upd (upd H dx (.own x)) x (.ins C dx [])) := fun b o e => by
    rw [upd_ne (ne_of_none e hx), upd_ne (ne_of_none e hdx)]
    exact e
  have fx : frF B O x = false := by
    unfold frF
    rw [m.newF hx, m.newO hx]; rfl
  have v1 : Same (vis B.F O H) (vis (frF B O) [(x, .ins C [] [])] (upd (upd H dx (.own x)) x (.ins C dx []))) := fun a o q => by
    obtain ⟨h1, h2, h3⟩ := vis_some.mp q
    have na : a ≠ x := ne_of_none h3 hx
    refine vis_some.mpr ⟨by unfold frF; rw [h1, h2]; rfl, ?_, s1 _ _ h3⟩
    rw [has_cons]
    show (x == a || false) = false
    rw [Bool.or_false]
    exact beq_eq_false_iff_ne.mpr (Ne.symm na)
  have bo := bor_of m
  refine ⟨frF B O, B.L ++ O, x, dx, vs, ds, ns, fs, rfl, ⟨fun a h => let ⟨o, e⟩ := fr_ok m a h; ⟨o, s1 _ _ e⟩, bo.lF, fun a mm hm => (show MRp K (vis B.F O H) H a mm by rw [← vis_fr]; exact bo.lent a mm hm).mono v1 fun o q => s1 _ _ q⟩, fx, upd_same, r.mono v1, h, fun H' dx' fv hk hx' hns r' => ⟨rfl, ?_⟩⟩
  · have s2 : Same H H' := fun b o e => hk b o (ne_of_none e hx) (s1 b o e)
    refine k _ H' s2 (.obj (vis_some.mpr ⟨m.newF hx, m.newO hx, hx'⟩) hns (r'.mono fun a o q => ?_))
    obtain ⟨h1, h2, h3⟩ := vis_some.mp q
    unfold frF at h1
    rw [Bool.or_eq_false_iff] at h1
    exact vis_some.mpr ⟨h1.1, h1.2, h3⟩
theorem ev_make {Ar : Om → List D → List Str → List D → Prop} {f : Addr} {ns : List Str} {fs : List D} (Mk : Mk X.K C f) (F : Fok X.prog X.w X.K X.mg X.base CX0 k f (spI X.K C Ar)) (hr : Room (k + 1) X.A) (hg : Gl X x) (hm : X.mg x = some (.ref C)) (ha : EA X B ρ O (e :: es) ds) (h : Ar (B.L ++ O) ds ns fs) (hdb : (x == ("__debug__" : Str)) = false := by decide)
    (he : starEach (e :: es) X.env = (false, eval e X.env) :: starEach es X.env := by rfl) (hpl : (backTo pos (starEach es X.env)).any (·.1) = false := by rfl) : EV X B ρ O (.Call (.Name x p) (e :: es) [] pos) (.obj C ns fs) :=
  pe_imp (StX.pe_makeR (E := E0) Mk F.raw hr hg hm pass0 ha hdb he hpl) fun σ H Q ⟨st, k⟩ => ⟨st, fun vs H1 e1 r1 y dy hy hdy ne => made_use (st.same e1).m r1 h (fun v H2 e2 r2 => k v H2 (e1.trans e2) r2) y dy hy hdy ne⟩

/-! ### a def keeps its promise -/
end
section
variable {P : Program} {w : World} {K : PySem.W.Frag} {mg : Str → Option Value} {base : Heap}
def startD (N : List Str) (ds : List D) : List (Option D) := ds.map some ++ List.replicate (N.length - ds.length) none
theorem start_env {Hv : Hp} {N : List Str} {vs : List V} {ds : List D} (r : RpL K Hv vs ds) : EnvR K Hv (L2.start N vs) (startD N ds) := by
  have hl := r.length
  refine ⟨by simp [L2.start, startD, hl], fun i d e => ?_⟩
  unfold startD at e
  unfold L2.start
  by_cases hi : i < ds.length
  · rw [List.getElem?_append_left (by simpa using hi)] at e
    rw [List.getElem?_append_left (by rw [List.length_map, hl]; exact hi)]
    rw [List.getElem?_map] at e
    obtain ⟨d', h1, h2⟩ := Option.map_eq_some_iff.mp e
    cases h2
    obtain ⟨v, hv, rv⟩ := r.get h1
    exact ⟨v, by rw [List.getElem?_map, hv]; rfl, rv⟩
  · rw [List.getElem?_append_right (by simpa using hi)] at e
    obtain ⟨_, h⟩ := List.mem_replicate.mp (List.mem_of_getElem? e)
    cases h
theorem fn_pure {Ar : Om → List D → D → Prop} {x qual : Str} {st : Stmt} {f : Addr} {fd : FuncData} {N ps : List Str} {k : Nat} (F : Fun K x qual st f fd) (S : FnScope N ps (defScope st)) (len : ∀ L ds d, Ar L ds d → ds.length = ps.length)
    (h : ∀ (cdv : Value) (A : Around) (outer : List Env) (s : Shared) (H : Hp) (E : XK) (B : Gd) (ds : List D) (d : D), Room k (A.deeper (envOfC qual (defScope st) s.heap.objs.size f cdv)) → Ar B.L ds d →
      J (cxOf CX0 P w K mg base N qual (defScope st) f cdv A outer s H E).nox B (defBody st) (startD N ds) [] { nx := fun _ _ => d = .non, rt := fun d' O' => Frz O' d' d }) : FnOk P w K mg base CX0 (k + 1) f fd ps (spP K Ar) := by
  refine F.ok S (fun vs H Q E q => ?_) (fun cdv A outer s H vs Q E hr q => ?_)
  · obtain ⟨F', L, ds, d, _, r, ha, _⟩ := q
    rw [r.length]; exact len L ds d ha
  · obtain ⟨F', L, ds, d, bo, r, ha, kk⟩ := q
    refine ⟨_, h cdv A outer s H E ⟨F', H, E, L, bo.ok, bo.lF⟩ ds d hr ha, ⟨⟨fun a o e => ⟨e, rfl⟩, (fun a m hm => nomatch hm), (by simp), bo.lent⟩, start_env r⟩, ?_, ?_, fun _ _ _ _ z => z.elim, fun _ _ _ _ z => z.elim⟩
    · intro ρ O σ H' e s' _
      subst e
      exact kk _ H' (fun a o q => (s'.m.base a o q).1) .non
    · intro d' O' v H' fz m r'
      exact kk v H' (fun a o q => (m.base a o q).1) (Rp.frz vis_all m.frz fz r')
theorem fn_new {Ar : Om → List D → List D → Prop} {x qual : Str} {st : Stmt} {f : Addr} {fd : FuncData} {N ps : List Str} {k : Nat} (F : Fun K x qual st f fd) (S : FnScope N ps (defScope st)) (len : ∀ L ds d, Ar L ds d → ds.length = ps.length)
    (h : ∀ (cdv : Value) (A : Around) (outer : List Env) (s : Shared) (H : Hp) (E : XK) (B : Gd) (ds : List D) (es : List D), Room k (A.deeper (envOfC qual (defScope st) s.heap.objs.size f cdv)) → Ar B.L ds es →
      J (cxOf CX0 P w K mg base N qual (defScope st) f cdv A outer s H E).nox B (defBody st) (startD N ds) [] { nx := fun _ _ => False, rt := fun d' O' => ∃ p, d' = .rf p ∧ O' = [(p, .lst es)] }) : FnOk P w K mg base CX0 (k + 1) f fd ps (spN K Ar) := by
  refine F.ok S (fun vs H Q E q => ?_) (fun cdv A outer s H vs Q E hr q => ?_)
  · obtain ⟨F', L, ds, d, _, r, ha, _⟩ := q
    rw [r.length]; exact len L ds d ha
  · obtain ⟨F', L, ds, es, bo, r, ha, kk⟩ := q
    refine ⟨_, h cdv A outer s H E ⟨F', H, E, L, bo.ok, bo.lF⟩ ds es hr ha, ⟨⟨fun a o e => ⟨e, rfl⟩, (fun a m hm => nomatch hm), (by simp), bo.lent⟩, start_env r⟩, fun _ _ _ _ z => z.elim, ?_, fun _ _ _ _ z => z.elim, fun _ _ _ _ z => z.elim⟩
    rintro d' O' v H' ⟨p, rfl, rfl⟩ m r'
    cases r'
    obtain ⟨ws, h1, h2⟩ := m.mem p _ List.mem_cons_self
    refine kk p H' ws ?_ (fun a o q => (m.base a o q).1) h1 h2
    cases q : H p with
    | none => rfl
    | some o =>
      have := (m.base p o q).2
      simp [has] at this
theorem fn_init {C : Addr} {Ar : Om → List D → List Str → List D → Prop} {x qual : Str} {st : Stmt} {f : Addr} {fd : FuncData} {N ps : List Str} {k : Nat} (F : Fun K x qual st f fd) (S : FnScope N ps (defScope st)) (len : ∀ L ds ns fs, Ar L ds ns fs → ds.length + 1 = ps.length)
    (h : ∀ (cdv : Value) (A : Around) (outer : List Env) (s : Shared) (H : Hp) (E : XK) (B : Gd) (x : Addr) (ds : List D) (ns : List Str) (fs : List D), Room k (A.deeper (envOfC qual (defScope st) s.heap.objs.size f cdv)) → Ar B.L ds ns fs →
      J (cxOf CX0 P w K mg base N qual (defScope st) f cdv A outer s H E).nox B (defBody st) (startD N (.rf x :: ds)) [(x, .ins C [] [])] { nx := fun _ O' => ∃ fs' O1, O' = O1 ++ [(x, .ins C ns fs')] ∧ FrzL O1 fs' fs, rt := fun _ _ => False }) : FnOk P w K mg base CX0 (k + 1) f fd ps (spI K C Ar) := by
  refine F.ok S (fun vs H Q E q => ?_) (fun cdv A outer s H vs Q E hr q => ?_)
  · obtain ⟨F', L, x, dx, us, ds, ns, fs, rfl, _, _, _, r, ha, _⟩ := q
    rw [List.length_cons, r.length]; exact len L ds ns fs ha
  · obtain ⟨F', L, x, dx, us, ds, ns, fs, rfl, bo, fx, hx, r, ha, kk⟩ := q
    let Hb : Hp := fun a => if a = x then none else H a
    have hbx : ∀ a o, Hb a = some o → a ≠ x ∧ H a = some o := fun a o e => by
      have e' : (if a = x then none else H a) = some o := e
      by_cases q : a = x
      · rw [if_pos q] at e'; cases e'
      · rw [if_neg q] at e'; exact ⟨q, e'⟩
    have hF' : ∀ a, F' a = true → ∃ o, Hb a = some o := fun a h => by
      obtain ⟨o, e⟩ := bo.ok a h
      have ne : a ≠ x := fun z => by rw [z, fx] at h; cases h
      exact ⟨o, by show (if a = x then none else H a) = _; rw [if_neg ne]; exact e⟩
    refine ⟨_, h cdv A outer s H E ⟨F', Hb, E, L, hF', bo.lF⟩ x ds ns fs hr ha, ⟨⟨fun a o e => ?_, fun a m hm => ?_, by simp, bo.lent⟩, start_env (.cons (.rf x) r)⟩, ?_, fun _ _ _ _ z => z.elim, fun _ _ _ _ z => z.elim, fun _ _ _ _ z => z.elim⟩
    · obtain ⟨n, e⟩ := hbx a o e
      refine ⟨e, ?_⟩
      show (x == a || false) = false
      rw [Bool.or_false]
      exact beq_eq_false_iff_ne.mpr (Ne.symm n)
    · cases List.mem_singleton.mp hm
      exact ⟨dx, [], hx, rfl, .nil⟩
    · rintro ρ O' σ H' ⟨fs', O1, rfl, fz⟩ s' _
      obtain ⟨dx', fv, h1, h2, h3⟩ := s'.m.mem x _ (List.mem_append_right _ List.mem_cons_self)
      have nd := s'.m.nd
      rw [List.map_append, List.nodup_append] at nd
      have nx : ∀ p m, (p, m) ∈ O1 → p ≠ x := fun p m hp => nd.2.2 p (List.mem_map_of_mem (f := (·.1)) hp) x (by simp)
      have e1 : Same (vis F' (O1 ++ [(x, .ins C ns fs')]) H') (vis F' [(x, .ins C [] [])] H') := fun a o q => by
        obtain ⟨q1, q2, q3⟩ := vis_some.mp q
        refine vis_some.mpr ⟨q1, ?_, q3⟩
        unfold has at q2 ⊢
        rw [List.any_append, Bool.or_eq_false_iff] at q2
        exact q2.2
      refine kk H' dx' fv (fun a o na q => (s'.m.base a o (by show (if a = x then none else H a) = _; rw [if_neg na]; exact q)).1) h1 h2 (RpL.frz e1 (fun p m hp => ?_) fz h3)
      refine (s'.m.mem p m (List.mem_append_left _ hp)).mono (Same.refl _) fun o q => ?_
      have q' := s'.m.visM (has_mem.mpr ⟨m, List.mem_append_left _ hp⟩) q
      obtain ⟨g1, _, g3⟩ := vis_some.mp q'
      refine vis_some.mpr ⟨g1, ?_, g3⟩
      show (x == p || false) = false
      rw [Bool.or_false]
      exact beq_eq_false_iff_ne.mpr (Ne.symm (nx p m hp))
end
end DL
namespace DL
open PySem PySem.Spec PyProof.Rows L2
section
variable {X : Cx} {B : Gd} {ρ ρ1 : List (Option D)} {O O1 : Om} {A : AE} {st : Stmt} {rest : List Stmt}
theorem j_cut (ρ1 : List (Option D)) (O1 : Om) (h1 : J1 X B st ρ O { A with nx := fun ρ' O' => Wk ρ1 ρ' ∧ O' = O1 }) (h2 : J X B rest ρ1 O1 A) : J X B (st :: rest) ρ O A := by
  refine j_cons (ps_imp h1 fun Dn σ H ⟨st, p⟩ => ⟨st, fun ρ' O' σ' H' q s' e => ?_, p.rt, p.bk, p.ct⟩)
  obtain ⟨w, rfl⟩ := q
  refine p.nx ρ' O' σ' H' ?_ s' e
  exact pss_imp h2 fun Dn σ H ⟨s2, p2⟩ => ⟨s2.weak w, p2⟩
theorem wk_refl : Wk ρ ρ := ⟨rfl, fun _ _ h => h⟩
theorem wk_nil : Wk [] [] := wk_refl
theorem wk_none {r r' : List (Option D)} {d : Option D} (h : Wk r r') : Wk (none :: r) (d :: r') := ⟨by simp [h.1], fun i e q => by
  cases i with
  | zero => simp at q
  | succ i => simpa using h.2 i e (by simpa using q)⟩
theorem wk_some {r r' : List (Option D)} {d d' : D} (e : d = d') (h : Wk r r') : Wk (some d :: r) (some d' :: r') := ⟨by simp [h.1], fun i e' q => by
  cases i with
  | zero => subst e; simpa using q
  | succ i => simpa using h.2 i e' (by simpa using q)⟩
end
end DL

set_option Elab.async false
set_option linter.all false
set_option maxRecDepth 100000
set_option maxHeartbeats 2000000
namespace DL
open PySem PySem.Spec PyProof.Rows L2
section
variable {X : Cx} {B : Gd} {ρ ρ' : List (Option D)} {O O' O1 O2 : Om} {A : AE} {a b c e o : Expr} {es : List Expr} {d d1 d2 d3 : D} {ds : List D} {pos pos' p apos : Pos} {b1 b2 : Bool} {st : Stmt} {ss rest : List Stmt} {x : Str} {k : Nat} {C : Addr}
/-! ### short forms, for a printed proof -/
theorem nm (i : Nat) (hd : ρ[i]? = some (some d)) (hN : X.N[i]? = some x := by rfl) (hv : Vis X.env.scope x := by first | exact Or.inl rfl | exact Or.inr (Or.inl rfl) | exact Or.inr (Or.inr rfl)) (h1 : (x == ("__debug__" : Str)) = false := by decide) (h2 : (x == ("__classdict__" : Str)) = false := by decide) :
    EV X B ρ O (.Name x pos) d := ev_name hN hv hd h1 h2
theorem sset (i : Nat) (nd : X.N.Nodup) (he : EV X B ρ O e d) (h : A.nx (ρ.set i (some d)) O) (hi : X.N[i]? = some x := by rfl) (hx : Loc X.env.scope x := by first | exact .inl rfl | exact .inr rfl) (hs : swapsWith e (some (.Name x pos')) pos.line X.env = pure false := by rfl)
    (hf : X.fn x = true ∨ X.env.scope.names.lookup x = some .local := by first | exact .inr rfl | exact .inl rfl) : J1 X B (.Assign [.Name x pos'] e pos) ρ O A := j_set nd hi hx he hs hf h
theorem ssetG (i : Nat) (nd : X.N.Nodup) (he : EG X B ρ O e d O') (h : A.nx (ρ.set i (some d)) O') (hi : X.N[i]? = some x := by rfl) (hx : Loc X.env.scope x := by first | exact .inl rfl | exact .inr rfl) (hs : swapsWith e (some (.Name x pos')) pos.line X.env = pure false := by rfl)
    (hf : X.fn x = true ∨ X.env.scope.names.lookup x = some .local := by first | exact .inr rfl | exact .inl rfl) : J1 X B (.Assign [.Name x pos'] e pos) ρ O A := j_setG nd hi hx he hs hf h
theorem ssetN (i : Nat) (nd : X.N.Nodup) (he : EN X B ρ O e ds) (h : ∀ p, has O p = false → A.nx (ρ.set i (some (.rf p))) ((p, .lst ds) :: O)) (hi : X.N[i]? = some x := by rfl) (hx : Loc X.env.scope x := by first | exact .inl rfl | exact .inr rfl) (hs : swapsWith e (some (.Name x pos')) pos.line X.env = pure false := by rfl)
    (hf : X.fn x = true ∨ X.env.scope.names.lookup x = some .local := by first | exact .inr rfl | exact .inl rfl) : J1 X B (.Assign [.Name x pos'] e pos) ρ O A := j_setN nd hi hx he hs hf h
theorem bnm (i : Nat) (nd : X.N.Nodup) (hi : X.N[i]? = some x := by rfl) (hx : Loc X.env.scope x := by first | exact .inl rfl | exact .inr rfl) (hf : X.fn x = true ∨ X.env.scope.names.lookup x = some .local := by first | exact .inr rfl | exact .inl rfl) : EB X (.Name x pos) (gName i) [i] (bName i) := eb_name nd hi hx hf
/-- a loop: what the turns do to the slots, to the mutables; what is true beside -/
theorem sfor {iter tg : Expr} {body : List Stmt} {wi : TI} {sl : List Nat} {f} {g : TG} {G : Om → Prop} (U : Nat → List (Option D) → List (Option D)) (V : Nat → Om → Om) (Z : Nat → Prop)
    (hp : PassesOwn (model X.prog X.w) X.A X.env X.xe) (hc : X.calm = true) (hi : EI X B ρ O tg iter wi G ds) (hg : EB X tg g sl f)
    (hv : ∀ i, G (V i O))
    (h0 : Wk (U 0 ρ) ρ ∧ O = V 0 O ∧ Z 0)
    (hs : ∀ i d, ds[i]? = some d → i < ds.length → Z i → ∃ ρ', f d (U i ρ) = some ρ' ∧ J X B body ρ' (V i O) { A with nx := fun ρ2 O2 => Wk (U (i + 1) ρ) ρ2 ∧ O2 = V (i + 1) O ∧ Z (i + 1), ct := fun ρ2 O2 => Wk (U (i + 1) ρ) ρ2 ∧ O2 = V (i + 1) O ∧ Z (i + 1), bk := A.nx })
    (hd : Z ds.length → A.nx (U ds.length ρ) (V ds.length O))
    (hfs : ∀ x, foldedSetIterable iter X.env x = pure x := by intro _; rfl) : J1 X B (.For tg iter body [] pos) ρ O A := by
  refine j_for (fun i ρ' O' => ρ' = U i ρ ∧ O' = V i O ∧ Z i) hp hc hi hg (fun i ρ' O' h => by rw [h.2.1]; exact hv i) ⟨_, h0.1, rfl, h0.2⟩ (fun i d ρ' O' hd' h => ?_) (fun ρ' O' h => ?_) hfs
  · obtain ⟨rfl, rfl, hz⟩ := h
    obtain ⟨ρ1, h1, h2⟩ := hs i d hd' (List.getElem?_eq_some_iff.mp hd').1 hz
    refine ⟨ρ1, h1, j_imp h2 (fun ρ O h => ⟨_, h.1, rfl, h.2⟩) (fun _ _ h => h) (fun _ _ h => h) (fun ρ O h => ⟨_, h.1, rfl, h.2⟩)⟩
  · obtain ⟨rfl, rfl, hz⟩ := h
    exact hd hz

/-! ### more rules -/
theorem ev_ifI {x y : Int} (hc : ET X B ρ O c b1) (ha : b1 = true → EV X B ρ O a (.int x)) (hb : b1 = false → EV X B ρ O b (.int y)) : EV X B ρ O (.IfExp c a b pos) (.int (if b1 = true then x else y)) := by
  cases b1 with
  | true => exact ev_if hc ha (fun h => nomatch h)
  | false => exact ev_if hc (fun h => nomatch h) hb
theorem ev_ifS {x y : Str} (hc : ET X B ρ O c b1) (ha : b1 = true → EV X B ρ O a (.str x)) (hb : b1 = false → EV X B ρ O b (.str y)) : EV X B ρ O (.IfExp c a b pos) (.str (if b1 = true then x else y)) := by
  cases b1 with
  | true => exact ev_if hc ha (fun h => nomatch h)
  | false => exact ev_if hc (fun h => nomatch h) hb
theorem ev_ifB {x y : Bool} (hc : ET X B ρ O c b1) (ha : b1 = true → EV X B ρ O a (.bl x)) (hb : b1 = false → EV X B ρ O b (.bl y)) : EV X B ρ O (.IfExp c a b pos) (.bl (if b1 = true then x else y)) := by
  cases b1 with
  | true => exact ev_if hc ha (fun h => nomatch h)
  | false => exact ev_if hc (fun h => nomatch h) hb
theorem ev_conv {d' : D} (h : EV X B ρ O e d) (q : d = d') : EV X B ρ O e d' := q ▸ h
theorem en_conv {es' : List D} (h : EN X B ρ O e ds) (q : ds = es') : EN X B ρ O e es' := q ▸ h
theorem et_conv (h : ET X B ρ O e b1) (q : b1 = b2) : ET X B ρ O e b2 := q ▸ h
theorem rd_notinC {K : PySem.W.Frag} {c : Nat} {z : Str} : RD K B O (fun x y H Q => ∃ (c : Nat) (z : Str), x = .str ⟨#[c]⟩ ∧ y = .str z ∧ Q (.bl (!decide (c ∈ z.cps.toList))) H) (.str ⟨#[c]⟩) (.str z) (.bl (!decide (c ∈ z.cps.toList))) := fun x y H Q m r1 r2 k => by
  cases r1; cases r2
  exact ⟨c, z, rfl, rfl, k _ H (Same.refl H) (.bl _)⟩
def isNonD : D → Bool
  | .non => true
  | _ => false
theorem rd_isN {K : PySem.W.Frag} : RD K B O (fun x y H Q => y = .non ∧ Q (.bl (decide (x = .non))) H) d1 .non (.bl (isNonD d1)) := fun x y H Q m r1 r2 k => by
  cases r2
  refine ⟨rfl, ?_⟩
  have : decide (x = V.non) = isNonD d1 := by cases r1 <;> simp [isNonD]
  rw [this]
  exact k _ H (Same.refl H) (.bl _)
theorem rd_notN {K : PySem.W.Frag} : RD K B O (fun x y H Q => y = .non ∧ Q (.bl (!decide (x = .non))) H) d1 .non (.bl (!isNonD d1)) := fun x y H Q m r1 r2 k => by
  cases r2
  refine ⟨rfl, ?_⟩
  have : decide (x = V.non) = isNonD d1 := by cases r1 <;> simp [isNonD]
  rw [this]
  exact k _ H (Same.refl H) (.bl _)
theorem et_lst (h : EV X B ρ O e d) (w : Vw (B.L ++ O) d ds) (he : ∀ whole, isTrue e X.env whole = (do let v ← whole; standAt e.pos; holding [v] (truthy v)) := by intro _; rfl) : ET X B ρ O e (!ds.isEmpty) :=
  pt_imp (pt_truth h he) fun σ H Q ⟨st, k⟩ => ⟨st, fun v H1 e1 r1 => by
    obtain ⟨a, vs, rfl, q, rl⟩ := w.sql (st.same e1).m r1
    refine ⟨!vs.isEmpty, .inl ⟨vs, q, rfl⟩, ?_⟩
    have : vs.isEmpty = ds.isEmpty := by
      have := rl.length
      cases vs <;> cases ds <;> simp_all
    rw [this]
    exact k H1 e1⟩
/-- text * n -/
theorem op_rep_str : OpR X (binaryOp .Mult) (fun x y H Q => ∃ z n, x = .str z ∧ y = .int n ∧ MulOk z n ∧ Q (.str (Txt.mul z n)) H) := by
  intro pins s σ H x y v u Q I rx ry h
  obtain ⟨z, n, rfl, rfl, hz, q⟩ := h
  obtain ⟨t, rfl⟩ := rx
  obtain ⟨t', rfl⟩ := ry
  exact SB.mul hz fun t' tk => ⟨.str _, H, I.tok _, ⟨_, rfl⟩, q⟩
theorem rd_repS {K : PySem.W.Frag} {z : Str} {n : Int} (hz : MulOk z n) : RD K B O (fun x y H Q => ∃ z n, x = .str z ∧ y = .int n ∧ MulOk z n ∧ Q (.str (Txt.mul z n)) H) (.str z) (.int n) (.str (Txt.mul z n)) := fun x y H Q m r1 r2 k => by
  cases r1; cases r2
  exact ⟨z, n, rfl, rfl, hz, k _ H (Same.refl H) (.str _)⟩
/-- xs[::-1] -/
theorem en_rev {k : Nat} {p1 p2 p3 : Pos} (he : EV X B ρ O e d) (w : Vw (B.L ++ O) d ds) : EN X B ρ O (.Subscript e (.Slice none none (some (.UnaryOp .USub (.Constant (.int 1) k p1) p2)) p3) pos) ds.reverse :=
  pe_imp (pe_revL he) fun σ H Q ⟨st, kk⟩ => ⟨st, fun v H1 e1 r1 => by
    obtain ⟨a, vs, rfl, q, rl⟩ := w.sql (st.same e1).m r1
    exact ⟨a, vs, rfl, q, new_same (st.same e1).m rl.reverse fun p H' ws hp e2 hv r => kk p H' ws (e1.free hp) (e1.trans e2) hv r⟩⟩
/-- x[i] of a row, a tuple of ints -/
theorem atI_map {α : Type} {xs : List α} {f : α → D} (df : α) {i : Int} (h0 : 0 ≤ i) (h : i < (xs.length : Int)) : atI (xs.map f) i = some (f (xs.getD i.toNat df)) := by
  obtain ⟨j, rfl⟩ : ∃ j : Nat, i = (j : Int) := ⟨i.toNat, by omega⟩
  have hj : j < xs.length := by omega
  exact atI_nat (by simp [hj])
theorem atM {α : Type} {xs : List α} {f : α → D} (df : α) {i : Int} (h0 : 0 ≤ i) (h : i < (xs.length : Int)) : atI (xs.map fun x => f x) i = some (f (xs.getD i.toNat df)) := atI_map df h0 h
theorem atC {xs : List Nat} {i : Int} (h0 : 0 ≤ i) (h : i < (xs.length : Int)) : atI xs i = some (xs.getD i.toNat 0) := by
  obtain ⟨j, rfl⟩ : ∃ j : Nat, i = (j : Int) := ⟨i.toNat, by omega⟩
  have hj : j < xs.length := by omega
  exact atI_nat (by simp [hj])
theorem at2 {α : Type} (f : α → D) {a b : α} {i : Int} (h0 : 0 ≤ i) (h : i < 2) : atI [f a, f b] i = some (f ([a, b].getD i.toNat a)) := atI_map (xs := [a, b]) a h0 h
theorem at3 {α : Type} (f : α → D) {a b c : α} {i : Int} (h0 : 0 ≤ i) (h : i < 3) : atI [f a, f b, f c] i = some (f ([a, b, c].getD i.toNat a)) := atI_map (xs := [a, b, c]) a h0 h
theorem at4 {α : Type} (f : α → D) {a b c d : α} {i : Int} (h0 : 0 ≤ i) (h : i < 4) : atI [f a, f b, f c, f d] i = some (f ([a, b, c, d].getD i.toNat a)) := atI_map (xs := [a, b, c, d]) a h0 h
theorem at5 {α : Type} (f : α → D) {a b c d e : α} {i : Int} (h0 : 0 ≤ i) (h : i < 5) : atI [f a, f b, f c, f d, f e] i = some (f ([a, b, c, d, e].getD i.toNat a)) := atI_map (xs := [a, b, c, d, e]) a h0 h
theorem at6 {α : Type} (f : α → D) {a b c d e g : α} {i : Int} (h0 : 0 ≤ i) (h : i < 6) : atI [f a, f b, f c, f d, f e, f g] i = some (f ([a, b, c, d, e, g].getD i.toNat a)) := atI_map (xs := [a, b, c, d, e, g]) a h0 h
/-- in of a written dict: what it says of a text -/
structure KDi (K : PySem.W.Frag) (w : World) (a : Addr) (f : Str → Option D) : Prop where
  ex : ∃ es n, KDict K w a es n
  at_ : ∀ z : Str, ∃ r, PySem.W.nsIn K a z = some r ∧ (match f z, r with | none, none => True | some dv, some u => ∃ v, RelV v u ∧ ∀ H, Rp K H v dv | _, _ => False)
theorem ev_inD {f : Str → Option D} {q : Addr} {z : Str} (D : KDi X.K X.w q f) (ha : EV X B ρ O a (.str z)) (hb : EV X B ρ O b (.rf q)) (hm : behindInMarks .In b = false) : EV X B ρ O (.Compare a [.In] [b] pos) (.bl (f z).isSome) := by
  obtain ⟨es, n, kd⟩ := D.ex
  obtain ⟨r, h1, h2⟩ := D.at_ z
  have e : r.isSome = (f z).isSome := by cases hf : f z <;> cases r <;> simp_all
  refine ev_cmp (op_in_kd kd) (fun x y H Q m r1 r2 k => ?_) ha hb hm
  cases r1; cases r2
  exact ⟨z, r, rfl, rfl, h1, by rw [e]; exact k _ H (Same.refl H) (.bl _)⟩
theorem et_inD {f : Str → Option D} {q : Addr} {z : Str} (D : KDi X.K X.w q f) (ha : EV X B ρ O a (.str z)) (hb : EV X B ρ O b (.rf q)) (hm : behindInMarks .In b = false) : ET X B ρ O (.Compare a [.In] [b] pos) (f z).isSome := by
  obtain ⟨es, n, kd⟩ := D.ex
  obtain ⟨r, h1, h2⟩ := D.at_ z
  have e : r.isSome = (f z).isSome := by cases hf : f z <;> cases r <;> simp_all
  refine et_cmp (op_in_kd kd) (fun x y H Q m r1 r2 k => ?_) ha hb hm
  cases r1; cases r2
  exact ⟨z, r, rfl, rfl, h1, by rw [e]; exact k _ H (Same.refl H) (.bl _)⟩
theorem et_notinD {f : Str → Option D} {q : Addr} {z : Str} (D : KDi X.K X.w q f) (ha : EV X B ρ O a (.str z)) (hb : EV X B ρ O b (.rf q)) (hm : behindInMarks .NotIn b = false) : ET X B ρ O (.Compare a [.NotIn] [b] pos) (!(f z).isSome) := by
  obtain ⟨es, n, kd⟩ := D.ex
  obtain ⟨r, h1, h2⟩ := D.at_ z
  have e : r.isSome = (f z).isSome := by cases hf : f z <;> cases r <;> simp_all
  refine et_cmp (op_notIn_kd kd) (fun x y H Q m r1 r2 k => ?_) ha hb hm
  cases r1; cases r2
  exact ⟨z, r, rfl, rfl, h1, by rw [e]; exact k _ H (Same.refl H) (.bl _)⟩
/-- d[k], d written -/
theorem ev_itemD {f : Str → Option D} {q : Addr} {z : Str} (D : KDi X.K X.w q f) (ha : EV X B ρ O a (.rf q)) (hb : EV X B ρ O b (.str z)) (h : f z = some d) (hs : PlainIx b := by intro _ _; rfl) : EV X B ρ O (.Subscript a b pos) d := by
  obtain ⟨es, n, kd⟩ := D.ex
  obtain ⟨r, h1, h2⟩ := D.at_ z
  rw [h] at h2
  cases r with
  | none => exact h2.elim
  | some u =>
    obtain ⟨v, rv, rp⟩ := h2
    refine pe_imp (pe_ix ix_kdict ha hb hs) (two fun x y H Q m r1 r2 k => ?_)
    cases r1; cases r2
    exact ⟨q, z, v, rfl, rfl, ⟨es, n, u, kd.at_, kd.lit, h1, rv⟩, k v H (Same.refl H) (rp _)⟩
/-- d.get(k, x), d written -/
theorem pe_kget2 {K0 : Nat} {q : Addr} {es0 : Array DictEntry} {n0 : Nat} {to ty tx : TE} {e1 e2 : Expr} (kd : KDict X.K X.w q es0 n0) (ho : PE X o to) (he : PE X e1 ty) (hf : PE X e2 tx) (m : M2 X o "get" apos e1 e2 pos) :
    PE X (.Call (.Attribute o "get" apos) [e1, e2] [] pos) (fun σ H Q => to σ H fun x H1 => x = .ref q ∧ ty σ H1 fun y H2 => tx σ H2 fun z H3 => ∃ (k : Str) (r : Option Value), y = .str k ∧ PySem.W.nsIn X.K q k = some r ∧ ((r = none → Q z H3) ∧ ∀ u, r = some u → ∃ v, RelV v u ∧ Q v H3)) := by
  refine ⟨fun pins s σ H Q I h => ?_⟩
  refine wpAny_Call_method m.base m.few m.line PySem.F.plainAttrs_dict PySem.F.slot_dict_get PySem.F.type_dict_get (thn (ho.run pins s σ H _ I h) fun u s1 ⟨x, H1, I1, rx, ex, q1⟩ => ?_)
  subst ex
  obtain rfl : u = Value.ref q := rx
  have hq := I1.kIn _ _ kd.at_
  refine ⟨⟨_, hq, rfl⟩, fun b e => by cases e; exact ⟨_, hq, rfl⟩, ?_⟩
  rw [m.trees]
  refine Calls.callWith_builtin rfl (Calls.evalArgs_plain (Calls.spliced_cons (thn (he.run pins s1 σ H1 _ I1 q1) fun iv s2 ⟨y, H2, I2, ry, q2⟩ =>
    Calls.spliced_cons (thn (hf.run pins s2 σ H2 _ I2 q2) fun fv s3 ⟨z, H3, I3, rz, k, r, ey, e, q3⟩ => Calls.spliced_nil ?_))))
  subst ey
  obtain ⟨t, rfl⟩ := ry
  have hm := PySem.W.mapOf_K (prog := X.prog) (w := X.w) I3.kIn kd.at_ kd.lit
  refine call_meetsIn PySem.F.slot_dict_get hm.typeIs PySem.F.entry_dict_get (PySem.F.args_dict_get_3 _ _ _) (meets_dict_get_default (strKind X.prog X.w) q (strKind_is X.prog X.w k t) kd.low fv) ⟨_, hm, ?_⟩
  have hfk := PySem.W.find_K kd.at_ e
  show EP X pins σ Q (((findBy Value.isStrOf es0 k)).getD fv) _
  rw [hfk]
  cases r with
  | none => exact ⟨z, H3, I3.tok _, rz, q3.1 rfl⟩
  | some u =>
    obtain ⟨v, rv, qv⟩ := q3.2 u rfl
    exact ⟨v, H3, I3.tok _, rv, qv⟩
theorem ev_getD {f : Str → Option D} {q : Addr} {z : Str} {e1 e2 : Expr} (D : KDi X.K X.w q f) (ho : EV X B ρ O o (.rf q)) (he : EV X B ρ O e1 (.str z)) (hf : EV X B ρ O e2 d1) (m : M2 X o "get" apos e1 e2 pos := by exact ⟨rfl, rfl, rfl, rfl⟩) : EV X B ρ O (.Call (.Attribute o "get" apos) [e1, e2] [] pos) ((f z).getD d1) := by
  obtain ⟨es, n, kd⟩ := D.ex
  obtain ⟨r, h1, h2⟩ := D.at_ z
  refine pe_imp (pe_kget2 (K0 := 0) kd ho he hf m) fun σ H Q ⟨st, k⟩ => ⟨st, fun v H1 e1 r1 => ?_⟩
  cases r1
  refine ⟨rfl, st.same e1, fun v2 H2 e2 r2 => ?_⟩
  cases r2
  refine ⟨(st.same e1).same e2, fun v3 H3 e3 r3 => ⟨z, r, rfl, h1, fun hr => ?_, fun u hu => ?_⟩⟩
  · subst hr
    cases hz : f z with
    | some dv => rw [hz] at h2; exact h2.elim
    | none => exact k v3 H3 ((e1.trans e2).trans e3) (by rw [hz]; exact r3)
  · subst hu
    cases hz : f z with
    | none => rw [hz] at h2; exact h2.elim
    | some dv =>
      rw [hz] at h2
      obtain ⟨v, rv, rp⟩ := h2
      exact ⟨v, rv, k v H3 ((e1.trans e2).trans e3) (by rw [hz]; exact rp _)⟩
/-- cls(..), the class in a slot -/
theorem pe_makeL {i k : Nat} {f : Addr} {sp : Sp} {E : XK} {CX : CXT} {t : TA} (M : Mk X.K C f) (F : FnR X.prog X.w X.K X.mg X.base CX k f sp) (hr : Room (k + 1) X.A) (hN : X.N[i]? = some x) (hv : Vis X.env.scope x) (hx : Passes CX X E) (ha : PA X (e :: es) t)
    (hdb : (x == ("__debug__" : Str)) = false := by decide) (hcd : (x == ("__classdict__" : Str)) = false := by decide)
    (he : starEach (e :: es) X.env = (false, eval e X.env) :: starEach es X.env := by rfl) (hpl : (backTo pos (starEach es X.env)).any (·.1) = false := by rfl) : PE X (.Call (.Name x p) (e :: es) [] pos) (fun σ H Q => σ[i]? = some (some (.ref C)) ∧ StX.tMakeR C sp E t σ H Q) := by
  refine ⟨fun pins s σ H Q I h => ?_⟩
  obtain ⟨hs, ht⟩ := h
  refine wpAny_Call_Name_kw (thn ((pe_var (pos := p) hN hv hdb hcd).run pins s σ H (fun v H1 => v = .ref C ∧ H1 = H) I ⟨.ref C, hs, rfl, rfl⟩) fun u s1 ⟨v, H1, I1, r1, q1⟩ => ?_)
  obtain ⟨rfl, rfl⟩ := q1
  cases r1
  refine PySem.W.callWith_K (h₀ := X.base) I.ok.mod.kin M.kp (thn (ha.run pos pins s1 σ _ _ I1 ht) fun us s2 ⟨vs, H2, I2, r, q⟩ => ⟨I2.kIn, ?_⟩) he hpl
  exact StX.run_makeR M F hr hx I2 r q
theorem ev_makeL {Ar : Om → List D → List Str → List D → Prop} {f : Addr} {ns : List Str} {fs : List D} (i : Nat) (hd : ρ[i]? = some (some (.rf C))) (Mk : Mk X.K C f) (F : Fok X.prog X.w X.K X.mg X.base CX0 k f (spI X.K C Ar)) (hr : Room (k + 1) X.A) (ha : EA X B ρ O (e :: es) ds) (h : Ar (B.L ++ O) ds ns fs)
    (hN : X.N[i]? = some x := by rfl) (hv : Vis X.env.scope x := by first | exact Or.inl rfl | exact Or.inr (Or.inl rfl) | exact Or.inr (Or.inr rfl)) (hdb : (x == ("__debug__" : Str)) = false := by decide) (hcd : (x == ("__classdict__" : Str)) = false := by decide)
    (he : starEach (e :: es) X.env = (false, eval e X.env) :: starEach es X.env := by rfl) (hpl : (backTo pos (starEach es X.env)).any (·.1) = false := by rfl) : EV X B ρ O (.Call (.Name x p) (e :: es) [] pos) (.obj C ns fs) :=
  pe_imp (pe_makeL (E := E0) Mk F.raw hr hN hv pass0 ha hdb hcd he hpl) fun σ H Q ⟨st, k⟩ => by
    obtain ⟨v, hv, rv⟩ := st.env.2 i _ hd
    cases rv
    exact ⟨hv, st, fun vs H1 e1 r1 y dy hy hdy ne => made_use (st.same e1).m r1 h (fun v H2 e2 r2 => k v H2 (e1.trans e2) r2) y dy hy hdy ne⟩

/-! ### == of data -/
mutual
inductive PyR : D → PyData → Prop where
  | non : PyR .non .none
  | bl (b : Bool) : PyR (.bl b) (.bool b)
  | int (i : Int) : PyR (.int i) (.int i)
  | str (x : Str) : PyR (.str x) (.str x)
  | lst {ds : List D} {ps : List PyData} : PyRL ds ps → PyR (.lst ds) (.list ps)
  | tup {ds : List D} {ps : List PyData} : PyRL ds ps → PyR (.tup ds) (.tuple ps)
inductive PyRL : List D → List PyData → Prop where
  | nil : PyRL [] []
  | cons {d : D} {ds : List D} {p : PyData} {ps : List PyData} : PyR d p → PyRL ds ps → PyRL (d :: ds) (p :: ps)
end
section
variable {K : PySem.W.Frag} {Hv H : Hp} (e : Same Hv H)
mutual
theorem PyR.dp (e : Same Hv H) : ∀ {d : D} {p : PyData} {v : V}, PyR d p → Rp K Hv v d → Dp K H v p
  | _, _, _, .non, r => by cases r; exact .non
  | _, _, _, .bl b, r => by cases r; exact .bl b
  | _, _, _, .int b, r => by cases r; exact .int b
  | _, _, _, .str b, r => by cases r; exact .str b
  | _, _, _, .lst h, r => by cases r with | lst hq r => exact .lst (e.seq hq) (PyRL.dp e h r)
  | _, _, _, .tup h, r => by cases r with | tup hq r => exact .tup (same_t e hq) (PyRL.dp e h r)
theorem PyRL.dp (e : Same Hv H) : ∀ {ds : List D} {ps : List PyData} {vs : List V}, PyRL ds ps → RpL K Hv vs ds → DpAll K H vs ps
  | _, _, _, .nil, r => by cases r; exact .nil
  | _, _, _, .cons h g, r => by cases r with | cons q r => exact .cons (PyR.dp e h q) (PyRL.dp e g r)
end
end
/-- data of one shape whose == is Lean's -/
structure EqOk {α : Type} [DecidableEq α] (f : α → D) (P : α → Prop) (n : Nat) (g : α → PyData) : Prop where
  py : ∀ x, PyR (f x) (g x)
  lay : ∀ x, P x → (g x).canLay0 = true
  dep : ∀ x, (g x).depth ≤ n
  eqv : ∀ x y, PyData.eqv (g x) (g y) = decide (x = y)
theorem EqOk.int : EqOk D.int (fun _ => True) 0 PyData.int := ⟨fun x => .int x, fun x _ => by simp [PyData.canLay0], fun x => by simp [PyData.depth], fun x y => by rw [Bool.eq_iff_iff]; simp [PyData.eqv]⟩
theorem EqOk.str : EqOk D.str (fun x => PyData.strOk x = true) 0 PyData.str := ⟨fun x => .str x, fun x h => by simpa [PyData.canLay0] using h, fun x => by simp [PyData.depth], fun x y => by rw [Bool.eq_iff_iff]; simp [PyData.eqv]⟩
section
variable {α : Type} [DecidableEq α] {f : α → D} {P : α → Prop} {n : Nat} {g : α → PyData}
theorem EqOk.pyL (h : EqOk f P n g) : ∀ xs : List α, PyRL (xs.map f) (xs.map g)
  | [] => .nil
  | x :: xs => .cons (h.py x) (h.pyL xs)
theorem EqOk.layL (h : EqOk f P n g) : ∀ xs : List α, (∀ x ∈ xs, P x) → PyData.canLayAll0 (xs.map g) = true
  | [], _ => by simp [PyData.canLayAll0]
  | x :: xs, q => by
    simp only [List.map_cons, PyData.canLayAll0, h.lay x (q x List.mem_cons_self), h.layL xs fun y hy => q y (List.mem_cons_of_mem _ hy), Bool.and_self]
theorem EqOk.eqvL (h : EqOk f P n g) : ∀ xs ys : List α, PyData.eqvAll (xs.map g) (ys.map g) = decide (xs = ys)
  | [], [] => by simp [PyData.eqvAll]
  | [], y :: ys => by simp [PyData.eqvAll]
  | x :: xs, [] => by simp [PyData.eqvAll]
  | x :: xs, y :: ys => by
    simp only [List.map_cons, PyData.eqvAll, h.eqv x y, h.eqvL xs ys, List.cons.injEq]
    rw [Bool.eq_iff_iff]; simp
theorem EqOk.depL (h : EqOk f P n g) : ∀ xs : List α, PyData.depthAll (xs.map g) ≤ n
  | [] => by simp [PyData.depthAll]
  | x :: xs => by
    have h1 := h.dep x
    have h2 := h.depL xs
    simp only [List.map_cons, PyData.depthAll]
    omega
theorem EqOk.lst (h : EqOk f P n g) : EqOk (fun xs : List α => D.lst (xs.map f)) (fun xs => ∀ x ∈ xs, P x) (n + 1) (fun xs => PyData.list (xs.map g)) :=
  ⟨fun xs => .lst (h.pyL xs), fun xs q => by simpa [PyData.canLay0] using h.layL xs q, fun xs => by have := h.depL xs; simp only [PyData.depth]; omega, fun xs ys => by simpa [PyData.eqv] using h.eqvL xs ys⟩
theorem EqOk.tup (h : EqOk f P n g) : EqOk (fun xs : List α => D.tup (xs.map f)) (fun xs => ∀ x ∈ xs, P x) (n + 1) (fun xs => PyData.tuple (xs.map g)) :=
  ⟨fun xs => .tup (h.pyL xs), fun xs q => by simpa [PyData.canLay0] using h.layL xs q, fun xs => by have := h.depL xs; simp only [PyData.depth]; omega, fun xs ys => by simpa [PyData.eqv] using h.eqvL xs ys⟩
/-- == of two such: x, y as they stand, a mutable's content -/
def Vd (O : Om) (d d' : D) : Prop := d = d' ∨ ∃ a ds, d = .rf a ∧ (a, M.lst ds) ∈ O ∧ d' = .lst ds
theorem Vd.dp {K : PySem.W.Frag} {H : Hp} {v : V} {d' : D} {q : PyData} (w : Vd (B.L ++ O) d d') (m : MOk K B O H) (r : Rp K (vis B.F O H) v d) (h : PyR d' q) : Dp K H v q := by
  rcases w with rfl | ⟨a, ds, rfl, hm, rfl⟩
  · exact h.dp vis_le r
  · cases r
    obtain ⟨vs, h1, h2⟩ := (List.mem_append.mp hm).elim (m.lent _ _) (m.mem _ _)
    cases h with
    | lst h => exact .lst (.inl (.inl h1)) (h.dp vis_le h2)
theorem shaped_of {q : PyData} (h1 : q.canLay0 = true) (h2 : q.depth ≤ n) (hn : n ≤ 64) : SeqAt.shaped q = true := by
  unfold SeqAt.shaped
  rw [h1, Bool.true_and]
  exact decide_eq_true (by omega)
theorem rd_eqD {K : PySem.W.Frag} {x y : α} (h : EqOk f P n g) (hn : n ≤ 64) (w1 : Vd (B.L ++ O) d1 (f x)) (w2 : Vd (B.L ++ O) d2 (f y)) (h1 : P x) (h2 : P y) : RD K B O (rEqD K) d1 d2 (.bl (decide (x = y))) := fun u v H Q m r1 r2 k =>
  ⟨g x, g y, w1.dp m r1 (h.py x), w2.dp m r2 (h.py y), shaped_of (h.lay x h1) (h.dep x) hn, shaped_of (h.lay y h2) (h.dep y) hn, by rw [h.eqv]; exact k _ H (Same.refl H) (.bl _)⟩
theorem rd_neD {K : PySem.W.Frag} {x y : α} (h : EqOk f P n g) (hn : n ≤ 64) (w1 : Vd (B.L ++ O) d1 (f x)) (w2 : Vd (B.L ++ O) d2 (f y)) (h1 : P x) (h2 : P y) : RD K B O (rNeD K) d1 d2 (.bl (!decide (x = y))) := fun u v H Q m r1 r2 k =>
  ⟨g x, g y, w1.dp m r1 (h.py x), w2.dp m r2 (h.py y), shaped_of (h.lay x h1) (h.dep x) hn, shaped_of (h.lay y h2) (h.dep y) hn, by rw [h.eqv]; exact k _ H (Same.refl H) (.bl _)⟩
end
end
end DL
namespace DL
theorem rng_item {n : Nat} {i : Nat} {d : D} (h : (rngD 0 n)[i]? = some d) : i < n ∧ d = .int (i : Int) := by
  unfold rngD at h
  rw [List.getElem?_map] at h
  obtain ⟨j, h1, h2⟩ := Option.map_eq_some_iff.mp h
  obtain ⟨hi, e⟩ := List.getElem?_eq_some_iff.mp h1
  rw [List.getElem_range] at e
  subst e
  exact ⟨by simpa using hi, by rw [← h2, Int.zero_add]⟩
theorem map_item {α : Type} {xs : List α} {f : α → D} {i : Nat} {d : D} (h : (xs.map f)[i]? = some d) : ∃ x, xs[i]? = some x ∧ d = f x := by
  rw [List.getElem?_map] at h
  obtain ⟨x, h1, h2⟩ := Option.map_eq_some_iff.mp h
  exact ⟨x, h1, h2.symm⟩
theorem enum_item {α : Type} {xs : List α} {f : α → D} {i : Nat} {d : D} (h : (enumD (xs.map f))[i]? = some d) : ∃ x, xs[i]? = some x ∧ d = .tup [.int (i : Int), f x] := by
  unfold enumD at h
  rw [List.getElem?_map] at h
  obtain ⟨j, h1, h2⟩ := Option.map_eq_some_iff.mp h
  obtain ⟨hi, e⟩ := List.getElem?_eq_some_iff.mp h1
  rw [List.getElem_range] at e
  subst e
  have hi' : i < xs.length := by simpa using hi
  refine ⟨xs[i], by simp [hi'], ?_⟩
  rw [← h2]
  simp [hi']
theorem enum_len {ds : List D} : (enumD ds).length = ds.length := by simp [enumD]
theorem rng_len {lo : Int} {n : Nat} : (rngD lo n).length = n := by simp [rngD]
end DL

set_option Elab.async false
set_option linter.all false
set_option maxRecDepth 100000
set_option maxHeartbeats 2000000
namespace PySem
open PySem.Spec PyProof.Rows
theorem dl_enum_new {v : Value} {o : Obj} {H : Heap → Prop} (B : Begins v o H) :
    Meets (Builtin.«enumerate.__new__» ⟨[.type "enumerate", v], []⟩) (fun _ R s => H s.heap ∧
      R (.ok (.ret (.ref (s.heap.push o).objs.size))) { s with heap := (s.heap.push o).push { cls := .type "enumerate", data := .fields #[.none, .bool false, .ref s.heap.objs.size, rawInt 0, .none, .none] } }) :=
  .of_wp fun prog w A R s h => by
    obtain ⟨hp, g, d, tk, os⟩ := s; obtain ⟨h1, h⟩ := h
    have hsub := sub_enumerate
    have q1 : ∀ {A' : Around} {E : Value → Shared → Prop} {Q : Value → Shared → Prop}, Q (.ref hp.objs.size) ⟨hp.push o, g, d, tk, os⟩ → wpAny (model prog w) A' (pyIter v) Q E ⟨hp, g, d, tk, os⟩ :=
      fun q => B.iter prog w _ _ ⟨hp, g, d, tk, os⟩ _ h1 q
    wp_walk using q1
    refine wpAny_stack_any fun st => wpAny_pure ?_
    split
    · rename_i c _ _ _ _ _
      cases (c == Value.type "enumerate")
      · wp_walk using q1
        exact ⟨_, rfl, h⟩
      · wp_walk using q1
        exact ⟨_, rfl, h⟩
    · wp_walk using q1
      exact ⟨_, rfl, h⟩
theorem dl_enum_begins {prog : Program} {w : World} {A : Around} {E : Value → Shared → Prop} {s : Shared} {v : Value} {o : Obj} {H : Heap → Prop} {Q : Value → Shared → Prop} (B : Begins v o H) (h1 : H s.heap)
    (h : ∀ h', IsEnum h' (s.heap.objs.size + 1) s.heap.objs.size 0 .none → h'.get? s.heap.objs.size = some o → h'.objs.size = s.heap.objs.size + 2 →
      (∀ b o, s.heap.get? b = some o → h'.get? b = some o) → Q (.ref (s.heap.objs.size + 1)) { s with heap := h' }) :
    wpAny (model prog w) A (call (.type "enumerate") [v]) Q E s := by
  refine callType_new F.called_enumerate (by decide) (F.typeCall_enumerate_1 _) (F.newCall_enumerate_1 _) (fun obj => F.args_object_init_2 obj _) F.entry_enumerate_new
    (dl_enum_new B) ⟨h1, ?_⟩
  have hz : (s.heap.push o).objs.size = s.heap.objs.size + 1 := Heap.size_push ..
  show _ ∧ _
  rw [hz]
  have he : IsEnum ((s.heap.push o).push { cls := .type "enumerate", data := .fields #[.none, .bool false, .ref s.heap.objs.size, rawInt 0, .none, .none] }) (s.heap.objs.size + 1) s.heap.objs.size 0 .none := by
    have := Heap.get?_push_size (s.heap.push o) (o := { cls := .type "enumerate", data := .fields #[.none, .bool false, .ref s.heap.objs.size, rawInt 0, .none, .none] }) rfl
    rw [hz] at this; exact this
  refine ⟨⟨_, he, rfl⟩, h _ he (Heap.get?_push_of_some _ (Heap.get?_push_size _ B.free)) (by rw [Heap.size_push, hz]) fun b o x => Heap.get?_push_of_some _ (Heap.get?_push_of_some _ x)⟩
end PySem
namespace L2
open PySem PySem.Spec PyProof.Rows
/-! ### enumerate(tuple) -/
def Itet (K : PySem.W.Frag) (a : Addr) : It :=
  ⟨fun i H => ∃ (xs : List V) (x : V), SqT K H a xs ∧ xs[i]? = some x, fun i H v H' => ∃ T x, v = .ref T ∧ H T = none ∧ H' = upd H T (.tup [.int (i : Nat), x]) ∧ ∀ xs, SqT K H a xs → xs[i]? = some x, fun i H => ∃ xs : List V, SqT K H a xs ∧ xs.length ≤ i⟩
theorem enum_ne_tup {h : Heap} {e it t : Addr} {i : Int} {old : Value} {items : Array Value} (he : IsEnum h e it i old) (ht : h.IsTuple t items) : e ≠ t := by
  rintro rfl
  have e1 : h.get? e = _ := he
  obtain ⟨o, e2, hc, _⟩ := ht
  rw [e1] at e2
  cases e2
  have hc' : (Value.type "enumerate") = .type "tuple" := hc
  exact absurd hc' (by decide)
theorem iter_ne_tup {h : Heap} {it t a : Addr} {i : Nat} {items : Array Value} (he : h.IsTupleIter it a i) (ht : h.IsTuple t items) : t ≠ it := by
  rintro rfl
  obtain ⟨o, ho, hc, hd⟩ := he
  obtain ⟨o', e2, hc', _⟩ := ht
  rw [ho] at e2
  cases e2
  rw [hc] at hc'
  exact absurd hc' (by decide)
theorem turn_enumT {P : Program} {w : World} {K : PySem.W.Frag} {elts : List Expr} {kk : Nat} {tpos : Pos} (a e it : Addr) :
    Turn P w K (.Tuple elts kk tpos) (Itet K a) [e, it] e (fun i h => (∃ old, IsEnum h e it ((i : Nat) : Int) old) ∧ h.IsTupleIter it a i ∧ e ≠ it) where
  mem := by simp
  obj := fun i h st b hb => by
    obtain ⟨⟨old, he⟩, ⟨o, ho, hc, hd⟩, _⟩ := st
    have e' : b = e ∨ b = it := by simpa using hb
    rcases e' with z | z
    · rw [z]; exact ⟨_, he, fun v q => nomatch q⟩
    · rw [z]; exact ⟨o, ho, fun v q => by rw [hd] at q; cases q⟩
  keep := fun i h h' st k => let ⟨⟨old, he⟩, hi, hne⟩ := st; ⟨⟨old, k e (by simp) _ he⟩, hi.at fun o q => k it (by simp) o q, hne⟩
  item := by
    intro X hP hw hK hc i pins s σ H E I hf st hg
    subst hP hw hK
    obtain ⟨⟨old, he⟩, hit, hne⟩ := st
    obtain ⟨xs, x, hq, hx⟩ := hg
    obtain ⟨its, rv, p, hz⟩ := I.tuple hq
    have pt : s.heap.IsTuple a its.toArray := p
    obtain ⟨u, hu, ru⟩ := rv.get hx
    have hel : e < s.heap.objs.size := Heap.lt_size he
    have hil : it < s.heap.objs.size := by obtain ⟨_, q, _⟩ := hit; exact Heap.lt_size q
    have hea := enum_ne_tup he pt
    have hia := iter_ne_tup hit pt
    have hlt : i < its.toArray.size := by
      have := (List.getElem?_eq_some_iff.mp hu).1
      simpa using this
    refine wpAny_pyNext_enum_itemD (Draws.tuple (show X.A.in1.handled = none from I.ok.hd hc) it a hia its.toArray) he ⟨hit, pt⟩ hlt hne (by simp [hne, hea]) fun x' h' tk hx' ho st' hT hsz hk => ?_
    obtain rfl : x' = u := by
      have : its.toArray[i]? = some u := by simpa using hu
      rw [this] at hx'; exact (Option.some.inj hx').symm
    obtain ⟨hit', pt'⟩ := st'
    refine ⟨_, rfl, wpAny_letOwnedTupleGo_enum (s := { s with heap := h', toks := tk + 1 }) ho fun h'' he' sb => ?_⟩
    have hT2 : h''.get? s.heap.objs.size = some { cls := .type "tuple", data := .seq #[.int i tk, x'] } := (sb.2 _ (Nat.ne_of_gt hel)).trans hT
    have new : ObjOk X.prog X.w (upd H s.heap.objs.size (.tup [.int (i : Nat), x])) h'' s.heap.objs.size (.tup [.int (i : Nat), x]) :=
      ⟨by show 2 ≤ sizeLine; decide, [.int i tk, x'], .cons ⟨_, rfl⟩ (.cons ru .nil), ⟨_, hT2, rfl, _, rfl⟩⟩
    have I1 : Inv X pins σ (upd H s.heap.objs.size (.tup [.int (i : Nat), x])) { s with heap := h'', toks := tk + 1 } :=
      I.turnedNew (ch := [e, it]) (fun b ob hb q => (sb.2 b (fun z => hb (by simp [z]))).trans (hk b ob (fun z => hb (by simp [z])) (fun z => hb (by simp [z])) q)) hf (Nat.le_refl _) new
    refine ⟨.ref s.heap.objs.size, _, I1, rfl, ⟨_, x, rfl, I.hok.fresh (Nat.le_refl _), rfl, fun ys hy => by rw [I.tuple_inj hy hq]; exact hx⟩, ⟨⟨x', ?_⟩, hit'.at fun o q => (sb.2 it (Ne.symm hne)).trans q, hne⟩, fun b hb => ?_⟩
    · have e1 : ((i + 1 : Nat) : Int) = (i : Int) + 1 := by omega
      rw [e1]; exact he'
    · have hb' : b < s.heap.objs.size := by
        have e' : b = e ∨ b = it := by simpa using hb
        rcases e' with z | z
        · rw [z]; exact hel
        · rw [z]; exact hil
      rw [upd_ne (Nat.ne_of_lt hb')]
      exact (hf b hb).1
  done := by
    intro X hP hw hK hc i pins s σ H E I hf st hg
    subst hP hw hK
    obtain ⟨⟨old, he⟩, hit, hne⟩ := st
    obtain ⟨xs, hq, hx⟩ := hg
    obtain ⟨its, rv, p, hz⟩ := I.tuple hq
    have pt : s.heap.IsTuple a its.toArray := p
    obtain ⟨f0, f1, f2, f3, f4, f5⟩ := hf it (by simp)
    have hl := rv.length
    have hT : s.TypeIs (.ref e) "enumerate" := ⟨_, he, rfl⟩
    unfold pyNext
    refine wpAny_bind (wpAny_attempt (wpAny_callSpecial?_slot (name := Str.ofString "__next__") hT F.slot_enumerate_next
      (wpAny_call_entry F.slot_enumerate_next hT F.entry_enumerate_next ?_ (F.args_enumerate_next_1 _))))
    show wpAny _ _ (field (.ref e) 2 >>= _) _ _ _
    refine wpAny_bind (wpAny_field he rfl (x := .ref it) rfl ?_)
    refine wpAny_bind (wpAny_nextOf_tuple_end (show X.A.in1.in1.handled = none from I.ok.hd hc) hit pt (by simp; omega) fun h' x eb hx' => ?_)
    obtain ⟨o, ho, hcl⟩ := hx'
    refine wpAny_bind (wpAny_isInstance (T := "StopIteration") (b := true) ⟨o, ho, hcl⟩ isSubtype_stop ?_)
    exact wpAny_pure ⟨rfl, I.turned (t' := s.toks) (fun b o hb q => eb b o hb q) f0 f1 f3 f4 f5⟩
  self := fun A i s Q E st h => let ⟨⟨_, he⟩, _⟩ := st; wpAny_pyIter_enum he h
def iEnumT (K : PySem.W.Frag) (ta : TA) : TI := fun σ H R => ta σ H fun vs H1 => ∃ a xs, vs = [.ref a] ∧ ((SqL K H1 a xs ∧ R (Ite K a) H1) ∨ (SqT K H1 a xs ∧ R (Itet K a) H1))
theorem pi_enumT {X : Cx} {e : Expr} {ta : TA} {p pos tpos : Pos} {elts : List Expr} {kk : Nat} (hg : Gl X "enumerate") (hm : X.mg "enumerate" = none) (ha : PA X [e] ta) (hs : starEach [e] X.env = [(false, eval e X.env)] := by rfl) :
    PI X (.Tuple elts kk tpos) (.Call (.Name "enumerate" p) [e] [] pos) (iEnumT X.K ta) := by
  refine ⟨fun pins s σ H R I h => ?_⟩
  refine Call_ (ld_blt I hg hm boot_enumerate (PyProof.Rows.callWith_type1 (thn (ha.run pos pins s σ H _ I h) fun us s1 ⟨vs, H1, I1, r1, q1⟩ => ?_) hs rfl))
  obtain ⟨a, xs, ex, q⟩ := q1
  subst ex
  cases r1 with
  | cons r rr =>
    cases rr
    cases r
    rcases q with ⟨hq, q⟩ | ⟨hq, q⟩
    · obtain ⟨its, rv, p', hz⟩ := I1.list hq
      refine call_enumerate_list p'.isList fun h' he hit hsz hk => wpAny_pyIter_enum he ?_
      have I2 : Inv X pins σ H1 { s1 with heap := h' } := I1.kept (t' := s1.toks) hk
      refine ⟨s1.heap.objs.size + 1, [s1.heap.objs.size + 1, s1.heap.objs.size], _, _, H1, rfl, I2, turn_enum a (s1.heap.objs.size + 1) s1.heap.objs.size, ⟨⟨.none, he⟩, hit, Nat.succ_ne_self _⟩, fun b hb => ?_, q⟩
      have e' : b = s1.heap.objs.size + 1 ∨ b = s1.heap.objs.size := by simpa using hb
      have hle : s1.heap.objs.size ≤ b := by
        rcases e' with z | z
        · rw [z]; exact Nat.le_add_right _ _
        · rw [z]; exact Nat.le_refl _
      exact I1.fpOk hle (I1.hok.fresh hle)
    · obtain ⟨its, rv, p', hz⟩ := I1.tuple hq
      refine dl_enum_begins (begins_tuple a its.toArray) (show s1.heap.IsTuple a its.toArray from p') fun h' he hit hsz hk => wpAny_pyIter_enum he ?_
      have I2 : Inv X pins σ H1 { s1 with heap := h' } := I1.kept (t' := s1.toks) hk
      refine ⟨s1.heap.objs.size + 1, [s1.heap.objs.size + 1, s1.heap.objs.size], _, _, H1, rfl, I2, turn_enumT a (s1.heap.objs.size + 1) s1.heap.objs.size, ⟨⟨.none, he⟩, ⟨_, hit, rfl, rfl⟩, Nat.succ_ne_self _⟩, fun b hb => ?_, q⟩
      have e' : b = s1.heap.objs.size + 1 ∨ b = s1.heap.objs.size := by simpa using hb
      have hle : s1.heap.objs.size ≤ b := by
        rcases e' with z | z
        · rw [z]; exact Nat.le_add_right _ _
        · rw [z]; exact Nat.le_refl _
      exact I1.fpOk hle (I1.hok.fresh hle)
end L2
namespace DL
open PySem PySem.Spec PyProof.Rows L2
section
variable {X : Cx} {B : Gd} {ρ ρ' : List (Option D)} {O O' O1 O2 : Om} {A : AE} {a b c e o : Expr} {es : List Expr} {d d1 d2 d3 : D} {ds : List D} {pos pos' p apos : Pos} {b1 b2 : Bool} {st : Stmt} {ss rest : List Stmt} {x : Str} {k : Nat} {C : Addr}
theorem ei_enumQ {ea : Expr} {elts : List Expr} {kk : Nat} {p p' tpos : Pos} (hgl : Gl X "enumerate") (hm : X.mg "enumerate" = none) (hi : EA X B ρ O [ea] [d]) (w : Vq (B.L ++ O) d ds) (hse : starEach [ea] X.env = [(false, eval ea X.env)] := by rfl) :
    EI X B ρ O (.Tuple elts kk tpos) (.Call (.Name "enumerate" p) [ea] [] p') (iEnumT X.K (tA X.K B ρ O [d])) (fun O' => Vq (B.L ++ O') d ds) (enumD ds) :=
  ⟨pi_enumT hgl hm hi hse, fun σ H R st k => ⟨st, fun vs H1 e1 r1 => by
    have hl : (enumD ds).length = ds.length := by simp [enumD]
    cases r1 with
    | @cons v _ _ _ h r =>
    cases r
    rcases w with w | rfl
    · obtain ⟨a, vs, rfl, hq, rl⟩ := w.sql (st.same e1).m h
      have S := src_list w (st.same e1).m h rfl
      refine ⟨a, vs, rfl, .inl ⟨hq, k _ H1 e1 ⟨fun i B' O' H' eL hi m e g => ?_, fun B' O' H' eL m e g => ?_, fun i B' O' H' x H2 eL hi m e g y => ?_⟩⟩⟩
      · rw [hl] at hi
        have g' : Vw (B.L ++ O') d ds := by
          rcases g with g | g
          · exact g
          · subst g; rcases w with w | ⟨a', w, _⟩ <;> cases w
        exact S.goes i B' O' H' eL hi m e g'
      · rw [hl]
        have g' : Vw (B.L ++ O') d ds := by
          rcases g with g | g
          · exact g
          · subst g; rcases w with w | ⟨a', w, _⟩ <;> cases w
        exact S.stops B' O' H' eL m e g'
      · rw [hl] at hi
        have g' : Vw (B.L ++ O') d ds := by
          rcases g with g | g
          · exact g
          · subst g; rcases w with w | ⟨a', w, _⟩ <;> cases w
        obtain ⟨T, x', ex, hT, e2, y⟩ := y
        subst e2 ex
        obtain ⟨_, d', hd', rd⟩ := S.yields i B' O' H' x' H' eL hi m e g' ⟨rfl, y⟩
        refine ⟨same_new hT, .tup [.int (i : Int), d'], ?_, .tup (.inl (.inl (m.visNew hT))) (.cons (.int _) (.cons (rd.mono (vis_same (same_new hT))) .nil))⟩
        unfold enumD; rw [List.getElem?_map, List.getElem?_range hi]; simp [hd']
    · cases h with
      | @tup a vs _ hq rl =>
      refine ⟨a, vs, rfl, .inr ⟨same_t vis_le hq, k _ H1 e1 ⟨fun i B' O' H' eL hi m e g => ?_, fun B' O' H' eL m e g => ?_, fun i B' O' H' x H2 eL hi m e g y => ?_⟩⟩⟩
      · rw [hl] at hi
        obtain ⟨v, hv, _⟩ := rl.get (i := i) (d := ds[i]) (by simp [hi])
        exact ⟨vs, v, same_t vis_le (same_t e hq), hv⟩
      · rw [hl]
        exact ⟨vs, same_t vis_le (same_t e hq), by rw [rl.length]; exact Nat.le_refl _⟩
      · rw [hl] at hi
        obtain ⟨T, x', ex, hT, e2, y⟩ := y
        subst e2 ex
        obtain ⟨v, hv, rv⟩ := rl.get (i := i) (d := ds[i]) (by simp [hi])
        have ex := y vs (same_t vis_le (same_t e hq))
        rw [hv] at ex
        cases ex
        refine ⟨same_new hT, .tup [.int (i : Int), ds[i]], ?_, .tup (.inl (.inl (m.visNew hT))) (.cons (.int _) (.cons ((rv.mono e).mono (vis_same (same_new hT))) .nil))⟩
        unfold enumD; rw [List.getElem?_map, List.getElem?_range hi]; simp [hi]⟩⟩
/-- a op b op' c of ints -/
theorem et_chainI {op op' : CmpOp} {g g' : Int → Int → Bool} {i j l : Int} (ho : OpR X (compareOp op) (rI0 fun i j => .bl (g i j))) (ho' : OpR X (compareOp op') (rI0 fun i j => .bl (g' i j))) (ha : EV X B ρ O a (.int i)) (hb : EV X B ρ O b (.int j)) (hc : EV X B ρ O c (.int l))
    (hm : lastMarks [op, op'] [b, c] = false := by with_unfolding_all rfl) : ET X B ρ O (.Compare a [op, op'] [b, c] pos) (g i j && g' j l) :=
  pt_imp (pt_chain ho ho' ha hb hc hm) fun σ H Q ⟨st, k⟩ => ⟨st, fun v H1 e1 r1 => by
    cases r1
    refine ⟨st.same e1, fun v H2 e2 r2 => ?_⟩
    cases r2
    refine ⟨i, j, rfl, rfl, g i j, rfl, ?_⟩
    cases h : g i j with
    | false => simp only [h, Bool.false_and] at k ⊢; exact ⟨false, rfl, k _ (e1.trans e2)⟩
    | true =>
      simp only [h, Bool.true_and, if_true] at k ⊢
      refine ⟨(st.same e1).same e2, fun v H3 e3 r3 => ?_⟩
      cases r3
      exact ⟨j, l, rfl, rfl, g' j l, rfl, k _ ((e1.trans e2).trans e3)⟩⟩
theorem atS {z : Str} {i : Int} (h0 : 0 ≤ i) (h : i < (z.length : Int)) : atI z.cps.toList i = some (z.cps.toList.getD i.toNat 0) := atC h0 (by rw [Array.length_toList]; exact h)
theorem vq_enum_item {α : Type} {xs : List α} {f : α → D} {i : Nat} {d : D} (h : (enumD (xs.map f))[i]? = some d) : ∃ x, xs[i]? = some x ∧ d = .tup [.int (i : Int), f x] := enum_item h
end
end DL

set_option Elab.async false
set_option linter.all false
set_option maxRecDepth 100000
set_option maxHeartbeats 4000000
namespace DL
open PySem PySem.Spec PyProof.Rows L2 TL
def top (i : Nat) : Stmt := PySem.Challenge.pw_unbettered_k03_words_of_one_column.main.body.getD i (.Pass ⟨0, 0, 0, 0⟩)
abbrev sg (z : Str) (i : Nat) : Nat := z.cps.toList.getD i 0
abbrev ch (z : Str) (i : Nat) : Str := ⟨#[z.cps.toList.getD i 0]⟩
def digs (z : Str) : Str := if decide (ch z 0 = ("-" : Str)) = true then cutS z (some 1) none else z
abbrev tab : List Nat := (Str.ofString "0123456789").cps.toList
def intV (z : Str) : Int := (PySem.intText? z).getD 0
def constM (z : Str) : Option Int :=
  if ¬ ((1 : Int) ≤ ((digs z).length : Int) ∧ ((digs z).length : Int) ≤ 18) then none
  else if (digs z).cps.toList.all (fun c => decide (c ∈ tab)) = false then none
  else if ch (digs z) 0 = ("0" : Str) ∧ ¬ z = ("0" : Str) then none
  else some (intV z)
def opsA (z : Str) : Option Int :=
  if z = ("not" : Str) then some 1 else if z = ("flip" : Str) then some 1 else if z = ("and" : Str) then some 2 else if z = ("or" : Str) then some 2
  else if z = ("else" : Str) then some 2 else if z = ("pareto" : Str) then some 2 else none
abbrev ops (z : Str) : Option D := (opsA z).map fun n => D.int n
def decM (z : Str) : Option (Str × Int × Int) :=
  if (opsA z).isSome = true then some (z, -1, 0)
  else if (z.length : Int) = 2 ∧ sg z 0 ∈ (Str.ofString "<>=").cps.toList ∧ sg z 1 ∈ (Str.ofString "abc").cps.toList then some (ch z 0, Txt.find "abc" (ch z 1), 0)
  else if (z.length : Int) < 3 ∨ ¬ sg z 0 ∈ (Str.ofString "abc").cps.toList ∨ ¬ sg z 1 ∈ (Str.ofString "<>=").cps.toList then none
  else (constM (cutS z (some 2) none)).map fun c => (("row" : Str) ++ ch z 1, Txt.find "abc" (ch z 0), c)
def stepD : Option (Str × Int × Int) → D
  | none => .non
  | some (a, b, c) => .tup [.str a, .int b, .int c]
def optI : Option Int → D
  | none => .non
  | some i => .int i
def missN (ws : List Str) : Nat → Int
  | 0 => 1
  | i + 1 => missN ws i + (opsA (ws.getD i Str.empty)).getD 0 - 1
structure OkW (ws : List Str) : Prop where
  dec : ∀ w ∈ ws, ∃ s, decM w = some s
  pos : ∀ i, i < ws.length → 0 < missN ws i
  fin : missN ws ws.length = 0
  len : ∀ w ∈ ws, w.length ≤ 100
  most : ws.length ≤ 40
abbrev stepW (w : Str) : D := stepD (decM w)
def arConst (L : Om) (ds : List D) (d : D) : Prop := ∃ z : Str, ds = [.str z] ∧ 0 < z.length ∧ z.length ≤ 600 ∧ d = optI (constM z)
def arDec (L : Om) (ds : List D) (d : D) : Prop := ∃ z : Str, ds = [.str z] ∧ z.length ≤ 600 ∧ d = stepD (decM z)
abbrev fF : List Str := ["words", "code"]
abbrev fV (ws : List Str) : List D := [.tup (ws.map fun w => D.str w), .lst ((ws.map fun w => stepW w).reverse)]
def arInit (L : Om) (ds : List D) (ns : List Str) (fs : List D) : Prop := ∃ (d : D) (ws : List Str), ds = [d] ∧ Vq L d (ws.map fun w => D.str w) ∧ OkW ws ∧ ns = fF ∧ fs = fV ws
theorem digs_some {z : Str} (h0 : 0 < z.length) (h : (1 : Int) ≤ ((digs z).length : Int) ∧ ((digs z).length : Int) ≤ 18) (hd : (digs z).cps.toList.all (fun c => decide (c ∈ tab)) = true) : PySem.intText? z = some (intV z) := by
  have hn : ∃ n, PySem.intText? z = some n := by
    have hdig : ∀ c ∈ tab, 48 ≤ c ∧ c ≤ 57 := by decide +kernel
    have hall : ∀ c ∈ (digs z).cps.toList, 48 ≤ c ∧ c ≤ 57 := fun c hc => hdig c (of_decide_eq_true (List.all_eq_true.mp hd c hc))
    unfold digs at h hall
    by_cases hm : ch z 0 = ("-" : Str)
    · rw [if_pos (decide_eq_true hm)] at h hall
      have e0 : sg z 0 = 45 := by
        have : ch z 0 = (⟨#[45]⟩ : Str) := hm.trans (by decide +kernel)
        injection this with h1
        injection h1 with h2
        injection h2
      have hz : z.cps.toList.length = z.length := Array.length_toList
      cases hl : z.cps.toList with
      | nil => rw [hl] at hz; simp at hz; omega
      | cons c cs =>
        have e1 : c = 45 := by simpa [sg, hl] using e0
        subst e1
        have e2 : cutS z (some 1) none = (⟨cs.toArray⟩ : Str) := by
          unfold cutS
          rw [hl]
          have a1 : HT.sIx z.length 0 (some 1) = 1 := by
            have := HT.sIx_nat z.length 0 1
            rw [show (some ((1 : Nat) : Int)) = some (1 : Int) from rfl] at this
            rw [this]; omega
          have a2 : HT.sIx z.length z.length none = z.length := rfl
          rw [a1, a2]
          have : (List.drop 1 (45 :: cs)).take (z.length - 1) = cs := by
            rw [List.drop_succ_cons, List.drop_zero]
            refine List.take_of_length_le ?_
            rw [← hz, hl, List.length_cons]; omega
          rw [this]
        rw [e2] at h hall
        refine ⟨_, intText_neg hl (fun c hc => hall c (by simpa using hc)) ?_ ?_⟩
        · intro e; subst e; simp [Str.length] at h
        · have : (⟨cs.toArray⟩ : Str).length = cs.length := by simp [Str.length]
          rw [this] at h
          rw [← hz, hl, List.length_cons]; omega
    · rw [if_neg (by simpa using hm)] at h hall
      refine ⟨_, intText_digits hall ?_ (by omega)⟩
      intro e
      have : z.cps.toList.length = z.length := Array.length_toList
      rw [e] at this; simp at this; omega
  obtain ⟨n, hn⟩ := hn
  rw [hn]; unfold intV; rw [hn]; rfl
theorem optD_int (o : Option Int) (n : Int) : ((o.map fun i => D.int i).getD (.int n)) = .int (o.getD n) := by cases o <;> rfl
theorem Vq.app {L O : Om} {d : D} {ds : List D} (h : Vq L d ds) : Vq (L ++ O) d ds := by
  rcases h with (h | ⟨a, h1, h2⟩) | h
  · exact .inl (.inl h)
  · exact .inl (.inr ⟨a, h1, List.mem_append_left _ h2⟩)
  · exact .inr h
theorem app_len (a b : Str) : (a ++ b).length = a.length + b.length := by
  show (a.cps ++ b.cps).size = _
  rw [Array.size_append]; rfl
theorem cut2_len {z : Str} : (cutS z (some 2) none).length = z.length - 2 := by
  have hz : z.cps.toList.length = z.length := Array.length_toList
  have := HT.sIx_nat z.length 0 2
  rw [show (some ((2 : Nat) : Int)) = some (2 : Int) from rfl] at this
  show ((⟨_⟩ : Str)).cps.size = _
  simp only [cutS, this, HT.sIx_none, List.size_toArray, List.length_take, List.length_drop, hz]
  omega
theorem cut2_pos {z : Str} (h : 3 ≤ z.length) : 0 < (cutS z (some 2) none).length := by rw [cut2_len]; omega
theorem cut2_le {z : Str} {n : Nat} (h : z.length ≤ n) : (cutS z (some 2) none).length ≤ n := by rw [cut2_len]; omega
theorem ev_globS {X : Cx} {B : Gd} {ρ : List (Option D)} {O : Om} {x z : Str} {pos : Pos} (hg : Gl X x) (hm : ∃ t, X.mg x = some (.str z t)) (hd : (x == ("__debug__" : Str)) = false := by decide) : EV X B ρ O (.Name x pos) (.str z) := by
  obtain ⟨t, h⟩ := hm
  exact ev_glob (v := .str z) hg h ⟨t, rfl⟩ (fun _ => .str _) hd
theorem digs_le (z : Str) : (digs z).length ≤ z.length := by
  unfold digs
  split
  · show ((⟨_⟩ : Str)).cps.size ≤ _
    simp only [cutS, HT.sIx_none, List.size_toArray, List.length_take, List.length_drop]
    have hz : z.cps.toList.length = z.length := Array.length_toList
    omega
  · exact Nat.le_refl _
theorem one_len (c : Nat) : ((⟨#[c]⟩ : Str)).length = 1 := rfl
theorem row_len : (Str.ofString "row").length = 3 := by decide +kernel
theorem ixN_of {n : Nat} {i : Int} (h0 : 0 ≤ i) (h : i < (n : Int)) : ixN n i = some i.toNat := by
  unfold ixN; rw [if_pos h0, if_pos h]
theorem numL_first : ∀ n : Nat, 0 < n → ∃ c cs, numL n = c :: cs ∧ c ≠ 48 := by
  intro n
  induction n using Nat.strongRecOn with
  | _ n ih =>
    intro h0
    by_cases h : n < 10
    · exact ⟨48 + n, [], numL_lt h, by omega⟩
    · obtain ⟨c, cs, e, hc⟩ := ih (n / 10) (by omega) (by omega)
      exact ⟨c, cs ++ [48 + n % 10], by rw [numL_step (by omega), e]; rfl, hc⟩
theorem tl_neg (n : Nat) : tl (Str.ofString (toString (Int.negSucc n))) = 45 :: numL (n + 1) := by
  have h := tl_num (n + 1)
  have e : toString (Int.negSucc n) = "-" ++ toString (((n + 1 : Nat)) : Int) := rfl
  unfold tl at h ⊢
  rw [Str.ofString_eq_toList] at h ⊢
  rw [e, String.toList_append]
  simp only [List.map_append]
  simp only at h
  rw [h]
  rfl
theorem constM_num {c : Int} (h : c.natAbs < 10 ^ 18) : constM (Str.ofString (toString c)) = some c ∧ (Str.ofString (toString c)).length ≤ 19 ∧ 0 < (Str.ofString (toString c)).length ∧ ∀ x ∈ tl (Str.ofString (toString c)), x = 45 ∨ (48 ≤ x ∧ x ≤ 57) := by
  have hd : ∀ n : Nat, (numL n).all (fun c => decide (c ∈ tab)) = true := fun n => by
    refine List.all_eq_true.mpr fun x hx => ?_
    have := numL_digits n x hx
    refine decide_eq_true ?_
    have q : ∀ m : Fin 10, 48 + m.val ∈ tab := by decide +kernel
    have := q ⟨x - 48, by omega⟩
    have e : 48 + (x - 48) = x := by omega
    simp only [e] at this
    exact this
  have two : ∀ (z : Str) (n : Nat), tl (digs z) = numL n → n < 10 ^ 18 → (n = 0 → z = ("0" : Str)) → (z = ("0" : Str) ∨ ¬ ch (digs z) 0 = ("0" : Str)) → constM z = some (intV z) := fun z n e hn _ hz => by
    have hl : (digs z).length = (numL n).length := by rw [len_tl, e]
    have h1 : (numL n).length ≤ 18 := numL_len (by decide) hn
    have h2 : 0 < (numL n).length := List.length_pos_iff.mpr (numL_ne n)
    unfold constM
    rw [if_neg (by rw [hl]; omega), if_neg (by rw [show (digs z).cps.toList = numL n from e, hd n]; decide)]
    rw [if_neg]
    rintro ⟨a, b⟩
    rcases hz with hz | hz
    · exact b hz
    · exact hz a
  have chz : ∀ (z : Str) (c : Nat) (cs : List Nat), tl z = c :: cs → ch z 0 = (⟨#[c]⟩ : Str) := fun z c cs e => by
    show (⟨#[(tl z).getD 0 0]⟩ : Str) = _
    rw [e]; rfl
  cases c with
  | ofNat n =>
    have hn : n < 10 ^ 18 := h
    have e0 : tl (Str.ofString (toString (Int.ofNat n))) = numL n := tl_num n
    have hm : ¬ ch (Str.ofString (toString (Int.ofNat n))) 0 = ("-" : Str) := by
      intro hm
      cases hl : numL n with
      | nil => exact numL_ne n hl
      | cons c cs =>
        rw [chz _ c cs (e0.trans hl)] at hm
        have : (⟨#[c]⟩ : Str) = ⟨#[45]⟩ := hm.trans (by decide +kernel)
        injection this with h1
        injection h1 with h2
        injection h2 with h3
        have := numL_digits n c (by rw [hl]; exact List.mem_cons_self)
        omega
    have ed : digs (Str.ofString (toString (Int.ofNat n))) = Str.ofString (toString (Int.ofNat n)) := by
      unfold digs; rw [if_neg (by simpa using hm)]
    have hl2 : (numL n).length ≤ 18 := numL_len (by decide) hn
    have hi : PySem.intText? (Str.ofString (toString (Int.ofNat n))) = some (Int.ofNat n) := int_num (by omega)
    refine ⟨?_, by rw [len_tl, e0]; omega, by rw [len_tl, e0]; exact List.length_pos_iff.mpr (numL_ne n), fun x hx => by rw [e0] at hx; exact .inr (numL_digits n x hx)⟩
    rw [two _ n (by rw [ed]; exact e0) hn (fun hz => by subst hz; decide +kernel) ?_]
    · unfold intV; rw [hi]; rfl
    · rw [ed]
      by_cases hz : n = 0
      · subst hz; exact .inl (by decide +kernel)
      · right
        intro q
        obtain ⟨c, cs, e, hc⟩ := numL_first n (by omega)
        rw [chz _ c cs (e0.trans e)] at q
        have : (⟨#[c]⟩ : Str) = ⟨#[48]⟩ := q.trans (by decide +kernel)
        injection this with h1
        injection h1 with h2
        injection h2 with h3
        exact hc h3
  | negSucc n =>
    have hn : n + 1 < 10 ^ 18 := h
    have e0 := tl_neg n
    have hm : ch (Str.ofString (toString (Int.negSucc n))) 0 = ("-" : Str) := (chz _ _ _ e0).trans (by decide +kernel)
    have hl2 : (numL (n + 1)).length ≤ 18 := numL_len (by decide) hn
    have hlen : (Str.ofString (toString (Int.negSucc n))).length = (numL (n + 1)).length + 1 := by rw [len_tl, e0]; rfl
    have ed : tl (digs (Str.ofString (toString (Int.negSucc n)))) = numL (n + 1) := by
      unfold digs
      rw [if_pos (decide_eq_true hm)]
      show ((⟨_⟩ : Str)).cps.toList = _
      simp only [cutS]
      have a1 : HT.sIx (Str.ofString (toString (Int.negSucc n))).length 0 (some 1) = 1 := by
        have := HT.sIx_nat (Str.ofString (toString (Int.negSucc n))).length 0 1
        rw [show (some ((1 : Nat) : Int)) = some (1 : Int) from rfl] at this
        rw [this]; omega
      have a2 : HT.sIx (Str.ofString (toString (Int.negSucc n))).length (Str.ofString (toString (Int.negSucc n))).length none = (Str.ofString (toString (Int.negSucc n))).length := rfl
      rw [a1, a2, show (Str.ofString (toString (Int.negSucc n))).cps.toList = 45 :: numL (n + 1) from e0, List.drop_succ_cons, List.drop_zero]
      exact List.take_of_length_le (by omega)
    have hi : PySem.intText? (Str.ofString (toString (Int.negSucc n))) = some (Int.negSucc n) := by
      rw [intText_neg (cs := numL (n + 1)) e0 (numL_digits _) (numL_ne _) (by omega), numL_val]; rfl
    refine ⟨?_, by omega, by omega, fun x hx => by
      rw [e0] at hx
      rcases List.mem_cons.mp hx with hx | hx
      · exact .inl hx
      · exact .inr (numL_digits _ x hx)⟩
    rw [two _ (n + 1) ed hn (fun hz => absurd hz (by omega)) ?_]
    · unfold intV; rw [hi]; rfl
    · right
      intro q
      obtain ⟨c, cs, e, hc⟩ := numL_first (n + 1) (by omega)
      rw [chz _ c cs (ed.trans e)] at q
      have : (⟨#[c]⟩ : Str) = ⟨#[48]⟩ := q.trans (by decide +kernel)
      injection this with h1
      injection h1 with h2
      injection h2 with h3
      exact hc h3
def poolStep (great : Bool) (k : Int) (j : Nat) (cell : Int) : Int × Int :=
  if great = true ∧ 0 < cell then (cell % 1000, cell / 1000)
  else (((cell * 37 + ((j : Int) + 11 * k) * 71 + 5) % 509 * ((cell * 37 + ((j : Int) + 11 * k) * 71 + 5) % 509) + cell + ((j : Int) + 11 * k) * 13) % 499, cell)
def cell0 (s : List Int) (k : Int) : Int := if k < (s.length : Int) then s.getD k.toNat 0 else 0
def great0 (s : List Int) (k : Int) : Bool := decide (10 ^ (18 : Int).toNat ≤ cell0 s k)
def poolN (s : List Int) (k : Int) : Nat → List Int × Int
  | 0 => ([], cell0 s k)
  | n + 1 => ((poolN s k n).1 ++ [(poolStep (great0 s k) k n (poolN s k n).2).1], (poolStep (great0 s k) k n (poolN s k n).2).2)
def pool (s : List Int) (k : Int) (n : Int) : List Int := (poolN s k n.toNat).1
theorem poolN_len (s : List Int) (k : Int) : ∀ n, (poolN s k n).1.length = n
  | 0 => rfl
  | n + 1 => by show ((poolN s k n).1 ++ [_]).length = n + 1; rw [List.length_append, poolN_len s k n]; rfl
theorem pool_len (s : List Int) (k n : Int) : (pool s k n).length = n.toNat := poolN_len s k n.toNat
theorem poolStep_ok (g : Bool) (k : Int) (j : Nat) (c : Int) : 0 ≤ (poolStep g k j c).1 ∧ (poolStep g k j c).1 < 1000 := by
  unfold poolStep
  split
  · exact ⟨Int.emod_nonneg _ (by decide), Int.emod_lt_of_pos _ (by decide)⟩
  · exact ⟨Int.emod_nonneg _ (by decide), Int.lt_trans (Int.emod_lt_of_pos _ (by decide)) (by decide)⟩
theorem poolN_ok (s : List Int) (k : Int) : ∀ n, ∀ x ∈ (poolN s k n).1, 0 ≤ x ∧ x < 1000
  | 0 => fun x h => by cases h
  | n + 1 => fun x h => by
    rcases List.mem_append.mp h with h | h
    · exact poolN_ok s k n x h
    · rw [List.mem_singleton.mp h]; exact poolStep_ok _ _ _ _
theorem pool_ok {s : List Int} {k n : Int} {x : Int} (h : x ∈ pool s k n) : 0 ≤ x ∧ x < 1000 := poolN_ok s k _ x h
theorem pool_at (s : List Int) (k n : Int) (i : Nat) : 0 ≤ (pool s k n).getD i 0 ∧ (pool s k n).getD i 0 < 1000 := by
  by_cases h : i < (pool s k n).length
  · have : (pool s k n).getD i 0 = (pool s k n)[i] := by simp [h]
    rw [this]; exact pool_ok (List.getElem_mem h)
  · have : (pool s k n).getD i 0 = 0 := by simp [h]
    rw [this]; decide
abbrev dInts (ns : List Int) : D := .lst (ns.map fun x => D.int x)
abbrev dStrs (ns : List Str) : D := .lst (ns.map fun x => D.str x)
def arPool (L : Om) (ds : List D) (es : List D) : Prop := ∃ (s : List Int) (k n : Int), ds = [dInts s, .int k, .int n] ∧ 0 ≤ k ∧ k < 1000000 ∧ 0 ≤ n ∧ n < 1000000 ∧ es = (pool s k n).map fun x => D.int x
def lookS : List (Str × Int) → Str → Option Int
  | [], _ => none
  | (k, i) :: r, z => if k = z then some i else lookS r z
def keyVal (e : DictEntry) : Option (Str × Int) := match e.key, e.val with
  | .str k _, .int v _ => some (k, v)
  | _, _ => none
def opsL : List (Str × Int) := [("not", 1), ("flip", 1), ("and", 2), ("or", 2), ("else", 2), ("pareto", 2)]
theorem ops_look (z : Str) : ops z = (lookS opsL z).map fun i => D.int i := by
  have e : opsA z = lookS opsL z := by
    unfold opsA opsL
    simp only [lookS]
    simp only [eq_comm (a := z)]
  rw [← e]
theorem missN_succ {ws : List Str} {i : Nat} {wd : Str} (h : ws[i]? = some wd) : missN ws (i + 1) = missN ws i + (opsA wd).getD 0 - 1 := by
  show missN ws i + (opsA (ws.getD i Str.empty)).getD 0 - 1 = _
  rw [show ws.getD i Str.empty = wd by rw [List.getD_eq_getElem?_getD, h]; rfl]
theorem take_step {ws : List Str} {i : Nat} {wd : Str} (h : ws[i]? = some wd) : (ws.take (i + 1)).map (fun w => stepW w) = (ws.take i).map (fun w => stepW w) ++ [stepW wd] := by
  rw [List.take_succ, h]; simp
theorem three_item {a d : D} {i : Nat} (h : [a, a, a][i]? = some d) : d = a := by
  match i, h with
  | 0, h => exact (Option.some.inj h).symm
  | 1, h => exact (Option.some.inj h).symm
  | 2, h => exact (Option.some.inj h).symm
def arRead (CF : Addr) (L : Om) (ds : List D) (d : D) : Prop := ∃ z : Str, ds = [.rf CF, .str z] ∧ z.length ≤ 1000000 ∧ OkW (Txt.split z " ") ∧ d = .obj CF fF (fV (Txt.split z " "))
def arText (CF : Addr) (L : Om) (ds : List D) (d : D) : Prop := ∃ ws : List Str, ds = [.obj CF fF (fV ws)] ∧ OkW ws ∧ d = .str (Txt.join " " ws)
theorem sum_le {ws : List Str} (h : ∀ w ∈ ws, w.length ≤ 100) : (ws.map (·.length)).sum ≤ ws.length * 100 := by
  induction ws with
  | nil => exact Nat.le_refl 0
  | cons w ws ih =>
    have := h w List.mem_cons_self
    have := ih fun v hv => h v (List.mem_cons_of_mem _ hv)
    simp only [List.map_cons, List.sum_cons, List.length_cons]
    omega
theorem kdi_of {K : PySem.W.Frag} {w : World} {a : Addr} {es : Array DictEntry} {n : Nat} {kvs : List (Str × Int)} (hl : K.lookup a = some ⟨.type "dict", none, .dict es n, #[]⟩) (lit : PySem.W.KeysLit w.params es.toList) (low : (a == sysModules) = false)
    (h : es.toList.map keyVal = kvs.map some) {f : Str → Option D} (hf : ∀ z, f z = (lookS kvs z).map fun i => D.int i) : KDi K w a f := by
  refine ⟨⟨es, n, hl, lit, low⟩, fun z => ?_⟩
  have key : ∀ (l : List DictEntry) (kvs : List (Str × Int)), l.map keyVal = kvs.map some → (l.find? (·.key.isStr z) = none ∧ lookS kvs z = none ∧ l.any (·.refKey) = false) ∨ ∃ e i t, l.find? (·.key.isStr z) = some e ∧ e.val = .int i t ∧ lookS kvs z = some i := by
    intro l
    induction l with
    | nil => intro kvs h; cases kvs with
      | nil => exact .inl ⟨rfl, rfl, rfl⟩
      | cons _ _ => cases h
    | cons e l ih =>
      intro kvs h
      cases kvs with
      | nil => cases h
      | cons q kvs =>
        rw [List.map_cons, List.map_cons] at h
        injection h with h1 h2
        obtain ⟨k, i⟩ := q
        obtain ⟨hash, ek, ev⟩ := e
        unfold keyVal at h1
        cases ek with
        | str k' t' =>
          cases ev with
          | int i' t2 =>
            have h3 := Option.some.inj h1
            injection h3 with h4 h5
            subst h4 h5
            by_cases hk : k' = z
            · have e1 : (Value.str k' t').isStr z = true := by simp [Value.isStr, hk]
              have hfd : List.find? (fun x => x.key.isStr z) ((⟨hash, .str k' t', .int i' t2⟩ : DictEntry) :: l) = some ⟨hash, .str k' t', .int i' t2⟩ := by rw [List.find?_cons, e1]
              refine .inr ⟨_, i', t2, hfd, rfl, ?_⟩
              · show (if k' = z then _ else _) = _
                rw [if_pos hk]
            · have e1 : (Value.str k' t').isStr z = false := by simp [Value.isStr, hk]
              have e2 : lookS ((k', i') :: kvs) z = lookS kvs z := by show (if k' = z then _ else _) = _; rw [if_neg hk]
              rcases ih kvs h2 with ⟨a1, a2, a3⟩ | ⟨e, i, t, a1, a2, a3⟩
              · exact .inl ⟨by rw [List.find?_cons, e1]; exact a1, e2.trans a2, by rw [List.any_cons, a3]; rfl⟩
              · exact .inr ⟨e, i, t, by rw [List.find?_cons, e1]; exact a1, a2, e2.trans a3⟩
          | _ => cases h1
        | _ => cases h1
  have e0 : PySem.W.nsIn K a z = (match es.toList.find? (·.key.isStr z) with
      | some e => some (some e.val)
      | none => if es.toList.any (·.refKey) then none else some none) := by
    unfold PySem.W.nsIn; rw [hl]; rfl
  rcases key _ _ h with ⟨a1, a2, a3⟩ | ⟨e, i, t, a1, a2, a3⟩
  · refine ⟨none, by rw [e0, a1]; simp only [a3]; rfl, ?_⟩
    rw [hf, a2]; trivial
  · refine ⟨some e.val, by rw [e0, a1], ?_⟩
    rw [hf, a3]
    exact ⟨.int i, by rw [a2]; exact ⟨t, rfl⟩, fun H => .int i⟩
theorem law_sp {K : PySem.W.Frag} {H : Hp} {a : Addr} {ns : List Int} {Q : VK} {E : XK} {Ar : Om → List D → D → Prop} (hA : Ar [] [dInts ns] (.bl true)) (hS : SqL K H a (ns.map V.int)) (k : ∀ H', Q (.bl true) H') : spP K Ar [.ref a] H Q E := by
  have e : Same H (vis (fun _ => false) [] H) := fun a o h => vis_some.mpr ⟨rfl, rfl, h⟩
  refine ⟨fun _ => false, [], [dInts ns], .bl true, ⟨fun a h => (by cases h), fun a m h => (by cases h), fun a m h => (by cases h)⟩, .cons (.lst (e.seq hS) ?_) .nil, hA, fun v H' _ r => ?_⟩
  · clear hA hS
    induction ns with
    | nil => exact .nil
    | cons n ns ih => exact .cons (.int n) ih
  · cases r; exact k H'
/-! rows, signs, what is due -/
def meetsM (s : Str) (a b : Int) : Bool := if s = ("<" : Str) then decide (a < b) else if s = (">" : Str) then decide (a > b) else decide (a = b)
def arMeets (L : Om) (ds : List D) (d : D) : Prop := ∃ (s : Str) (a b : Int), ds = [.str s, .int a, .int b] ∧ d = .bl (meetsM s a b)
def comparedM (w : Str) (c one two : Int) : Bool × Bool := if cutS w none (some 3) = ("row" : Str) then (meetsM (ch w 3) one c, meetsM (ch w 3) two c) else (meetsM w one two, meetsM w two one)
structure OkC (w : Str) : Prop where
  len : w.length ≤ 100
  row : cutS w none (some 3) = ("row" : Str) → 4 ≤ w.length
def arCompared (L : Om) (ds : List D) (d : D) : Prop := ∃ (w : Str) (c a b : Int), ds = [.str w, .int c, .int a, .int b] ∧ OkC w ∧ d = .tup [.bl (comparedM w c a b).1, .bl (comparedM w c a b).2]
abbrev tInts (r : List Int) : D := .tup (r.map fun x => D.int x)
structure OneW (w a : Str) (b c : Int) : Prop where
  dec : decM w = some (a, b, c)
  okc : OkC a
  b0 : 0 ≤ b
  b3 : b < 3
def ansM (a : Str) (b c : Int) (r o : List Int) : Bool := (comparedM a c (r.getD b.toNat 0) (o.getD b.toNat 0)).1
def arHolds (CF : Addr) (L : Om) (ds : List D) (d : D) : Prop := ∃ (w a : Str) (b c : Int) (r o : List Int), ds = [.obj CF fF (fV [w]), tInts r, tInts o] ∧ OneW w a b c ∧ r.length = 3 ∧ o.length = 3 ∧ d = .bl (ansM a b c r o)
def arTold (CF : Addr) (L : Om) (ds : List D) (d : D) : Prop := ∃ (w a : Str) (b c : Int) (r o : List Int) (due : Bool), ds = [.obj CF fF (fV [w]), tInts r, tInts o, .bl due] ∧ OneW w a b c ∧ r.length = 3 ∧ o.length = 3 ∧ d = .bl (decide (ansM a b c r o = due))
abbrev p64 : Int := 10 ^ (64 : Int).toNat
abbrev p20 : Int := 10 ^ (20 : Int).toNat
def bigN (v : Int) : Nat → Int
  | 0 => v
  | i + 1 => bigN v i * p64
def lawBig (one two : Int) : Int :=
  if one % 4 = 0 then two - 250 else if one % 4 = 1 then two * p20 + one else if one % 4 = 2 then -two * p20 - one else bigN (two - 250) 15 + one
def arBig (L : Om) (ds : List D) (d : D) : Prop := ∃ one two : Int, ds = [.int one, .int two] ∧ 0 ≤ one ∧ one < 1000 ∧ 0 ≤ two ∧ two < 1000 ∧ d = .int (lawBig one two)
theorem p64_lt : p64.natAbs < 2 ^ 220 := by decide +kernel
theorem p20_lt : p20.natAbs < 2 ^ 70 := by decide +kernel
theorem bigN_lt {v : Int} (h : v.natAbs < 2 ^ 10) : ∀ i, (bigN v i).natAbs < 2 ^ (10 + 220 * i)
  | 0 => h
  | i + 1 => by
    show (bigN v i * p64).natAbs < _
    rw [Int.natAbs_mul, show 10 + 220 * (i + 1) = (10 + 220 * i) + 220 by omega, Nat.pow_add]
    exact Nat.mul_lt_mul'' (bigN_lt h i) p64_lt
theorem mulBig {v : Int} {i : Nat} (h : v.natAbs < 2 ^ 10) (hi : i < 15) : CMulW (bigN v i) p64 := wide_mul (bigN_lt h i) p64_lt (by omega) (by decide) (by omega)
theorem mul20 {v : Int} (h : v.natAbs < 2 ^ 10) : CMulW v p20 := wide_mul h p20_lt (by decide) (by decide) (by decide)
abbrev letB (a : Fin 3) : Str := ⟨#[(Str.ofString "abc").cps.toList.getD a.val 0]⟩
abbrev sigB (b : Fin 3) : Str := ⟨#[(Str.ofString "<>=").cps.toList.getD b.val 0]⟩
theorem sig_item {i : Nat} {d : D} (h : [D.str ("<" : Str), D.str (">" : Str), D.str ("=" : Str)][i]? = some d) : ∃ b : Fin 3, d = .str (sigB b) := by
  match i, h with
  | 0, h => exact ⟨0, (Option.some.inj h).symm.trans (congrArg D.str (by decide +kernel))⟩
  | 1, h => exact ⟨1, (Option.some.inj h).symm.trans (congrArg D.str (by decide +kernel))⟩
  | 2, h => exact ⟨2, (Option.some.inj h).symm.trans (congrArg D.str (by decide +kernel))⟩
theorem pair_all : ∀ a b : Fin 3, decM (sigB b ++ letB a) = some (sigB b, (a.val : Int), 0) ∧ cutS (sigB b) none (some 3) ≠ ("row" : Str) ∧ Txt.find "abc" (letB a) = (a.val : Int) ∧ cutS (("row" : Str) ++ sigB b) none (some 3) = ("row" : Str) ∧ ch (("row" : Str) ++ sigB b) 3 = sigB b ∧ ch (letB a) 0 = letB a ∧ ch (sigB b) 0 = sigB b
    ∧ opsA (sigB b ++ letB a) = none ∧ 32 ∉ tl (sigB b ++ letB a) ∧ sg (letB a) 0 ∈ (Str.ofString "abc").cps.toList ∧ sg (sigB b) 0 ∈ (Str.ofString "<>=").cps.toList ∧ 96 < sg (letB a) 0 ∧ sg (letB a) 0 < 100 ∧ 59 < sg (sigB b) 0 ∧ sg (sigB b) 0 < 63 := by decide +kernel
theorem same_all (x : Int) : ∀ b : Fin 3, meetsM (sigB b) x x = decide (sigB b = ("=" : Str)) := by
  intro b
  have h : ∀ b : Fin 3, (sigB b = ("<" : Str) ∧ ¬ sigB b = ("=" : Str)) ∨ (¬ sigB b = ("<" : Str) ∧ sigB b = (">" : Str) ∧ ¬ sigB b = ("=" : Str)) ∨ (¬ sigB b = ("<" : Str) ∧ ¬ sigB b = (">" : Str) ∧ sigB b = ("=" : Str)) := by decide +kernel
  unfold meetsM
  rcases h b with ⟨h1, h2⟩ | ⟨h1, h2, h3⟩ | ⟨h1, h2, h3⟩
  · rw [if_pos h1, decide_eq_false h2]; exact decide_eq_false (by omega)
  · rw [if_neg h1, if_pos h2, decide_eq_false h3]; exact decide_eq_false (by omega)
  · rw [if_neg h1, if_neg h2, decide_eq_true h3]; exact decide_eq_true rfl
theorem ops_len {z : Str} (h : sg z 0 = 97 ∧ ¬ sg z 1 = 110 ∨ sg z 0 = 98 ∨ sg z 0 = 99) : opsA z = none := by
  have hne : ∀ (y : Str), (sg y 0 = 97 ∧ sg y 1 = 110) ∨ (¬ sg y 0 = 97 ∧ ¬ sg y 0 = 98 ∧ ¬ sg y 0 = 99) → ¬ z = y := by
    rintro y hy rfl
    omega
  unfold opsA
  rw [if_neg (hne _ (by decide +kernel)), if_neg (hne _ (by decide +kernel)), if_neg (hne _ (by decide +kernel)), if_neg (hne _ (by decide +kernel)), if_neg (hne _ (by decide +kernel)), if_neg (hne _ (by decide +kernel))]
theorem tl_app (a b : Str) : tl (a ++ b) = tl a ++ tl b := by
  show (a.cps ++ b.cps).toList = _
  exact Array.toList_append
theorem drop2 {l g : Nat} {t z : Str} (h : tl z = l :: g :: tl t) : cutS z (some 2) none = t := by
  have hz : z.length = t.length + 2 := by rw [len_tl, h, len_tl t]; rfl
  have e1 := HT.sIx_nat z.length 0 2
  rw [show (some ((2 : Nat) : Int)) = some (2 : Int) from rfl] at e1
  have inj : ∀ a b : Str, tl a = tl b → a = b := by
    rintro ⟨⟨a⟩⟩ ⟨⟨b⟩⟩ h
    exact congrArg (fun l => (⟨⟨l⟩⟩ : Str)) h
  refine inj _ _ ?_
  show ((⟨_⟩ : Str)).cps.toList = _
  simp only [cutS, e1, HT.sIx_none]
  rw [show z.cps.toList = l :: g :: tl t from h, show min 2 z.length = 2 by omega]
  show (tl t).take (z.length - 2) = tl t
  exact List.take_of_length_le (by rw [← len_tl]; omega)
/-- one word as a whole formula -/
theorem one_word {w : Str} {q} (hd : decM w = some q) (ho : opsA w = none) (hl : w.length ≤ 100) (hs : 32 ∉ tl w) : OkW [w] ∧ Txt.split w " " = [w] := by
  refine ⟨⟨fun v hv => ?_, fun i hi => ?_, ?_, fun v hv => ?_, (by show 1 ≤ 40; decide)⟩, ?_⟩
  · rw [List.mem_singleton.mp hv]; exact ⟨_, hd⟩
  · obtain rfl : i = 0 := by simpa using hi
    show (0 : Int) < 1; decide
  · show 1 + (opsA w).getD 0 - 1 = 0
    rw [ho]; rfl
  · rw [List.mem_singleton.mp hv]; exact hl
  · have := split_join (y := " ") (s := 32) (S := []) (by decide +kernel) (by decide +kernel) (parts := [w]) (by simp) (fun p hp => by rw [List.mem_singleton.mp hp]; exact hs)
    rwa [join_eq, show Str.join " " [w] = w from rfl] at this
theorem word2 (a b : Fin 3) : OkW [sigB b ++ letB a] ∧ Txt.split (sigB b ++ letB a) " " = [sigB b ++ letB a] ∧ OneW (sigB b ++ letB a) (sigB b) (a.val : Int) 0 := by
  obtain ⟨q1, q2, _, _, _, _, _, q3, q4, _⟩ := pair_all a b
  obtain ⟨h1, h2⟩ := one_word q1 q3 (by rw [app_len]; show 1 + 1 ≤ 100; decide) q4
  exact ⟨h1, h2, ⟨q1, ⟨by show 1 ≤ 100; decide, fun h => absurd h q2⟩, by omega, by omega⟩⟩
theorem ans2 (a b : Fin 3) (r o : List Int) : ansM (sigB b) (a.val : Int) 0 r o = meetsM (sigB b) (r.getD a.val 0) (o.getD a.val 0) := by
  obtain ⟨_, q2, _⟩ := pair_all a b
  unfold ansM comparedM
  rw [if_neg q2]
  rfl
theorem wordR (a b : Fin 3) {c : Int} (hc : c.natAbs < 10 ^ 18) : OkW [letB a ++ sigB b ++ Str.ofString (toString c)] ∧ Txt.split (letB a ++ sigB b ++ Str.ofString (toString c)) " " = [letB a ++ sigB b ++ Str.ofString (toString c)] ∧ OneW (letB a ++ sigB b ++ Str.ofString (toString c)) (("row" : Str) ++ sigB b) (a.val : Int) c := by
  obtain ⟨_, _, e1, e2, e3, e4, e5, _, _, q4, q5, q6, q7, q8, q9⟩ := pair_all a b
  obtain ⟨c1, c2, c3, c4⟩ := constM_num hc
  have htl : tl ((letB a ++ sigB b) ++ Str.ofString (toString c)) = sg (letB a) 0 :: sg (sigB b) 0 :: tl (Str.ofString (toString c)) := by
    rw [tl_app, tl_app]; rfl
  have hlen : ((letB a ++ sigB b) ++ Str.ofString (toString c)).length = (Str.ofString (toString c)).length + 2 := by
    rw [app_len, app_len, show (letB a).length = 1 from rfl, show (sigB b).length = 1 from rfl]; omega
  have hcut := drop2 htl
  generalize hw : (letB a ++ sigB b) ++ Str.ofString (toString c) = w at htl hlen hcut ⊢
  have s0 : sg w 0 = sg (letB a) 0 := by show (tl w).getD 0 0 = _; rw [htl]; rfl
  have s1 : sg w 1 = sg (sigB b) 0 := by show (tl w).getD 1 0 = _; rw [htl]; rfl
  have hop : opsA w = none := ops_len (by omega)
  have hd : decM w = some (("row" : Str) ++ ch w 1, Txt.find "abc" (ch w 0), c) := by
    unfold decM
    rw [if_neg (by rw [hop]; decide), if_neg (by omega), if_neg (by rw [s0, s1]; simp only [q4, q5, not_true_eq_false, or_false]; omega), hcut, c1]
    rfl
  have t0 : ch w 0 = letB a := by show (⟨#[sg w 0]⟩ : Str) = _; rw [s0]; rfl
  have t1 : ch w 1 = sigB b := by show (⟨#[sg w 1]⟩ : Str) = _; rw [s1]; rfl
  rw [t0, t1, e1] at hd
  obtain ⟨h1, h2⟩ := one_word hd hop (by omega) (by
    rw [htl]
    intro hm
    rcases List.mem_cons.mp hm with e | hm
    · omega
    · rcases List.mem_cons.mp hm with e | hm
      · omega
      · have := c4 32 hm; omega)
  have hrl : (("row" : Str) ++ sigB b).length = 4 := by rw [app_len, row_len]; rfl
  exact ⟨h1, h2, ⟨hd, ⟨by omega, fun _ => by omega⟩, by omega, by omega⟩⟩
theorem ansR (a b : Fin 3) (c : Int) (r o : List Int) : ansM (("row" : Str) ++ sigB b) (a.val : Int) c r o = meetsM (sigB b) (r.getD a.val 0) c := by
  obtain ⟨_, _, _, e2, e3, _⟩ := pair_all a b
  unfold ansM comparedM
  rw [if_pos e2, e3]
  rfl
/-! the law's own -/
def pq (s : List Int) (i : Nat) : Int := (pool s 0 20).getD i 0
def atA (s : List Int) : Int := pq s 0 % 3
def rowA (s : List Int) : List Int := [lawBig (pq s 1) (pq s 2), lawBig (pq s 3) (pq s 4), lawBig (pq s 5) (pq s 6)]
def othA (s : List Int) : List Int := [lawBig (pq s 7) (pq s 8), lawBig (pq s 9) (pq s 10), lawBig (pq s 11) (pq s 12)]
def othB (s : List Int) : List Int := if pq s 13 % 4 < 3 then (othA s).set (atA s).toNat ((rowA s).getD (atA s).toNat 0 + pq s 13 % 4 - 1) else othA s
def conA (s : List Int) : Int := (rowA s).getD (atA s).toNat 0 + pq s 14 % 3 - 1
abbrev p18 : Int := 10 ^ (18 : Int).toNat
def conB (s : List Int) : Int := if conA s ≤ -p18 ∨ conA s ≥ p18 then [pq s 15 - 250, p18 - 1 - pq s 15, pq s 15 - p18 + 1].getD (pq s 16 % 3).toNat (pq s 15 - 250) else conA s
theorem conB_lt (s : List Int) : (conB s).natAbs < 10 ^ 18 := by
  have h15 := pool_at s 0 20 15
  have hp : p18 = 1000000000000000000 := by decide
  have hn : (10 : Nat) ^ 18 = 1000000000000000000 := by decide
  unfold conB
  generalize conA s = c
  change 0 ≤ pq s 15 ∧ pq s 15 < 1000 at h15
  generalize pq s 15 = u at h15 ⊢
  rw [hp, hn]
  split
  · have h3 : pq s 16 % 3 = 0 ∨ pq s 16 % 3 = 1 ∨ pq s 16 % 3 = 2 := by omega
    rcases h3 with h | h | h <;> rw [h] <;> simp only [List.getD_eq_getElem?_getD, show (0 : Int).toNat = 0 from rfl, show (1 : Int).toNat = 1 from rfl, show (2 : Int).toNat = 2 from rfl, List.getElem?_cons_zero, List.getElem?_cons_succ, Option.getD_some] <;> omega
  · omega
theorem othB_len (s : List Int) : (othB s).length = 3 := by unfold othB; split <;> simp [othA]
def arLaw (L : Om) (ds : List D) (d : D) : Prop := ∃ s : List Int, ds = [dInts s] ∧ s.length ≤ 63 ∧ d = .bl true
theorem mod3 (x : Int) : ∃ a : Fin 3, x % 3 = (a.val : Int) := ⟨⟨(x % 3).toNat, by omega⟩, by show x % 3 = (((x % 3).toNat : Nat) : Int); omega⟩
theorem at_fin (s : List Int) : ∃ a : Fin 3, atA s = (a.val : Int) := mod3 (pq s 0)
theorem let_of {s : List Int} {a : Fin 3} (h : atA s = (a.val : Int)) : (⟨#[(Str.ofString "abc").cps.toList.getD (atA s).toNat 0]⟩ : Str) = letB a := by rw [h]; rfl
theorem rowA_len (s : List Int) : (rowA s).length = 3 := rfl
theorem othA_len (s : List Int) : (othA s).length = 3 := rfl
local macro_rules | `(tactic| walk_at "s") => `(tactic| first | omega | assumption | rfl | decide | (simp; done))
local macro_rules | `(tactic| walk_at "m") => `(tactic| first | exact .inr ⟨by decide, by decide⟩ | exact .inl ⟨by decide, by decide⟩ | exact .inl ⟨by omega, by omega⟩ | exact .inr ⟨by omega, by omega⟩)
local macro_rules | `(tactic| walk_at "d") => `(tactic| first | exact ⟨by decide, by decide⟩ | exact ⟨by omega, by omega⟩)
local macro_rules | `(tactic| walk_at "r") => `(tactic| first | exact ⟨by decide, by decide⟩ | exact ⟨by omega, by omega⟩ | exact ⟨by omega, by omega, by omega, by omega⟩)
local macro_rules | `(tactic| walk_at "mem") => `(tactic| first | exact List.mem_append_right _ List.mem_cons_self | exact List.mem_append_right _ (List.mem_cons_of_mem _ List.mem_cons_self) | exact List.mem_append_right _ (List.mem_cons_of_mem _ (List.mem_cons_of_mem _ List.mem_cons_self)) | exact List.mem_cons_self | exact List.mem_cons_of_mem _ List.mem_cons_self | exact List.mem_cons_of_mem _ (List.mem_cons_of_mem _ List.mem_cons_self))
local macro_rules | `(tactic| walk_at "put") => `(tactic| first | exact .head | exact .tail .head | exact .tail (.tail .head) | exact .tail (.tail (.tail .head)))
local macro_rules | `(tactic| walk_at "wk") => `(tactic| repeat (first | refine wk_none ?_ | refine wk_some rfl ?_ | exact wk_refl))
local macro_rules | `(tactic| walk_at "start") => `(tactic| exact ⟨by walk_at "wk", rfl, trivial⟩)
local macro_rules | `(tactic| walk_at "item_rng") => `(tactic| (obtain ⟨hi, rfl⟩ := rng_item hd))
local macro_rules | `(tactic| walk_at "gi") => `(tactic| first | exact fun _ => trivial | exact fun _ => .inl rfl)
local macro_rules | `(tactic| walk_at "turn") => `(tactic| exact ⟨by walk_at "wk", rfl, trivial⟩)
local macro_rules | `(tactic| walk_at "leaf") => `(tactic| first | exact ⟨_, rfl, rfl⟩ | exact ⟨.refl _⟩ | exact .refl _)
local macro_rules | `(tactic| walk_at "z") => `(tactic| first | (simp only [List.length_append, List.length_map, List.length_cons, List.length_nil, List.length_take, List.length_set]; first | omega | (refine Nat.lt_of_lt_of_le ?_ (by decide : 1000000 ≤ sizeLine); omega)) | decide)
local macro_rules | `(tactic| walk_at "dt") => `(tactic| first | exact .int | exact .bl | exact .str | exact .lst | exact .tup | exact .mlst (by walk_at "mem"))
local macro_rules | `(tactic| walk_at "memO") => `(tactic| first | exact List.mem_cons_self | exact List.mem_cons_of_mem _ List.mem_cons_self | exact List.mem_cons_of_mem _ (List.mem_cons_of_mem _ List.mem_cons_self))
local macro_rules | `(tactic| walk_at "zt") => `(tactic| first | decide | (simp only [List.length_cons, List.length_nil]; decide))
local macro_rules | `(tactic| walk_at "cat") => `(tactic| first | omega | (simp only [app_len, one_len]; omega))
local macro_rules | `(tactic| walk_at "t") => `(tactic| first | exact log2_small (by omega) | assumption)
local macro_rules | `(tactic| walk_at "rep") => `(tactic| exact mulOk_small (by omega) (by omega) (Nat.le_trans (constM_num (by omega)).2.1 (by decide)))
local macro_rules | `(tactic| walk_at "ixn") => `(tactic| exact ixN_of (by omega) (by simp only [List.length_map]; omega))
local macro_rules | `(tactic| walk_at "w") => `(tactic| first | exact mul20 (by omega) | exact mulBig (by omega) (by omega))
section
variable {P : Program} {w : World} {K : PySem.W.Frag} {mg : Str → Option Value} {base : Heap} {aOPERANDS CFormula fFormula p_Formula_text_ f_Formula_text p_Formula_read_ f_Formula_read f_Formula_holds f_Formula___call__ : Addr} {mcFormula uFormulaMOST : Value}
abbrev s_law_pool : Stmt := top 25
abbrev N_law_pool : List Str := ["_law_script", "_law_k", "_law_many", "_law_cell", "_law_great", "_law_pool_here", "_law_j", "_law_i", "_law_first"]
theorem sc_law_pool : FnScope N_law_pool ["_law_script", "_law_k", "_law_many"] (defScope s_law_pool) := ⟨rfl, rfl, rfl, by decide +kernel, rfl, by decide +kernel, by decide +kernel⟩
theorem ok_law_pool {f : Addr} {fd : FuncData}  (F : Fun K "_law_pool" "_law_pool" s_law_pool f fd) (b_len : mg "len" = none) (b_range : mg "range" = none) (b_int : mg "int" = none) : FnOk P w K mg base CX0 1 f fd ["_law_script", "_law_k", "_law_many"] (spN K arPool) := by
  refine fn_new F sc_law_pool (fun L ds es h => ?_) (fun cdv A outer s H E B ds es hr h => ?_)
  · obtain ⟨s, k, n, rfl, _⟩ := h; rfl
  · obtain ⟨s, k, n, rfl, hk0, hk1, hn0, hn1, rfl⟩ := h
    have nd := sc_law_pool.nd
    refine j_cons (sset 3 nd ev_int ?_)
    refine j_cut [some (dInts s), some (.int k), some (.int n), some (.int (cell0 s k)), none, none, none, none, none] [] (j_if (et_cmp op_lt rd_B0 (nm 1 rfl) (ev_callB call_len_seq (rc_len (.inl (.inl rfl))) rfl b_len PySem.boot_len (ea_cons (nm 0 rfl) ea_nil)) (nomark _)) (fun hc => ?_) (fun hc => ?_)) ?_
    ·
      try simp only [decide_eq_true_eq, decide_eq_false_iff_not, List.length_map, Bool.and_eq_true, Bool.and_eq_false_iff, Bool.or_eq_true, Bool.or_eq_false_iff, Bool.not_eq_true', Bool.not_eq_false', Bool.not_eq_true, Bool.not_eq_false] at hc
      refine j_cons (sset 3 nd (ev_ixL (nm 0 rfl) (nm 1 rfl) (.inl rfl) (atM 0 (by walk_at "s") (by walk_at "s"))) ?_)
      refine j_nil ⟨?_, rfl⟩
      refine wk_some rfl (wk_some rfl (wk_some rfl (wk_some ?_ wk_refl)))
      rw [cell0, if_pos hc]
    ·
      try simp only [decide_eq_true_eq, decide_eq_false_iff_not, List.length_map, Bool.and_eq_true, Bool.and_eq_false_iff, Bool.or_eq_true, Bool.or_eq_false_iff, Bool.not_eq_true', Bool.not_eq_false', Bool.not_eq_true, Bool.not_eq_false] at hc
      refine j_nil ⟨?_, rfl⟩
      rw [cell0, if_neg hc]
      walk_at "wk"
    refine j_cons (sset 4 nd (ev_cmp op_ge rd_B0 (nm 3 rfl) (ev_op op_pow (rd_I ⟨by decide, by decide, by decide⟩) ev_int ev_int) (nomark _)) ?_)
    refine j_cons (ssetN 5 nd (en_lst ea_nil (by walk_at "zt")) fun q hq => ?_)
    refine j_cons (sfor (fun i r => ((((r.set 3 (some (.int (poolN s k i).2))).set 6 none).set 7 none).set 8 none)) (fun i _ => [(q, .lst ((poolN s k i).1.map fun x => D.int x))]) (fun _ => True) PassesOwn.never rfl (ei_range1 rfl b_range (ea_cons (nm 2 rfl) ea_nil) (by walk_at "r")) (bnm 6 nd) (by walk_at "gi") ?_ (fun i d hd hi hz => ?_) (fun hz => ?_))
    ·
      walk_at "start"
    ·
      obtain ⟨hi, rfl⟩ := rng_item hd
      have hl := poolN_len s k i
      refine ⟨_, rfl, ?_⟩
      refine j_cons (j_if (et_w (ew_and (et_of (nm 4 rfl)) (fun hb1 => (ew_and1 (et_cmp op_gt rd_B0 (nm 3 rfl) ev_int (nomark _)))))) (fun h7 => ?_) (fun h7 => ?_))
      ·
        try simp only [decide_eq_true_eq, decide_eq_false_iff_not, List.length_map, Bool.and_eq_true, Bool.and_eq_false_iff, Bool.or_eq_true, Bool.or_eq_false_iff, Bool.not_eq_true', Bool.not_eq_false', Bool.not_eq_true, Bool.not_eq_false] at h7
        have e : poolStep (great0 s k) k i (poolN s k i).2 = ((poolN s k i).2 % 1000, (poolN s k i).2 / 1000) := by rw [poolStep, if_pos ⟨decide_eq_true h7.1, h7.2⟩]
        refine j_cons (j_expr (eg_append (nm 5 rfl) (by walk_at "memO") (eg_of (ev_op op_mod (rd_I (by walk_at "s")) (ev_callTy call_int1 rc_int rfl b_int (by decide +kernel) (ea_cons (nm 3 rfl) ea_nil)) ev_int)) (by walk_at "z") (by walk_at "put")) ?_)
        refine j_cons (sset 3 nd (ev_op op_fdiv (rd_I (by walk_at "d")) (nm 3 rfl) ev_int) ?_)
        refine j_nil ?_
        refine j_nil ?_
        have e1 : (poolN s k (i + 1)).1 = (poolN s k i).1 ++ [(poolStep (great0 s k) k i (poolN s k i).2).1] := rfl
        have e2 : (poolN s k (i + 1)).2 = (poolStep (great0 s k) k i (poolN s k i).2).2 := rfl
        refine ⟨wk_some rfl (wk_some rfl (wk_some rfl (wk_some ?_ (by walk_at "wk")))), ?_, trivial⟩
        · rw [e2, e]
        · rw [e1, e, List.map_append]; rfl
      ·
        try simp only [decide_eq_true_eq, decide_eq_false_iff_not, List.length_map, Bool.and_eq_true, Bool.and_eq_false_iff, Bool.or_eq_true, Bool.or_eq_false_iff, Bool.not_eq_true', Bool.not_eq_false', Bool.not_eq_true, Bool.not_eq_false] at h7
        have e : poolStep (great0 s k) k i (poolN s k i).2 = ((((poolN s k i).2 * 37 + ((i : Int) + 11 * k) * 71 + 5) % 509 * (((poolN s k i).2 * 37 + ((i : Int) + 11 * k) * 71 + 5) % 509) + (poolN s k i).2 + ((i : Int) + 11 * k) * 13) % 499, (poolN s k i).2) := by
          rw [poolStep, if_neg]
          rintro ⟨h1, h2⟩
          rcases h7 with h7 | h7
          · exact h7 (of_decide_eq_true h1)
          · exact h7 h2
        refine j_cons (sset 7 nd (ev_op op_add rd_I0 (nm 6 rfl) (ev_op op_mul (rd_I (by walk_at "m")) ev_int (nm 1 rfl))) ?_)
        refine j_cons (sset 8 nd (ev_op op_mod (rd_I (by walk_at "s")) (ev_callTy call_int1 rc_int rfl b_int (by decide +kernel) (ea_cons (ev_op op_add rd_I0 (ev_op op_add rd_I0 (ev_op op_mul (rd_I (by walk_at "m")) (nm 3 rfl) ev_int) (ev_op op_mul (rd_I (by walk_at "m")) (nm 7 rfl) ev_int)) ev_int) ea_nil)) ev_int) ?_)
        refine j_cons (j_expr (eg_append (nm 5 rfl) (by walk_at "memO") (eg_of (ev_op op_mod (rd_I (by walk_at "s")) (ev_callTy call_int1 rc_int rfl b_int (by decide +kernel) (ea_cons (ev_op op_add rd_I0 (ev_op op_add rd_I0 (ev_op op_mul (rd_I (by walk_at "m")) (nm 8 rfl) (nm 8 rfl)) (nm 3 rfl)) (ev_op op_mul (rd_I (by walk_at "m")) (nm 7 rfl) ev_int)) ea_nil)) ev_int)) (by walk_at "z") (by walk_at "put")) ?_)
        refine j_nil ?_
        refine j_nil ?_
        have e1 : (poolN s k (i + 1)).1 = (poolN s k i).1 ++ [(poolStep (great0 s k) k i (poolN s k i).2).1] := rfl
        have e2 : (poolN s k (i + 1)).2 = (poolStep (great0 s k) k i (poolN s k i).2).2 := rfl
        refine ⟨wk_some rfl (wk_some rfl (wk_some rfl (wk_some ?_ (by walk_at "wk")))), ?_, trivial⟩
        · rw [e2, e]
        · rw [e1, e, List.map_append]; rfl
    try rw [rng_len] at hz
    rw [rng_len]
    refine j_cons (j_ret (nm 5 rfl) ?_)
    walk_at "leaf"
abbrev s_constant_of : Stmt := top 19
abbrev N_constant_of : List Str := ["text", "digits", "char"]
theorem sc_constant_of : FnScope N_constant_of ["text"] (defScope s_constant_of) := ⟨rfl, rfl, rfl, by decide +kernel, rfl, by decide +kernel, by decide +kernel⟩
theorem ok_constant_of {f : Addr} {fd : FuncData}  (F : Fun K "constant_of" "constant_of" s_constant_of f fd) (b_len : mg "len" = none) (b_int : mg "int" = none) : FnOk P w K mg base CX0 1 f fd ["text"] (spP K arConst) := by
  refine fn_pure F sc_constant_of (fun L ds d h => ?_) (fun cdv A outer s H E B ds d hr h => ?_)
  · obtain ⟨z, rfl, _⟩ := h; rfl
  · obtain ⟨z, rfl, hz0, hz1, rfl⟩ := h
    have nd := sc_constant_of.nd
    have hsl : sizeLine ≥ 1000000 := by decide
    have hdl := digs_le z
    show J _ _ _ _ _ { nx := fun _ _ => optI (constM z) = .non, rt := fun d' O' => Frz O' d' (optI (constM z)) }
    refine j_cons (sset 1 nd (ev_conv (d' := .str (digs z)) (ev_ifS (et_cmp op_eq rd_eqS (ev_ixS (nm 0 rfl) ev_int (by walk_at "s") (atS (by walk_at "s") (by walk_at "s"))) ev_str (nomark _)) (fun hb1 => (ev_sliceS (nm 0 rfl) (eo_some ev_int) eo_none (by first | (simp only [decide_eq_true_eq, decide_eq_false_iff_not, List.length_map, Bool.and_eq_true, Bool.and_eq_false_iff, Bool.or_eq_true, Bool.or_eq_false_iff, Bool.not_eq_true', Bool.not_eq_false', Bool.not_eq_true, Bool.not_eq_false] at hb1; walk_at "s") | walk_at "s"))) (fun hb1 => (nm 0 rfl))) rfl) ?_)
    refine j_cons (j_if (et_not (et_chainI op_le op_le ev_int (ev_callB call_len_str (rc_lenS (by walk_at "s")) rfl b_len PySem.boot_len (ea_cons (nm 1 rfl) ea_nil)) ev_int)) (fun h2 => ?_) (fun h2 => ?_))
    ·
      try simp only [decide_eq_true_eq, decide_eq_false_iff_not, List.length_map, Bool.and_eq_true, Bool.and_eq_false_iff, Bool.or_eq_true, Bool.or_eq_false_iff, Bool.not_eq_true', Bool.not_eq_false', Bool.not_eq_true, Bool.not_eq_false] at h2
      refine j_cons (j_ret ev_non ?_)
      show Frz _ _ _
      rw [show constM z = none from by unfold constM; exact if_pos (by omega)]; exact .refl _
    ·
      try simp only [decide_eq_true_eq, decide_eq_false_iff_not, List.length_map, Bool.and_eq_true, Bool.and_eq_false_iff, Bool.or_eq_true, Bool.or_eq_false_iff, Bool.not_eq_true', Bool.not_eq_false', Bool.not_eq_true, Bool.not_eq_false] at h2
      refine j_nil ?_
      refine j_cons (sfor (fun i r => (r.set 2 none)) (fun _ o => o) (fun i => ∀ j, j < i → sg (digs z) j ∈ tab) PassesOwn.never rfl (ei_str (nm 1 rfl)) (bnm 2 nd) (by walk_at "gi") ?_ (fun i d hd hi hz => ?_) (fun hz => ?_))
      ·
        exact ⟨by walk_at "wk", rfl, fun j h => absurd h (by omega)⟩
      ·
        obtain ⟨x, hx, rfl⟩ := map_item hd
        have hsg : sg (digs z) i = x := by unfold sg; rw [List.getD_eq_getElem?_getD, hx]; rfl
        refine ⟨_, rfl, ?_⟩
        refine j_cons (j_if (et_cmp op_notIn_sign rd_notinC (nm 2 rfl) ev_str (by rfl)) (fun h5 => ?_) (fun h5 => ?_))
        ·
          try simp only [decide_eq_true_eq, decide_eq_false_iff_not, List.length_map, Bool.and_eq_true, Bool.and_eq_false_iff, Bool.or_eq_true, Bool.or_eq_false_iff, Bool.not_eq_true', Bool.not_eq_false', Bool.not_eq_true, Bool.not_eq_false] at h5
          refine j_cons (j_ret ev_non ?_)
          show Frz _ _ _
          rw [show constM z = none from by
            unfold constM
            rw [if_neg (by omega), if_pos]
            exact Bool.eq_false_iff.mpr fun q => h5 (of_decide_eq_true (List.all_eq_true.mp q x (List.mem_of_getElem? hx)))]
          exact .refl _
        ·
          try simp only [decide_eq_true_eq, decide_eq_false_iff_not, List.length_map, Bool.and_eq_true, Bool.and_eq_false_iff, Bool.or_eq_true, Bool.or_eq_false_iff, Bool.not_eq_true', Bool.not_eq_false', Bool.not_eq_true, Bool.not_eq_false] at h5
          refine j_nil ?_
          refine j_nil ?_
          refine ⟨by walk_at "wk", rfl, fun j hj => ?_⟩
          by_cases hji : j < i
          · exact hz j hji
          · obtain rfl : j = i := by omega
            rw [hsg]; exact h5
      rw [List.length_map] at hz
      have hall : (digs z).cps.toList.all (fun c => decide (c ∈ tab)) = true := List.all_eq_true.mpr fun x hx => by
        obtain ⟨j, hj, e⟩ := List.getElem_of_mem hx
        have := hz j hj
        rw [show sg (digs z) j = x by unfold sg; rw [List.getD_eq_getElem?_getD, List.getElem?_eq_getElem hj, e]; rfl] at this
        exact decide_eq_true this
      refine j_cons (j_if (et_w (ew_and (et_cmp op_eq rd_eqS (ev_ixS (nm 1 rfl) ev_int (by walk_at "s") (atS (by walk_at "s") (by walk_at "s"))) ev_str (nomark _)) (fun hb2 => (ew_and1 (et_cmp op_ne rd_neS (nm 0 rfl) ev_str (nomark _)))))) (fun h7 => ?_) (fun h7 => ?_))
      ·
        try simp only [decide_eq_true_eq, decide_eq_false_iff_not, List.length_map, Bool.and_eq_true, Bool.and_eq_false_iff, Bool.or_eq_true, Bool.or_eq_false_iff, Bool.not_eq_true', Bool.not_eq_false', Bool.not_eq_true, Bool.not_eq_false] at h7
        refine j_cons (j_ret ev_non ?_)
        show Frz _ _ _
        rw [show constM z = none from by unfold constM; exact (if_neg (by omega)).trans ((if_neg (by rw [hall]; decide)).trans (if_pos h7))]; exact .refl _
      ·
        try simp only [decide_eq_true_eq, decide_eq_false_iff_not, List.length_map, Bool.and_eq_true, Bool.and_eq_false_iff, Bool.or_eq_true, Bool.or_eq_false_iff, Bool.not_eq_true', Bool.not_eq_false', Bool.not_eq_true, Bool.not_eq_false] at h7
        refine j_nil ?_
        refine j_cons (j_ret (ev_callTy call_int_str (rc_intS (n := intV z) (digs_some hz0 h2 hall) (by omega)) rfl b_int (by decide +kernel) (ea_cons (nm 0 rfl) ea_nil)) ?_)
        show Frz _ _ _
        rw [show constM z = some (intV z) from by
          unfold constM
          exact (if_neg (by omega)).trans ((if_neg (by rw [hall]; decide)).trans (if_neg fun q => h7.elim (fun h => h q.1) (fun h => q.2 h)))]
        exact .refl _
abbrev s_decoded : Stmt := top 18
abbrev N_decoded : List Str := ["word", "constant"]
theorem sc_decoded : FnScope N_decoded ["word"] (defScope s_decoded) := ⟨rfl, rfl, rfl, by decide +kernel, rfl, by decide +kernel, by decide +kernel⟩
theorem ok_decoded {f : Addr} {fd : FuncData}  (F : Fun K "decoded" "decoded" s_decoded f fd) (g_OPERANDS : mg "OPERANDS" = some (.ref aOPERANDS)) (kd_OPERANDS : KDi K w aOPERANDS ops) (b_len : mg "len" = none) (g_COLUMNS : ∃ t, mg "COLUMNS" = some (.str "abc" t)) (c_constant_of : Cal P w K mg base CX0 1 "constant_of" (spP K arConst)) : FnOk P w K mg base CX0 2 f fd ["word"] (spP K arDec) := by
  refine fn_pure F sc_decoded (fun L ds d h => ?_) (fun cdv A outer s H E B ds d hr h => ?_)
  · obtain ⟨z, rfl, _⟩ := h; rfl
  · obtain ⟨z, rfl, hz1, rfl⟩ := h
    have nd := sc_decoded.nd
    have hsl : sizeLine ≥ 1000000 := by decide
    refine j_cons (j_if (et_inD kd_OPERANDS (nm 0 rfl) (ev_glob (v := .ref aOPERANDS) rfl g_OPERANDS rfl (fun _ => .rf _)) (by rfl)) (fun h1 => ?_) (fun h1 => ?_))
    ·
      try simp only [decide_eq_true_eq, decide_eq_false_iff_not, List.length_map, Bool.and_eq_true, Bool.and_eq_false_iff, Bool.or_eq_true, Bool.or_eq_false_iff, Bool.not_eq_true', Bool.not_eq_false', Bool.not_eq_true, Bool.not_eq_false] at h1
      simp only [ops, Option.isSome_map] at h1
      refine j_cons (j_ret (ev_tup (ea_cons (nm 0 rfl) (ea_cons (ev_neg ev_int) (ea_cons ev_int ea_nil))) (by walk_at "zt")) ?_)
      show Frz _ _ _
      rw [show decM z = some (z, -1, 0) from by unfold decM; rw [if_pos h1]]; exact .refl _
    ·
      try simp only [decide_eq_true_eq, decide_eq_false_iff_not, List.length_map, Bool.and_eq_true, Bool.and_eq_false_iff, Bool.or_eq_true, Bool.or_eq_false_iff, Bool.not_eq_true', Bool.not_eq_false', Bool.not_eq_true, Bool.not_eq_false] at h1
      simp only [ops, Option.isSome_map] at h1
      refine j_nil ?_
      refine j_cons (j_if (et_w (ew_and (et_cmp op_eq rd_eqI (ev_callB call_len_str (rc_lenS (by walk_at "s")) rfl b_len PySem.boot_len (ea_cons (nm 0 rfl) ea_nil)) ev_int (nomark _)) (fun hb1 => (ew_and (et_cmp op_in_sign rd_inC (ev_ixS (nm 0 rfl) ev_int (by first | (simp only [decide_eq_true_eq, decide_eq_false_iff_not, List.length_map, Bool.and_eq_true, Bool.and_eq_false_iff, Bool.or_eq_true, Bool.or_eq_false_iff, Bool.not_eq_true', Bool.not_eq_false', Bool.not_eq_true, Bool.not_eq_false] at hb1; walk_at "s") | walk_at "s") (atS (by first | (simp only [decide_eq_true_eq, decide_eq_false_iff_not, List.length_map, Bool.and_eq_true, Bool.and_eq_false_iff, Bool.or_eq_true, Bool.or_eq_false_iff, Bool.not_eq_true', Bool.not_eq_false', Bool.not_eq_true, Bool.not_eq_false] at hb1; walk_at "s") | walk_at "s") (by first | (simp only [decide_eq_true_eq, decide_eq_false_iff_not, List.length_map, Bool.and_eq_true, Bool.and_eq_false_iff, Bool.or_eq_true, Bool.or_eq_false_iff, Bool.not_eq_true', Bool.not_eq_false', Bool.not_eq_true, Bool.not_eq_false] at hb1; walk_at "s") | walk_at "s"))) ev_str (by rfl)) (fun hb2 => (ew_and1 (et_cmp op_in_sign rd_inC (ev_ixS (nm 0 rfl) ev_int (by first | (simp only [decide_eq_true_eq, decide_eq_false_iff_not, List.length_map, Bool.and_eq_true, Bool.and_eq_false_iff, Bool.or_eq_true, Bool.or_eq_false_iff, Bool.not_eq_true', Bool.not_eq_false', Bool.not_eq_true, Bool.not_eq_false] at hb1 hb2; walk_at "s") | walk_at "s") (atS (by first | (simp only [decide_eq_true_eq, decide_eq_false_iff_not, List.length_map, Bool.and_eq_true, Bool.and_eq_false_iff, Bool.or_eq_true, Bool.or_eq_false_iff, Bool.not_eq_true', Bool.not_eq_false', Bool.not_eq_true, Bool.not_eq_false] at hb1 hb2; walk_at "s") | walk_at "s") (by first | (simp only [decide_eq_true_eq, decide_eq_false_iff_not, List.length_map, Bool.and_eq_true, Bool.and_eq_false_iff, Bool.or_eq_true, Bool.or_eq_false_iff, Bool.not_eq_true', Bool.not_eq_false', Bool.not_eq_true, Bool.not_eq_false] at hb1 hb2; walk_at "s") | walk_at "s"))) (ev_globS rfl g_COLUMNS) (by rfl)))))))) (fun h3 => ?_) (fun h3 => ?_))
      ·
        try simp only [decide_eq_true_eq, decide_eq_false_iff_not, List.length_map, Bool.and_eq_true, Bool.and_eq_false_iff, Bool.or_eq_true, Bool.or_eq_false_iff, Bool.not_eq_true', Bool.not_eq_false', Bool.not_eq_true, Bool.not_eq_false] at h3
        refine j_cons (j_ret (ev_tup (ea_cons (ev_ixS (nm 0 rfl) ev_int (by walk_at "s") (atS (by walk_at "s") (by walk_at "s"))) (ea_cons (ev_find (ev_globS rfl g_COLUMNS) (ev_ixS (nm 0 rfl) ev_int (by walk_at "s") (atS (by walk_at "s") (by walk_at "s")))) (ea_cons ev_int ea_nil))) (by walk_at "zt")) ?_)
        show Frz _ _ _
        rw [show decM z = some (ch z 0, Txt.find "abc" (ch z 1), 0) from by unfold decM; exact (if_neg (by rw [h1]; decide)).trans (if_pos h3)]; exact .refl _
      ·
        try simp only [decide_eq_true_eq, decide_eq_false_iff_not, List.length_map, Bool.and_eq_true, Bool.and_eq_false_iff, Bool.or_eq_true, Bool.or_eq_false_iff, Bool.not_eq_true', Bool.not_eq_false', Bool.not_eq_true, Bool.not_eq_false] at h3
        refine j_nil ?_
        refine j_cons (j_if (et_w (ew_or (et_cmp op_lt rd_B0 (ev_callB call_len_str (rc_lenS (by walk_at "s")) rfl b_len PySem.boot_len (ea_cons (nm 0 rfl) ea_nil)) ev_int (nomark _)) (fun hb3 => (ew_or (et_cmp op_notIn_sign rd_notinC (ev_ixS (nm 0 rfl) ev_int (by first | (simp only [decide_eq_true_eq, decide_eq_false_iff_not, List.length_map, Bool.and_eq_true, Bool.and_eq_false_iff, Bool.or_eq_true, Bool.or_eq_false_iff, Bool.not_eq_true', Bool.not_eq_false', Bool.not_eq_true, Bool.not_eq_false] at hb3; walk_at "s") | walk_at "s") (atS (by first | (simp only [decide_eq_true_eq, decide_eq_false_iff_not, List.length_map, Bool.and_eq_true, Bool.and_eq_false_iff, Bool.or_eq_true, Bool.or_eq_false_iff, Bool.not_eq_true', Bool.not_eq_false', Bool.not_eq_true, Bool.not_eq_false] at hb3; walk_at "s") | walk_at "s") (by first | (simp only [decide_eq_true_eq, decide_eq_false_iff_not, List.length_map, Bool.and_eq_true, Bool.and_eq_false_iff, Bool.or_eq_true, Bool.or_eq_false_iff, Bool.not_eq_true', Bool.not_eq_false', Bool.not_eq_true, Bool.not_eq_false] at hb3; walk_at "s") | walk_at "s"))) (ev_globS rfl g_COLUMNS) (by rfl)) (fun hb4 => (ew_or1 (et_cmp op_notIn_sign rd_notinC (ev_ixS (nm 0 rfl) ev_int (by first | (simp only [decide_eq_true_eq, decide_eq_false_iff_not, List.length_map, Bool.and_eq_true, Bool.and_eq_false_iff, Bool.or_eq_true, Bool.or_eq_false_iff, Bool.not_eq_true', Bool.not_eq_false', Bool.not_eq_true, Bool.not_eq_false] at hb3 hb4; walk_at "s") | walk_at "s") (atS (by first | (simp only [decide_eq_true_eq, decide_eq_false_iff_not, List.length_map, Bool.and_eq_true, Bool.and_eq_false_iff, Bool.or_eq_true, Bool.or_eq_false_iff, Bool.not_eq_true', Bool.not_eq_false', Bool.not_eq_true, Bool.not_eq_false] at hb3 hb4; walk_at "s") | walk_at "s") (by first | (simp only [decide_eq_true_eq, decide_eq_false_iff_not, List.length_map, Bool.and_eq_true, Bool.and_eq_false_iff, Bool.or_eq_true, Bool.or_eq_false_iff, Bool.not_eq_true', Bool.not_eq_false', Bool.not_eq_true, Bool.not_eq_false] at hb3 hb4; walk_at "s") | walk_at "s"))) ev_str (by rfl)))))))) (fun h5 => ?_) (fun h5 => ?_))
        ·
          try simp only [decide_eq_true_eq, decide_eq_false_iff_not, List.length_map, Bool.and_eq_true, Bool.and_eq_false_iff, Bool.or_eq_true, Bool.or_eq_false_iff, Bool.not_eq_true', Bool.not_eq_false', Bool.not_eq_true, Bool.not_eq_false] at h5
          refine j_cons (j_ret ev_non ?_)
          show Frz _ _ _
          rw [show decM z = none from by unfold decM; exact (if_neg (by rw [h1]; decide)).trans ((if_neg fun q => h3.elim (fun h => h q.1) fun h => h.elim (fun h => h q.2.1) fun h => h q.2.2).trans (if_pos h5))]; exact .refl _
        ·
          try simp only [decide_eq_true_eq, decide_eq_false_iff_not, List.length_map, Bool.and_eq_true, Bool.and_eq_false_iff, Bool.or_eq_true, Bool.or_eq_false_iff, Bool.not_eq_true', Bool.not_eq_false', Bool.not_eq_true, Bool.not_eq_false] at h5
          refine j_nil ?_
          refine j_cons (sset 1 nd (ev_call c_constant_of (hr.mono (by decide)) rfl (ea_cons (ev_sliceS (nm 0 rfl) (eo_some ev_int) eo_none (by walk_at "s")) ea_nil) ⟨_, rfl, cut2_pos (by omega), cut2_le (by omega), rfl⟩) ?_)
          have hdec : decM z = (constM (cutS z (some 2) none)).map fun c => (("row" : Str) ++ ch z 1, Txt.find "abc" (ch z 0), c) := by
            unfold decM; exact (if_neg (by rw [h1]; decide)).trans ((if_neg fun q => h3.elim (fun h => h q.1) fun h => h.elim (fun h => h q.2.1) fun h => h q.2.2).trans (if_neg fun q => q.elim (fun q => h5.1 q) fun q => q.elim (fun q => q h5.2.1) fun q => q h5.2.2))
          refine j_cons (j_if (et_cmp op_isN rd_isN (nm 1 rfl) ev_non (nomark _)) (fun h8 => ?_) (fun h8 => ?_))
          ·
            try simp only [decide_eq_true_eq, decide_eq_false_iff_not, List.length_map, Bool.and_eq_true, Bool.and_eq_false_iff, Bool.or_eq_true, Bool.or_eq_false_iff, Bool.not_eq_true', Bool.not_eq_false', Bool.not_eq_true, Bool.not_eq_false] at h8
            refine j_cons (j_ret ev_non ?_)
            show Frz _ _ _
            rw [hdec]
            cases e : constM (cutS z (some 2) none) with
            | none => exact .refl _
            | some c => rw [e] at h8; cases h8
          ·
            try simp only [decide_eq_true_eq, decide_eq_false_iff_not, List.length_map, Bool.and_eq_true, Bool.and_eq_false_iff, Bool.or_eq_true, Bool.or_eq_false_iff, Bool.not_eq_true', Bool.not_eq_false', Bool.not_eq_true, Bool.not_eq_false] at h8
            refine j_nil ?_
            have hrow := row_len
            refine j_cons (j_ret (ev_tup (ea_cons (ev_op op_add_str (rd_addS (by walk_at "cat")) ev_str (ev_ixS (nm 0 rfl) ev_int (by walk_at "s") (atS (by walk_at "s") (by walk_at "s")))) (ea_cons (ev_find (ev_globS rfl g_COLUMNS) (ev_ixS (nm 0 rfl) ev_int (by walk_at "s") (atS (by walk_at "s") (by walk_at "s")))) (ea_cons (nm 1 rfl) ea_nil))) (by walk_at "zt")) ?_)
            show Frz _ _ _
            rw [hdec]
            cases e : constM (cutS z (some 2) none) with
            | none => rw [e] at h8; cases h8
            | some c => exact .refl _
abbrev s_Formula___init__ : Stmt := inClass (top 17) 1
abbrev N_Formula___init__ : List Str := ["self", "words", "code", "missing", "at", "word", "step"]
theorem sc_Formula___init__ : FnScope N_Formula___init__ ["self", "words"] (defScope s_Formula___init__) := ⟨rfl, rfl, rfl, by decide +kernel, rfl, by decide +kernel, by decide +kernel⟩
theorem ok_Formula___init__ {f : Addr} {fd : FuncData}  (F : Fun K "__init__" "Formula.__init__" s_Formula___init__ f fd) (b_len : mg "len" = none) (g_Formula : mg "Formula" = some (.ref CFormula)) (rd_Formula : ClX.CRead K CFormula mcFormula) (cv_Formula_MOST : ClX.CVal K CFormula mcFormula "MOST" (.int 40) uFormulaMOST) (b_enumerate : mg "enumerate" = none) (c_decoded : Cal P w K mg base CX0 2 "decoded" (spP K arDec)) (g_OPERANDS : mg "OPERANDS" = some (.ref aOPERANDS)) (kd_OPERANDS : KDi K w aOPERANDS ops) (b_tuple : mg "tuple" = none) (k_Formula : Cls K CFormula) (na_Formula_words : NoAttr K CFormula "words") (na_Formula_code : NoAttr K CFormula "code") : FnOk P w K mg base CX0 3 f fd ["self", "words"] (spI K CFormula arInit) := by
  refine fn_init F sc_Formula___init__ (fun L ds ns fs h => ?_) (fun cdv A outer s H E B x ds ns fs hr h => ?_)
  · obtain ⟨d, ws, rfl, _⟩ := h; rfl
  · obtain ⟨d0, ws, rfl, hv, ok, rfl, rfl⟩ := h
    have nd := sc_Formula___init__.nd
    have hmost := ok.most
    have hsl : sizeLine ≥ 1000000 := by decide
    refine j_cons (j_if (et_cmp op_gt rd_B0 (ev_callB call_len_seq (rc_len (hv.app)) rfl b_len PySem.boot_len (ea_cons (nm 1 rfl) ea_nil)) (ev_cval (ev_glob (v := .ref CFormula) rfl g_Formula rfl (fun _ => .rf _)) rd_Formula cv_Formula_MOST (fun _ => .int _)) (nomark _)) (fun h1 => ?_) (fun h1 => ?_))
    · exfalso
      simp only [decide_eq_true_eq, List.length_map] at h1
      omega
    refine j_nil ?_
    refine j_cons (ssetN 2 nd (en_lst ea_nil (by walk_at "zt")) fun q hq => ?_)
    refine j_cons (sset 3 nd ev_int ?_)
    refine j_cons (sfor (fun i r => ((((r.set 3 (some (.int (missN ws i)))).set 4 none).set 5 none).set 6 none)) (fun i _ => [(q, .lst ((ws.take i).map fun w => stepW w)), (x, .ins CFormula [] [])]) (fun _ => True) PassesOwn.never rfl (ei_enumQ rfl b_enumerate (ea_cons (nm 1 rfl) ea_nil) (hv.app)) (eb_tup rfl (ebs_cons (bnm 4 nd) (ebs_cons (bnm 5 nd) ebs_nil)) (bcons_len (bcons_len bnil_len))) (fun _ => hv.app) ?_ (fun i d hd hi hz => ?_) (fun hz => ?_))
    ·
      walk_at "start"
    ·
      obtain ⟨wd, hw, rfl⟩ := enum_item hd
      obtain ⟨st0, hst⟩ := ok.dec wd (List.mem_of_getElem? hw)
      have hiw : i < ws.length := (List.getElem?_eq_some_iff.mp hw).1
      have hpos := ok.pos i hiw
      have hwl := ok.len wd (List.mem_of_getElem? hw)
      refine ⟨_, rfl, ?_⟩
      refine j_cons (sset 6 nd (ev_call c_decoded (hr.mono (by decide)) rfl (ea_cons (nm 5 rfl) ea_nil) ⟨wd, rfl, by omega, rfl⟩) ?_)
      refine j_cons (j_if (et_w (ew_or (et_cmp op_eq rd_eqI (nm 3 rfl) ev_int (nomark _)) (fun hb1 => (ew_or1 (et_cmp op_isN rd_isN (nm 6 rfl) ev_non (nomark _)))))) (fun h7 => ?_) (fun h7 => ?_))
      · exfalso
        rcases Bool.or_eq_true_iff.mp h7 with h7 | h7
        · have := of_decide_eq_true h7; omega
        · rw [hst] at h7; cases h7
      refine j_nil ?_
      refine j_cons (sset 3 nd (ev_conv (d' := .int (missN ws (i + 1))) (ev_op op_sub rd_I0 (ev_op op_add rd_I0 (nm 3 rfl) (ev_conv (ev_getD kd_OPERANDS (ev_glob (v := .ref aOPERANDS) rfl g_OPERANDS rfl (fun _ => .rf _)) (nm 5 rfl) ev_int) (optD_int _ _))) ev_int) (by rw [missN_succ hw])) ?_)
      refine j_cons (j_expr (eg_append (nm 2 rfl) (by walk_at "memO") (eg_of (nm 6 rfl)) (by walk_at "z") (by walk_at "put")) ?_)
      refine j_nil ?_
      exact ⟨by walk_at "wk", by rw [take_step hw], trivial⟩
    rw [enum_len, List.length_map, List.take_length, ok.fin]
    refine j_cons (j_if (et_cmp op_gt rd_B0 (nm 3 rfl) ev_int (nomark _)) (fun h11 => ?_) (fun h11 => ?_))
    · exfalso
      simp at h11
    refine j_nil ?_
    refine j_cons (j_fldNew (nm 0 rfl) (ev_callTy call_tuple_of (rc_tuple (hv.app)) rfl b_tuple (by decide +kernel) (ea_cons (nm 1 rfl) ea_nil)) k_Formula na_Formula_words (by walk_at "put") rfl (by decide) ?_ rfl)
    refine j_cons (j_fldNew (nm 0 rfl) (ev_new (en_rev (nm 2 rfl) (.inr ⟨_, rfl, by walk_at "mem"⟩))) k_Formula na_Formula_code (by walk_at "put") rfl (by decide) ?_ rfl)
    refine j_nil ?_
    exact ⟨_, [_], rfl, .refl _⟩
abbrev s_Formula_read : Stmt := inClass (top 17) 2
abbrev N_Formula_read : List Str := ["cls", "text"]
theorem sc_Formula_read : FnScope N_Formula_read ["cls", "text"] (defScope s_Formula_read) := ⟨rfl, rfl, rfl, by decide +kernel, rfl, by decide +kernel, by decide +kernel⟩
theorem ok_Formula_read {f : Addr} {fd : FuncData}  (F : Fun K "read" "Formula.read" s_Formula_read f fd) (mk_Formula : Mk K CFormula fFormula) (i_Formula : Fok P w K mg base CX0 3 fFormula (spI K CFormula arInit)) : FnOk P w K mg base CX0 5 f fd ["cls", "text"] (spP K (arRead CFormula)) := by
  refine fn_pure F sc_Formula_read (fun L ds d h => ?_) (fun cdv A outer s H E B ds d hr h => ?_)
  · obtain ⟨z, rfl, _⟩ := h; rfl
  · obtain ⟨z, rfl, hz, ok, rfl⟩ := h
    have nd := sc_Formula_read.nd
    have hsl : sizeLine ≥ 2000000 := by decide
    refine j_cons (j_ret (ev_makeL 0 rfl mk_Formula i_Formula (hr.mono (by decide)) (ea_cons (ev_new (en_split (nm 1 rfl) ev_str (by decide +kernel) (by walk_at "s"))) ea_nil) ⟨_, _, rfl, .inl (.inl rfl), ok, rfl, rfl⟩) ?_)
    walk_at "leaf"
abbrev s_meets : Stmt := top 21
abbrev N_meets : List Str := ["sign", "one", "two"]
theorem sc_meets : FnScope N_meets ["sign", "one", "two"] (defScope s_meets) := ⟨rfl, rfl, rfl, by decide +kernel, rfl, by decide +kernel, by decide +kernel⟩
theorem ok_meets {f : Addr} {fd : FuncData}  (F : Fun K "meets" "meets" s_meets f fd)  : FnOk P w K mg base CX0 1 f fd ["sign", "one", "two"] (spP K arMeets) := by
  refine fn_pure F sc_meets (fun L ds d h => ?_) (fun cdv A outer s H E B ds d hr h => ?_)
  · obtain ⟨z, a, b, rfl, _⟩ := h; rfl
  · obtain ⟨z, a, b, rfl, rfl⟩ := h
    have nd := sc_meets.nd
    refine j_cons (j_if (et_cmp op_eq rd_eqS (nm 0 rfl) ev_str (nomark _)) (fun h1 => ?_) (fun h1 => ?_))
    ·
      try simp only [decide_eq_true_eq, decide_eq_false_iff_not, List.length_map, Bool.and_eq_true, Bool.and_eq_false_iff, Bool.or_eq_true, Bool.or_eq_false_iff, Bool.not_eq_true', Bool.not_eq_false', Bool.not_eq_true, Bool.not_eq_false] at h1
      refine j_cons (j_ret (ev_cmp op_lt rd_B0 (nm 1 rfl) (nm 2 rfl) (nomark _)) ?_)
      show Frz _ _ _
      rw [show meetsM z a b = decide (a < b) from if_pos h1]; exact .refl _
    ·
      try simp only [decide_eq_true_eq, decide_eq_false_iff_not, List.length_map, Bool.and_eq_true, Bool.and_eq_false_iff, Bool.or_eq_true, Bool.or_eq_false_iff, Bool.not_eq_true', Bool.not_eq_false', Bool.not_eq_true, Bool.not_eq_false] at h1
      refine j_nil ?_
      refine j_cons (j_if (et_cmp op_eq rd_eqS (nm 0 rfl) ev_str (nomark _)) (fun h3 => ?_) (fun h3 => ?_))
      ·
        try simp only [decide_eq_true_eq, decide_eq_false_iff_not, List.length_map, Bool.and_eq_true, Bool.and_eq_false_iff, Bool.or_eq_true, Bool.or_eq_false_iff, Bool.not_eq_true', Bool.not_eq_false', Bool.not_eq_true, Bool.not_eq_false] at h3
        refine j_cons (j_ret (ev_cmp op_gt rd_B0 (nm 1 rfl) (nm 2 rfl) (nomark _)) ?_)
        show Frz _ _ _
        rw [show meetsM z a b = decide (a > b) from (if_neg h1).trans (if_pos h3)]; exact .refl _
      ·
        try simp only [decide_eq_true_eq, decide_eq_false_iff_not, List.length_map, Bool.and_eq_true, Bool.and_eq_false_iff, Bool.or_eq_true, Bool.or_eq_false_iff, Bool.not_eq_true', Bool.not_eq_false', Bool.not_eq_true, Bool.not_eq_false] at h3
        refine j_nil ?_
        refine j_cons (j_ret (ev_cmp op_eq rd_eqI (nm 1 rfl) (nm 2 rfl) (nomark _)) ?_)
        show Frz _ _ _
        rw [show meetsM z a b = decide (a = b) from (if_neg h1).trans (if_neg h3)]; exact .refl _
abbrev s_compared : Stmt := top 20
abbrev N_compared : List Str := ["word", "constant", "one", "two"]
theorem sc_compared : FnScope N_compared ["word", "constant", "one", "two"] (defScope s_compared) := ⟨rfl, rfl, rfl, by decide +kernel, rfl, by decide +kernel, by decide +kernel⟩
theorem ok_compared {f : Addr} {fd : FuncData}  (F : Fun K "compared" "compared" s_compared f fd) (c_meets : Cal P w K mg base CX0 1 "meets" (spP K arMeets)) : FnOk P w K mg base CX0 2 f fd ["word", "constant", "one", "two"] (spP K arCompared) := by
  refine fn_pure F sc_compared (fun L ds d h => ?_) (fun cdv A outer s H E B ds d hr h => ?_)
  · obtain ⟨w, c, a, b, rfl, _⟩ := h; rfl
  · obtain ⟨w, c, a, b, rfl, hok, rfl⟩ := h
    have nd := sc_compared.nd
    have hsl : sizeLine ≥ 1000000 := by decide
    have hwl := hok.len
    refine j_cons (j_if (et_cmp op_eq rd_eqS (ev_sliceS (nm 0 rfl) eo_none (eo_some ev_int) (by walk_at "s")) ev_str (nomark _)) (fun h1 => ?_) (fun h1 => ?_))
    ·
      try simp only [decide_eq_true_eq, decide_eq_false_iff_not, List.length_map, Bool.and_eq_true, Bool.and_eq_false_iff, Bool.or_eq_true, Bool.or_eq_false_iff, Bool.not_eq_true', Bool.not_eq_false', Bool.not_eq_true, Bool.not_eq_false] at h1
      have h4 := hok.row h1
      refine j_cons (j_ret (ev_tup (ea_cons (ev_call c_meets (hr.mono (by decide)) rfl (ea_cons (ev_ixS (nm 0 rfl) ev_int (by walk_at "s") (atS (by walk_at "s") (by walk_at "s"))) (ea_cons (nm 2 rfl) (ea_cons (nm 1 rfl) ea_nil))) ⟨_, _, _, rfl, rfl⟩) (ea_cons (ev_call c_meets (hr.mono (by decide)) rfl (ea_cons (ev_ixS (nm 0 rfl) ev_int (by walk_at "s") (atS (by walk_at "s") (by walk_at "s"))) (ea_cons (nm 3 rfl) (ea_cons (nm 1 rfl) ea_nil))) ⟨_, _, _, rfl, rfl⟩) ea_nil)) (by walk_at "zt")) ?_)
      show Frz _ _ _
      rw [show comparedM w c a b = (meetsM (ch w 3) a c, meetsM (ch w 3) b c) from if_pos h1]; exact .refl _
    ·
      try simp only [decide_eq_true_eq, decide_eq_false_iff_not, List.length_map, Bool.and_eq_true, Bool.and_eq_false_iff, Bool.or_eq_true, Bool.or_eq_false_iff, Bool.not_eq_true', Bool.not_eq_false', Bool.not_eq_true, Bool.not_eq_false] at h1
      refine j_nil ?_
      refine j_cons (j_ret (ev_tup (ea_cons (ev_call c_meets (hr.mono (by decide)) rfl (ea_cons (nm 0 rfl) (ea_cons (nm 2 rfl) (ea_cons (nm 3 rfl) ea_nil))) ⟨_, _, _, rfl, rfl⟩) (ea_cons (ev_call c_meets (hr.mono (by decide)) rfl (ea_cons (nm 0 rfl) (ea_cons (nm 3 rfl) (ea_cons (nm 2 rfl) ea_nil))) ⟨_, _, _, rfl, rfl⟩) ea_nil)) (by walk_at "zt")) ?_)
      show Frz _ _ _
      rw [show comparedM w c a b = (meetsM w a b, meetsM w b a) from if_neg h1]; exact .refl _
abbrev s_Formula_holds : Stmt := inClass (top 17) 7
abbrev N_Formula_holds : List Str := ["self", "row", "other", "stack", "word", "at", "constant", "first", "second"]
theorem sc_Formula_holds : FnScope N_Formula_holds ["self", "row", "other"] (defScope s_Formula_holds) := ⟨rfl, rfl, rfl, by decide +kernel, rfl, by decide +kernel, by decide +kernel⟩
theorem ok_Formula_holds {f : Addr} {fd : FuncData}  (F : Fun K "holds" "Formula.holds" s_Formula_holds f fd) (k_Formula : Cls K CFormula) (na_Formula_code : NoAttr K CFormula "code") (c_compared : Cal P w K mg base CX0 2 "compared" (spP K arCompared)) : FnOk P w K mg base CX0 3 f fd ["self", "row", "other"] (spP K (arHolds CFormula)) := by
  refine fn_pure F sc_Formula_holds (fun L ds d h => ?_) (fun cdv A outer s H E B ds d hr h => ?_)
  · obtain ⟨w, a, b, c, r, o, rfl, _⟩ := h; rfl
  · obtain ⟨w, a, b, c, r, o, rfl, hw, hr3, ho3, rfl⟩ := h
    have nd := sc_Formula_holds.nd
    have hb0 := hw.b0
    have hb3 := hw.b3
    refine j_cons (ssetN 3 nd (en_lst ea_nil (by walk_at "zt")) fun q hq => ?_)
    refine j_cons (sfor (fun i r => (((((r.set 4 none).set 5 none).set 6 none).set 7 none).set 8 none)) (fun i _ => [(q, .lst (if i = 0 then [] else [.tup [.bl (comparedM a c (r.getD b.toNat 0) (o.getD b.toNat 0)).1, .bl (comparedM a c (r.getD b.toNat 0) (o.getD b.toNat 0)).2]]))]) (fun _ => True) PassesOwn.never rfl (ei_list (ev_fld (i := 1) (nm 0 rfl) (.inl rfl) k_Formula na_Formula_code (by decide +kernel) rfl) (.inl rfl)) (eb_tup rfl (ebs_cons (bnm 4 nd) (ebs_cons (bnm 5 nd) (ebs_cons (bnm 6 nd) ebs_nil))) (bcons_len (bcons_len (bcons_len bnil_len)))) (by walk_at "gi") ?_ (fun i d hd hi hz => ?_) (fun hz => ?_))
    ·
      walk_at "start"
    ·
      have hi0 : i = 0 := by
        have : i < 1 := hi
        omega
      subst hi0
      obtain rfl : d = stepW w := (Option.some.inj hd).symm
      rw [show stepW w = .tup [.str a, .int b, .int c] by unfold stepW; rw [hw.dec]; rfl]
      refine ⟨_, rfl, ?_⟩
      refine j_cons (j_if (et_cmp op_ge rd_B0 (nm 5 rfl) ev_int (nomark _)) (fun h3 => ?_) (fun h3 => ?_))
      rotate_left
      · exfalso
        exact absurd (of_decide_eq_false h3) (by omega)
      refine j_cons (j_expr (eg_append (nm 3 rfl) (by walk_at "memO") (eg_of (ev_call c_compared (hr.mono (by decide)) rfl (ea_cons (nm 4 rfl) (ea_cons (nm 6 rfl) (ea_cons (ev_ixT (nm 1 rfl) (nm 5 rfl) (atM 0 (by walk_at "s") (by walk_at "s"))) (ea_cons (ev_ixT (nm 2 rfl) (nm 5 rfl) (atM 0 (by walk_at "s") (by walk_at "s"))) ea_nil)))) ⟨_, _, _, _, rfl, hw.okc, rfl⟩)) (by show 0 < sizeLine; decide) (by walk_at "put")) ?_)
      refine j_nil ?_
      refine j_nil ?_
      walk_at "turn"
    refine j_cons (j_ret (ev_ixT (ev_ixL (nm 3 rfl) ev_int (.inr ⟨_, rfl, by walk_at "mem"⟩) (by rfl)) ev_int (by rfl)) ?_)
    walk_at "leaf"
abbrev s_Formula___call__ : Stmt := inClass (top 17) 8
abbrev N_Formula___call__ : List Str := ["self", "row", "other"]
theorem sc_Formula___call__ : FnScope N_Formula___call__ ["self", "row", "other"] (defScope s_Formula___call__) := ⟨rfl, rfl, rfl, by decide +kernel, rfl, by decide +kernel, by decide +kernel⟩
theorem ok_Formula___call__ {f : Addr} {fd : FuncData}  (F : Fun K "__call__" "Formula.__call__" s_Formula___call__ f fd) (Fm_Formula_holds : Fok P w K mg base CX0 3 f_Formula_holds (spP K (arHolds CFormula))) (m_Formula_holds : Meth K CFormula "holds" f_Formula_holds) (k_Formula : Cls K CFormula) : FnOk P w K mg base CX0 4 f fd ["self", "row", "other"] (spP K (arHolds CFormula)) := by
  refine fn_pure F sc_Formula___call__ (fun L ds d h => ?_) (fun cdv A outer s H E B ds d hr h => ?_)
  · obtain ⟨w, a, b, c, r, o, rfl, _⟩ := h; rfl
  · have hh := h
    obtain ⟨w, a, b, c, r, o, rfl, hw, hr3, ho3, rfl⟩ := h
    have nd := sc_Formula___call__.nd
    refine j_cons (j_ret (ev_meth (nm 0 rfl) k_Formula m_Formula_holds Fm_Formula_holds (hr.mono (by decide)) (ea_cons (nm 1 rfl) (ea_cons (nm 2 rfl) ea_nil)) (by decide +kernel) ⟨w, a, b, c, r, o, rfl, hw, hr3, ho3, rfl⟩ _) ?_)
    walk_at "leaf"
abbrev s_law_meets : Stmt := top 26
abbrev N_law_meets : List Str := ["_law_sign", "_law_one", "_law_two"]
theorem sc_law_meets : FnScope N_law_meets ["_law_sign", "_law_one", "_law_two"] (defScope s_law_meets) := ⟨rfl, rfl, rfl, by decide +kernel, rfl, by decide +kernel, by decide +kernel⟩
theorem ok_law_meets {f : Addr} {fd : FuncData}  (F : Fun K "_law_meets" "_law_meets" s_law_meets f fd)  : FnOk P w K mg base CX0 1 f fd ["_law_sign", "_law_one", "_law_two"] (spP K arMeets) := by
  refine fn_pure F sc_law_meets (fun L ds d h => ?_) (fun cdv A outer s H E B ds d hr h => ?_)
  · obtain ⟨z, a, b, rfl, _⟩ := h; rfl
  · obtain ⟨z, a, b, rfl, rfl⟩ := h
    have nd := sc_law_meets.nd
    refine j_cons (j_if (et_cmp op_eq rd_eqS (nm 0 rfl) ev_str (nomark _)) (fun h1 => ?_) (fun h1 => ?_))
    ·
      try simp only [decide_eq_true_eq, decide_eq_false_iff_not, List.length_map, Bool.and_eq_true, Bool.and_eq_false_iff, Bool.or_eq_true, Bool.or_eq_false_iff, Bool.not_eq_true', Bool.not_eq_false', Bool.not_eq_true, Bool.not_eq_false] at h1
      refine j_cons (j_ret (ev_cmp op_lt rd_B0 (nm 1 rfl) (nm 2 rfl) (nomark _)) ?_)
      show Frz _ _ _
      rw [show meetsM z a b = decide (a < b) from if_pos h1]; exact .refl _
    ·
      try simp only [decide_eq_true_eq, decide_eq_false_iff_not, List.length_map, Bool.and_eq_true, Bool.and_eq_false_iff, Bool.or_eq_true, Bool.or_eq_false_iff, Bool.not_eq_true', Bool.not_eq_false', Bool.not_eq_true, Bool.not_eq_false] at h1
      refine j_nil ?_
      refine j_cons (j_if (et_cmp op_eq rd_eqS (nm 0 rfl) ev_str (nomark _)) (fun h3 => ?_) (fun h3 => ?_))
      ·
        try simp only [decide_eq_true_eq, decide_eq_false_iff_not, List.length_map, Bool.and_eq_true, Bool.and_eq_false_iff, Bool.or_eq_true, Bool.or_eq_false_iff, Bool.not_eq_true', Bool.not_eq_false', Bool.not_eq_true, Bool.not_eq_false] at h3
        refine j_cons (j_ret (ev_cmp op_gt rd_B0 (nm 1 rfl) (nm 2 rfl) (nomark _)) ?_)
        show Frz _ _ _
        rw [show meetsM z a b = decide (a > b) from (if_neg h1).trans (if_pos h3)]; exact .refl _
      ·
        try simp only [decide_eq_true_eq, decide_eq_false_iff_not, List.length_map, Bool.and_eq_true, Bool.and_eq_false_iff, Bool.or_eq_true, Bool.or_eq_false_iff, Bool.not_eq_true', Bool.not_eq_false', Bool.not_eq_true, Bool.not_eq_false] at h3
        refine j_nil ?_
        refine j_cons (j_ret (ev_cmp op_eq rd_eqI (nm 1 rfl) (nm 2 rfl) (nomark _)) ?_)
        show Frz _ _ _
        rw [show meetsM z a b = decide (a = b) from (if_neg h1).trans (if_neg h3)]; exact .refl _
abbrev s_law_big : Stmt := top 27
abbrev N_law_big : List Str := ["_law_one", "_law_two", "_law_value", "_law_k"]
theorem sc_law_big : FnScope N_law_big ["_law_one", "_law_two"] (defScope s_law_big) := ⟨rfl, rfl, rfl, by decide +kernel, rfl, by decide +kernel, by decide +kernel⟩
theorem ok_law_big {f : Addr} {fd : FuncData}  (F : Fun K "_law_big" "_law_big" s_law_big f fd) (b_int : mg "int" = none) (b_range : mg "range" = none) : FnOk P w K mg base CX0 1 f fd ["_law_one", "_law_two"] (spP K arBig) := by
  refine fn_pure F sc_law_big (fun L ds d h => ?_) (fun cdv A outer s H E B ds d hr h => ?_)
  · obtain ⟨a, b, rfl, _⟩ := h; rfl
  · obtain ⟨one, two, rfl, h0, h01, h02, h03, rfl⟩ := h
    have nd := sc_law_big.nd
    refine j_cons (j_if (et_cmp op_eq rd_eqI (ev_op op_mod (rd_I (by walk_at "s")) (ev_callTy call_int1 rc_int rfl b_int (by decide +kernel) (ea_cons (nm 0 rfl) ea_nil)) ev_int) ev_int (nomark _)) (fun h1 => ?_) (fun h1 => ?_))
    ·
      try simp only [decide_eq_true_eq, decide_eq_false_iff_not, List.length_map, Bool.and_eq_true, Bool.and_eq_false_iff, Bool.or_eq_true, Bool.or_eq_false_iff, Bool.not_eq_true', Bool.not_eq_false', Bool.not_eq_true, Bool.not_eq_false] at h1
      refine j_cons (j_ret (ev_op op_sub rd_I0 (nm 1 rfl) ev_int) ?_)
      show Frz _ _ _
      rw [show lawBig one two = two - 250 from if_pos h1]; exact .refl _
    ·
      try simp only [decide_eq_true_eq, decide_eq_false_iff_not, List.length_map, Bool.and_eq_true, Bool.and_eq_false_iff, Bool.or_eq_true, Bool.or_eq_false_iff, Bool.not_eq_true', Bool.not_eq_false', Bool.not_eq_true, Bool.not_eq_false] at h1
      refine j_nil ?_
      refine j_cons (j_if (et_cmp op_eq rd_eqI (ev_op op_mod (rd_I (by walk_at "s")) (ev_callTy call_int1 rc_int rfl b_int (by decide +kernel) (ea_cons (nm 0 rfl) ea_nil)) ev_int) ev_int (nomark _)) (fun h3 => ?_) (fun h3 => ?_))
      ·
        try simp only [decide_eq_true_eq, decide_eq_false_iff_not, List.length_map, Bool.and_eq_true, Bool.and_eq_false_iff, Bool.or_eq_true, Bool.or_eq_false_iff, Bool.not_eq_true', Bool.not_eq_false', Bool.not_eq_true, Bool.not_eq_false] at h3
        refine j_cons (j_ret (ev_op op_add rd_I0 (ev_op op_mulW (rd_I (by walk_at "w")) (nm 1 rfl) (ev_op op_pow (rd_I ⟨by decide, by decide, by decide⟩) ev_int ev_int)) (nm 0 rfl)) ?_)
        show Frz _ _ _
        rw [show lawBig one two = two * p20 + one from (if_neg h1).trans (if_pos h3)]; exact .refl _
      ·
        try simp only [decide_eq_true_eq, decide_eq_false_iff_not, List.length_map, Bool.and_eq_true, Bool.and_eq_false_iff, Bool.or_eq_true, Bool.or_eq_false_iff, Bool.not_eq_true', Bool.not_eq_false', Bool.not_eq_true, Bool.not_eq_false] at h3
        refine j_nil ?_
        refine j_cons (j_if (et_cmp op_eq rd_eqI (ev_op op_mod (rd_I (by walk_at "s")) (ev_callTy call_int1 rc_int rfl b_int (by decide +kernel) (ea_cons (nm 0 rfl) ea_nil)) ev_int) ev_int (nomark _)) (fun h5 => ?_) (fun h5 => ?_))
        ·
          try simp only [decide_eq_true_eq, decide_eq_false_iff_not, List.length_map, Bool.and_eq_true, Bool.and_eq_false_iff, Bool.or_eq_true, Bool.or_eq_false_iff, Bool.not_eq_true', Bool.not_eq_false', Bool.not_eq_true, Bool.not_eq_false] at h5
          refine j_cons (j_ret (ev_op op_sub rd_I0 (ev_op op_mulW (rd_I (by walk_at "w")) (ev_neg (nm 1 rfl)) (ev_op op_pow (rd_I ⟨by decide, by decide, by decide⟩) ev_int ev_int)) (nm 0 rfl)) ?_)
          show Frz _ _ _
          rw [show lawBig one two = -two * p20 - one from (if_neg h1).trans ((if_neg h3).trans (if_pos h5))]; exact .refl _
        ·
          try simp only [decide_eq_true_eq, decide_eq_false_iff_not, List.length_map, Bool.and_eq_true, Bool.and_eq_false_iff, Bool.or_eq_true, Bool.or_eq_false_iff, Bool.not_eq_true', Bool.not_eq_false', Bool.not_eq_true, Bool.not_eq_false] at h5
          refine j_nil ?_
          refine j_cons (sset 2 nd (ev_op op_sub rd_I0 (nm 1 rfl) ev_int) ?_)
          refine j_cons (sfor (fun i r => ((r.set 2 (some (.int (bigN (two - 250) i)))).set 3 none)) (fun _ o => o) (fun _ => True) PassesOwn.never rfl (ei_range1 rfl b_range (ea_cons ev_int ea_nil) (by walk_at "r")) (bnm 3 nd) (by walk_at "gi") ?_ (fun i d hd hi hz => ?_) (fun hz => ?_))
          ·
            walk_at "start"
          ·
            obtain ⟨hi, rfl⟩ := rng_item hd
            have hi15 : i < 15 := hi
            refine ⟨_, rfl, ?_⟩
            refine j_cons (sset 2 nd (ev_op op_mulW (rd_I (by walk_at "w")) (nm 2 rfl) (ev_op op_pow (rd_I ⟨by decide, by decide, by decide⟩) ev_int ev_int)) ?_)
            refine j_nil ?_
            exact ⟨by walk_at "wk", rfl, trivial⟩
          try rw [rng_len] at hz
          rw [rng_len]
          refine j_cons (j_ret (ev_op op_add rd_I0 (nm 2 rfl) (nm 0 rfl)) ?_)
          show Frz _ _ _
          rw [show lawBig one two = bigN (two - 250) 15 + one from (if_neg h1).trans ((if_neg h3).trans (if_neg h5))]; exact .refl _
abbrev s_law_told : Stmt := top 28
abbrev N_law_told : List Str := ["_law_formula", "_law_row", "_law_other", "_law_due", "_law_answer"]
theorem sc_law_told : FnScope N_law_told ["_law_formula", "_law_row", "_law_other", "_law_due"] (defScope s_law_told) := ⟨rfl, rfl, rfl, by decide +kernel, rfl, by decide +kernel, by decide +kernel⟩
theorem ok_law_told {f : Addr} {fd : FuncData}  (F : Fun K "_law_told" "_law_told" s_law_told f fd) (co_Formula : StX.CallO K CFormula f_Formula___call__) (Fco_Formula : Fok P w K mg base CX0 4 f_Formula___call__ (spP K (arHolds CFormula))) (b_isinstance : mg "isinstance" = none) (b_bool : mg "bool" = none) : FnOk P w K mg base CX0 5 f fd ["_law_formula", "_law_row", "_law_other", "_law_due"] (spP K (arTold CFormula)) := by
  refine fn_pure F sc_law_told (fun L ds d h => ?_) (fun cdv A outer s H E B ds d hr h => ?_)
  · obtain ⟨w, a, b, c, r, o, due, rfl, _⟩ := h; rfl
  · obtain ⟨w, a, b, c, r, o, due, rfl, hw, hr3, ho3, rfl⟩ := h
    have nd := sc_law_told.nd
    refine j_cons (sset 4 nd (ev_callO (nm 0 rfl) co_Formula Fco_Formula (hr.mono (by decide)) (ea_cons (nm 1 rfl) (ea_cons (nm 2 rfl) ea_nil)) ⟨w, a, b, c, r, o, rfl, hw, hr3, ho3, rfl⟩) ?_)
    refine j_cons (j_ret (ev_and (ev_callB call_isi (rc_isi (c := "bool") .bl (by rfl)) rfl b_isinstance (by decide +kernel) (ea_cons (nm 4 rfl) (ea_cons (ev_bltn (v := .ty "bool") (u := .type "bool") rfl b_bool (by decide +kernel) rfl (fun _ => .ty _)) ea_nil))) (fun hb1 => (ev_one (ev_cmp op_eq rd_eqB (nm 4 rfl) (nm 3 rfl) (nomark _))))) ?_)
    show Frz _ _ _
    exact .refl _
abbrev s_law : Stmt := top 29
abbrev N_law : List Str := ["_law_script", "_law_pool_here", "_law_at", "_law_letter", "_law_row", "_law_other", "_law_constant", "_law_sign", "_law_formula", "_law_due"]
theorem sc_law : FnScope N_law ["_law_script"] (defScope s_law) := ⟨rfl, rfl, rfl, by decide +kernel, rfl, by decide +kernel, by decide +kernel⟩
theorem ok_law {f : Addr} {fd : FuncData}  (F : Fun K "law" "law" s_law f fd) (c_law_pool : Cal P w K mg base CX0 1 "_law_pool" (spN K arPool)) (b_int : mg "int" = none) (c_law_big : Cal P w K mg base CX0 1 "_law_big" (spP K arBig)) (b_tuple : mg "tuple" = none) (g_Formula : mg "Formula" = some (.ref CFormula)) (Fcm_Formula_read : Fok P w K mg base CX0 5 f_Formula_read (spP K (arRead CFormula))) (cm_Formula_read : ClX.CMet K CFormula mcFormula "read" p_Formula_read_ f_Formula_read) (rd_Formula : ClX.CRead K CFormula mcFormula) (c_law_meets : Cal P w K mg base CX0 1 "_law_meets" (spP K arMeets)) (c_law_told : Cal P w K mg base CX0 5 "_law_told" (spP K (arTold CFormula))) (b_str : mg "str" = none) : FnOk P w K mg base CX0 8 f fd ["_law_script"] (spP K arLaw) := by
  refine fn_pure F sc_law (fun L ds d h => ?_) (fun cdv A outer s H E B ds d hr h => ?_)
  · obtain ⟨s, rfl, _⟩ := h; rfl
  · obtain ⟨s, rfl, hs, rfl⟩ := h
    have nd := sc_law.nd
    have hsl : sizeLine ≥ 2000000 := by decide
    have hp0 := pool_len s 0 20
    have habc : ((Str.ofString "abc").length : Int) = 3 := by decide +kernel
    have hcl := conB_lt s
    obtain ⟨_, hc2, _⟩ := constM_num hcl
    have hbl := othB_len s
    have hal := rowA_len s
    obtain ⟨a, ha⟩ := at_fin s
    have ha3 := a.isLt
    have hat : (atA s).toNat = a.val := by rw [ha]; rfl
    have hol := othA_len s
    refine j_cons (sset 1 nd (ev_conv (d' := dInts (pool s 0 20)) (ev_new (en_call c_law_pool (hr.mono (by decide)) rfl (ea_cons (nm 0 rfl) (ea_cons ev_int (ea_cons ev_int ea_nil))) (by exact ⟨s, 0, 20, rfl, by decide, by decide, by decide, by decide, rfl⟩))) rfl) ?_)
    refine j_cons (sset 2 nd (ev_conv (d' := .int (atA s)) (ev_op op_mod (rd_I (by walk_at "s")) (ev_callTy call_int1 rc_int rfl b_int (by decide +kernel) (ea_cons (ev_ixL (nm 1 rfl) ev_int (.inl rfl) (atM 0 (by walk_at "s") (by walk_at "s"))) ea_nil)) ev_int) rfl) ?_)
    refine j_cons (sset 3 nd (ev_conv (d' := .str (letB a)) (ev_ixS ev_str (nm 2 rfl) (by walk_at "s") (atS (by walk_at "s") (by walk_at "s"))) (congrArg D.str (let_of ha))) ?_)
    refine j_cons (ssetN 4 nd (en_conv (es' := (rowA s).map fun x => D.int x) (en_lst (ea_cons (ev_call c_law_big (hr.mono (by decide)) rfl (ea_cons (ev_ixL (nm 1 rfl) ev_int (.inl rfl) (atM 0 (by walk_at "s") (by walk_at "s"))) (ea_cons (ev_ixL (nm 1 rfl) ev_int (.inl rfl) (atM 0 (by walk_at "s") (by walk_at "s"))) ea_nil)) (by exact ⟨_, _, rfl, (pool_at s 0 20 1).1, (pool_at s 0 20 1).2, (pool_at s 0 20 2).1, (pool_at s 0 20 2).2, rfl⟩)) (ea_cons (ev_call c_law_big (hr.mono (by decide)) rfl (ea_cons (ev_ixL (nm 1 rfl) ev_int (.inl rfl) (atM 0 (by walk_at "s") (by walk_at "s"))) (ea_cons (ev_ixL (nm 1 rfl) ev_int (.inl rfl) (atM 0 (by walk_at "s") (by walk_at "s"))) ea_nil)) (by exact ⟨_, _, rfl, (pool_at s 0 20 3).1, (pool_at s 0 20 3).2, (pool_at s 0 20 4).1, (pool_at s 0 20 4).2, rfl⟩)) (ea_cons (ev_call c_law_big (hr.mono (by decide)) rfl (ea_cons (ev_ixL (nm 1 rfl) ev_int (.inl rfl) (atM 0 (by walk_at "s") (by walk_at "s"))) (ea_cons (ev_ixL (nm 1 rfl) ev_int (.inl rfl) (atM 0 (by walk_at "s") (by walk_at "s"))) ea_nil)) (by exact ⟨_, _, rfl, (pool_at s 0 20 5).1, (pool_at s 0 20 5).2, (pool_at s 0 20 6).1, (pool_at s 0 20 6).2, rfl⟩)) ea_nil))) (by walk_at "zt")) rfl) fun q1 hq1 => ?_)
    refine j_cons (ssetN 5 nd (en_conv (es' := (othA s).map fun x => D.int x) (en_lst (ea_cons (ev_call c_law_big (hr.mono (by decide)) rfl (ea_cons (ev_ixL (nm 1 rfl) ev_int (.inl rfl) (atM 0 (by walk_at "s") (by walk_at "s"))) (ea_cons (ev_ixL (nm 1 rfl) ev_int (.inl rfl) (atM 0 (by walk_at "s") (by walk_at "s"))) ea_nil)) (by exact ⟨_, _, rfl, (pool_at s 0 20 7).1, (pool_at s 0 20 7).2, (pool_at s 0 20 8).1, (pool_at s 0 20 8).2, rfl⟩)) (ea_cons (ev_call c_law_big (hr.mono (by decide)) rfl (ea_cons (ev_ixL (nm 1 rfl) ev_int (.inl rfl) (atM 0 (by walk_at "s") (by walk_at "s"))) (ea_cons (ev_ixL (nm 1 rfl) ev_int (.inl rfl) (atM 0 (by walk_at "s") (by walk_at "s"))) ea_nil)) (by exact ⟨_, _, rfl, (pool_at s 0 20 9).1, (pool_at s 0 20 9).2, (pool_at s 0 20 10).1, (pool_at s 0 20 10).2, rfl⟩)) (ea_cons (ev_call c_law_big (hr.mono (by decide)) rfl (ea_cons (ev_ixL (nm 1 rfl) ev_int (.inl rfl) (atM 0 (by walk_at "s") (by walk_at "s"))) (ea_cons (ev_ixL (nm 1 rfl) ev_int (.inl rfl) (atM 0 (by walk_at "s") (by walk_at "s"))) ea_nil)) (by exact ⟨_, _, rfl, (pool_at s 0 20 11).1, (pool_at s 0 20 11).2, (pool_at s 0 20 12).1, (pool_at s 0 20 12).2, rfl⟩)) ea_nil))) (by walk_at "zt")) rfl) fun q2 hq2 => ?_)
    refine j_cut [some (dInts s), some (dInts (pool s 0 20)), some (.int (atA s)), some (.str (letB a)), some (.rf q1), some (.rf q2), none, none, none, none] [(q2, .lst ((othB s).map fun x => D.int x)), (q1, .lst ((rowA s).map fun x => D.int x))] (j_if (et_cmp op_lt rd_B0 (ev_op op_mod (rd_I (by walk_at "s")) (ev_callTy call_int1 rc_int rfl b_int (by decide +kernel) (ea_cons (ev_ixL (nm 1 rfl) ev_int (.inl rfl) (atM 0 (by walk_at "s") (by walk_at "s"))) ea_nil)) ev_int) ev_int (nomark _)) (fun h6 => ?_) (fun h6 => ?_)) ?_
    ·
      try simp only [decide_eq_true_eq, decide_eq_false_iff_not, List.length_map, Bool.and_eq_true, Bool.and_eq_false_iff, Bool.or_eq_true, Bool.or_eq_false_iff, Bool.not_eq_true', Bool.not_eq_false', Bool.not_eq_true, Bool.not_eq_false] at h6
      refine j_cons (j_setIx (nm 5 rfl) (nm 2 rfl) (ev_op op_sub rd_I0 (ev_op op_add rd_I0 (ev_ixL (nm 4 rfl) (nm 2 rfl) (.inr ⟨_, rfl, by walk_at "mem"⟩) (atM 0 (by walk_at "s") (by walk_at "s"))) (ev_op op_mod (rd_I (by walk_at "s")) (ev_callTy call_int1 rc_int rfl b_int (by decide +kernel) (ea_cons (ev_ixL (nm 1 rfl) ev_int (.inl rfl) (atM 0 (by walk_at "s") (by walk_at "s"))) ea_nil)) ev_int)) ev_int) (by walk_at "put") (by walk_at "ixn") ?_)
      refine j_nil ⟨?_, (by rw [show othB s = _ from if_pos h6, List.map_set]; rfl)⟩
      walk_at "wk"
    ·
      try simp only [decide_eq_true_eq, decide_eq_false_iff_not, List.length_map, Bool.and_eq_true, Bool.and_eq_false_iff, Bool.or_eq_true, Bool.or_eq_false_iff, Bool.not_eq_true', Bool.not_eq_false', Bool.not_eq_true, Bool.not_eq_false] at h6
      refine j_nil ⟨?_, (by rw [show othB s = _ from if_neg h6])⟩
      walk_at "wk"
    refine j_cons (sset 6 nd (ev_conv (d' := .int (conA s)) (ev_op op_sub rd_I0 (ev_op op_add rd_I0 (ev_ixL (nm 4 rfl) (nm 2 rfl) (.inr ⟨_, rfl, by walk_at "mem"⟩) (atM 0 (by walk_at "s") (by walk_at "s"))) (ev_op op_mod (rd_I (by walk_at "s")) (ev_callTy call_int1 rc_int rfl b_int (by decide +kernel) (ea_cons (ev_ixL (nm 1 rfl) ev_int (.inl rfl) (atM 0 (by walk_at "s") (by walk_at "s"))) ea_nil)) ev_int)) ev_int) rfl) ?_)
    refine j_cut [some (dInts s), some (dInts (pool s 0 20)), some (.int (atA s)), some (.str (letB a)), some (.rf q1), some (.rf q2), some (.int (conB s)), none, none, none] [(q2, .lst ((othB s).map fun x => D.int x)), (q1, .lst ((rowA s).map fun x => D.int x))] (j_if (et_w (ew_or (et_cmp op_le rd_B0 (nm 6 rfl) (ev_neg (ev_op op_pow (rd_I ⟨by decide, by decide, by decide⟩) ev_int ev_int)) (nomark _)) (fun hb1 => (ew_or1 (et_cmp op_ge rd_B0 (nm 6 rfl) (ev_op op_pow (rd_I ⟨by decide, by decide, by decide⟩) ev_int ev_int) (nomark _)))))) (fun h9 => ?_) (fun h9 => ?_)) ?_
    ·
      try simp only [decide_eq_true_eq, decide_eq_false_iff_not, List.length_map, Bool.and_eq_true, Bool.and_eq_false_iff, Bool.or_eq_true, Bool.or_eq_false_iff, Bool.not_eq_true', Bool.not_eq_false', Bool.not_eq_true, Bool.not_eq_false] at h9
      refine j_cons (sset 6 nd (ev_ixL (ev_new (en_lst (ea_cons (ev_op op_sub rd_I0 (ev_ixL (nm 1 rfl) ev_int (.inl rfl) (atM 0 (by walk_at "s") (by walk_at "s"))) ev_int) (ea_cons (ev_op op_sub rd_I0 (ev_op op_sub rd_I0 (ev_op op_pow (rd_I ⟨by decide, by decide, by decide⟩) ev_int ev_int) ev_int) (ev_ixL (nm 1 rfl) ev_int (.inl rfl) (atM 0 (by walk_at "s") (by walk_at "s")))) (ea_cons (ev_op op_add rd_I0 (ev_op op_sub rd_I0 (ev_ixL (nm 1 rfl) ev_int (.inl rfl) (atM 0 (by walk_at "s") (by walk_at "s"))) (ev_op op_pow (rd_I ⟨by decide, by decide, by decide⟩) ev_int ev_int)) ev_int) ea_nil))) (by walk_at "zt"))) (ev_op op_mod (rd_I (by walk_at "s")) (ev_callTy call_int1 rc_int rfl b_int (by decide +kernel) (ea_cons (ev_ixL (nm 1 rfl) ev_int (.inl rfl) (atM 0 (by walk_at "s") (by walk_at "s"))) ea_nil)) ev_int) (.inl rfl) (at3 D.int (by walk_at "s") (by walk_at "s"))) ?_)
      refine j_nil ⟨?_, rfl⟩
      rw [show conB s = _ from if_pos h9]
      walk_at "wk"
    ·
      try simp only [decide_eq_true_eq, decide_eq_false_iff_not, List.length_map, Bool.and_eq_true, Bool.and_eq_false_iff, Bool.or_eq_true, Bool.or_eq_false_iff, Bool.not_eq_true', Bool.not_eq_false', Bool.not_eq_true, Bool.not_eq_false] at h9
      refine j_nil ⟨?_, rfl⟩
      rw [show conB s = _ from if_neg (fun q => q.elim h9.1 h9.2)]
      walk_at "wk"
    refine j_cons (sset 4 nd (ev_callTy call_tuple_of (rc_tuple (.inl (.inr ⟨_, rfl, by walk_at "mem"⟩))) rfl b_tuple (by decide +kernel) (ea_cons (nm 4 rfl) ea_nil)) ?_)
    refine j_cons (sset 5 nd (ev_callTy call_tuple_of (rc_tuple (.inl (.inr ⟨_, rfl, by walk_at "mem"⟩))) rfl b_tuple (by decide +kernel) (ea_cons (nm 5 rfl) ea_nil)) ?_)
    refine j_cons (sfor (fun i r => (((r.set 7 none).set 8 none).set 9 none)) (fun _ o => o) (fun _ => True) PassesOwn.never rfl (ei_list (ev_new (en_lst (ea_cons ev_str (ea_cons ev_str (ea_cons ev_str ea_nil))) (by walk_at "zt"))) (.inl rfl)) (bnm 7 nd) (by walk_at "gi") ?_ (fun i d hd hi hz => ?_) (fun hz => ?_))
    ·
      walk_at "start"
    ·
      obtain ⟨b, rfl⟩ := sig_item hd
      refine ⟨_, rfl, ?_⟩
      refine j_cons (sset 8 nd (ev_conv (d' := .obj CFormula fF (fV [sigB b ++ letB a])) (ev_cmeth (ev_glob (v := .ref CFormula) rfl g_Formula rfl (fun _ => .rf _)) rd_Formula cm_Formula_read Fcm_Formula_read (hr.mono (by decide)) (ea_cons (ev_op op_add_str (rd_addS (by walk_at "cat")) (nm 7 rfl) (nm 3 rfl)) ea_nil) (by exact ⟨_, rfl, (by rw [app_len]; show 1 + 1 ≤ 1000000; decide), (by rw [(word2 a b).2.1]; exact (word2 a b).1), rfl⟩) _) (by rw [(word2 a b).2.1])) ?_)
      refine j_cons (j_if (et_not (et_of (ev_call c_law_told (hr.mono (by decide)) rfl (ea_cons (nm 8 rfl) (ea_cons (nm 4 rfl) (ea_cons (nm 5 rfl) (ea_cons (ev_call c_law_meets (hr.mono (by decide)) rfl (ea_cons (nm 7 rfl) (ea_cons (ev_ixT (nm 4 rfl) (nm 2 rfl) (atM 0 (by walk_at "s") (by walk_at "s"))) (ea_cons (ev_ixT (nm 5 rfl) (nm 2 rfl) (atM 0 (by walk_at "s") (by walk_at "s"))) ea_nil))) (by exact ⟨_, _, _, rfl, rfl⟩)) ea_nil)))) (by exact ⟨_, _, _, _, _, _, _, rfl, (word2 a b).2.2, hal, hbl, rfl⟩)))) (fun h15 => ?_) (fun h15 => ?_))
      · exfalso
        simp [ans2, hat] at h15
      refine j_nil ?_
      refine j_cons (j_if (et_not (et_of (ev_call c_law_told (hr.mono (by decide)) rfl (ea_cons (nm 8 rfl) (ea_cons (nm 5 rfl) (ea_cons (nm 4 rfl) (ea_cons (ev_call c_law_meets (hr.mono (by decide)) rfl (ea_cons (nm 7 rfl) (ea_cons (ev_ixT (nm 5 rfl) (nm 2 rfl) (atM 0 (by walk_at "s") (by walk_at "s"))) (ea_cons (ev_ixT (nm 4 rfl) (nm 2 rfl) (atM 0 (by walk_at "s") (by walk_at "s"))) ea_nil))) (by exact ⟨_, _, _, rfl, rfl⟩)) ea_nil)))) (by exact ⟨_, _, _, _, _, _, _, rfl, (word2 a b).2.2, hbl, hal, rfl⟩)))) (fun h17 => ?_) (fun h17 => ?_))
      · exfalso
        simp [ans2, hat] at h17
      refine j_nil ?_
      refine j_cons (j_if (et_not (et_of (ev_call c_law_told (hr.mono (by decide)) rfl (ea_cons (nm 8 rfl) (ea_cons (nm 4 rfl) (ea_cons (nm 4 rfl) (ea_cons (ev_cmp op_eq rd_eqS (nm 7 rfl) ev_str (nomark _)) ea_nil)))) (by exact ⟨_, _, _, _, _, _, _, rfl, (word2 a b).2.2, hal, hal, rfl⟩)))) (fun h19 => ?_) (fun h19 => ?_))
      · exfalso
        simp [ans2, hat, same_all] at h19
      refine j_nil ?_
      refine j_cons (sset 8 nd (ev_conv (d' := .obj CFormula fF (fV [letB a ++ sigB b ++ Str.ofString (toString (conB s))])) (ev_cmeth (ev_glob (v := .ref CFormula) rfl g_Formula rfl (fun _ => .rf _)) rd_Formula cm_Formula_read Fcm_Formula_read (hr.mono (by decide)) (ea_cons (ev_op op_add_str (rd_addS (by walk_at "cat")) (ev_op op_add_str (rd_addS (by walk_at "cat")) (nm 3 rfl) (nm 7 rfl)) (ev_callTy call_str_int (rc_strI (by walk_at "t")) rfl b_str (by decide +kernel) (ea_cons (nm 6 rfl) ea_nil))) ea_nil) (by exact ⟨_, rfl, (by rw [app_len, app_len]; show 1 + 1 + _ ≤ 1000000; omega), (by rw [(wordR a b hcl).2.1]; exact (wordR a b hcl).1), rfl⟩) _) (by rw [(wordR a b hcl).2.1])) ?_)
      refine j_cons (sset 9 nd (ev_call c_law_meets (hr.mono (by decide)) rfl (ea_cons (nm 7 rfl) (ea_cons (ev_ixT (nm 4 rfl) (nm 2 rfl) (atM 0 (by walk_at "s") (by walk_at "s"))) (ea_cons (nm 6 rfl) ea_nil))) (by exact ⟨_, _, _, rfl, rfl⟩)) ?_)
      refine j_cons (j_if (et_w (ew_or (et_not (et_of (ev_call c_law_told (hr.mono (by decide)) rfl (ea_cons (nm 8 rfl) (ea_cons (nm 4 rfl) (ea_cons (nm 5 rfl) (ea_cons (nm 9 rfl) ea_nil)))) (by exact ⟨_, _, _, _, _, _, _, rfl, (wordR a b hcl).2.2, hal, hbl, rfl⟩)))) (fun hb2 => (ew_or1 (et_not (et_of (ev_call c_law_told (hr.mono (by decide)) rfl (ea_cons (nm 8 rfl) (ea_cons (nm 4 rfl) (ea_cons (nm 4 rfl) (ea_cons (nm 9 rfl) ea_nil)))) (by exact ⟨_, _, _, _, _, _, _, rfl, (wordR a b hcl).2.2, hal, hal, rfl⟩)))))))) (fun h23 => ?_) (fun h23 => ?_))
      · exfalso
        simp [ansR, hat] at h23
      refine j_nil ?_
      refine j_cons (j_if (et_not (et_of (ev_call c_law_told (hr.mono (by decide)) rfl (ea_cons (nm 8 rfl) (ea_cons (nm 5 rfl) (ea_cons (nm 4 rfl) (ea_cons (ev_call c_law_meets (hr.mono (by decide)) rfl (ea_cons (nm 7 rfl) (ea_cons (ev_ixT (nm 5 rfl) (nm 2 rfl) (atM 0 (by walk_at "s") (by walk_at "s"))) (ea_cons (nm 6 rfl) ea_nil))) (by exact ⟨_, _, _, rfl, rfl⟩)) ea_nil)))) (by exact ⟨_, _, _, _, _, _, _, rfl, (wordR a b hcl).2.2, hbl, hal, rfl⟩)))) (fun h25 => ?_) (fun h25 => ?_))
      · exfalso
        simp [ansR, hat] at h25
      refine j_nil ?_
      refine j_nil ?_
      walk_at "turn"
    refine j_cons (j_ret ev_bl ?_)
    walk_at "leaf"
end
end DL

set_option Elab.async false
set_option linter.all false
set_option maxRecDepth 100000
set_option maxHeartbeats 4000000
namespace DL
open PySem PySem.Spec PyProof.Rows L2 TL
theorem all_mk {P : Program} {w : World} {K : PySem.W.Frag} {h : Heap} {mg : Str → Option Value} {fa : Addr} (X : K.In h) (G : h.Ns mainGlobals mg) (hfa : mg "law" = some (.ref fa))
    {CFormula f_law_pool f_constant_of f_decoded aOPERANDS f_Formula___init__ f_Formula_read p_Formula_read_ f_meets f_compared f_Formula_holds f_Formula___call__ f_law_meets f_law_big f_law_told f_law : Addr} {od_law_pool an_law_pool od_constant_of an_constant_of od_decoded an_decoded od_Formula___init__ an_Formula___init__ od_Formula_read an_Formula_read od_meets an_meets od_compared an_compared od_Formula_holds an_Formula_holds od_Formula___call__ an_Formula___call__ od_law_meets an_law_meets od_law_big an_law_big od_law_told an_law_told od_law an_law : Option Addr} {sl_law_pool sl_constant_of sl_decoded sl_Formula___init__ sl_Formula_read sl_meets sl_compared sl_Formula_holds sl_Formula___call__ sl_law_meets sl_law_big sl_law_told sl_law : Array (Option Value)} {oc_law_pool kV_law_pool dc_law_pool pm_law_pool cd_law_pool ct_law_pool oc_constant_of kV_constant_of dc_constant_of pm_constant_of cd_constant_of ct_constant_of oc_decoded kV_decoded dc_decoded pm_decoded cd_decoded ct_decoded oc_Formula___init__ kV_Formula___init__ dc_Formula___init__ pm_Formula___init__ cd_Formula___init__ ct_Formula___init__ oc_Formula_read kV_Formula_read dc_Formula_read pm_Formula_read cd_Formula_read ct_Formula_read oc_meets kV_meets dc_meets pm_meets cd_meets ct_meets oc_compared kV_compared dc_compared pm_compared cd_compared ct_compared oc_Formula_holds kV_Formula_holds dc_Formula_holds pm_Formula_holds cd_Formula_holds ct_Formula_holds oc_Formula___call__ kV_Formula___call__ dc_Formula___call__ pm_Formula___call__ cd_Formula___call__ ct_Formula___call__ oc_law_meets kV_law_meets dc_law_meets pm_law_meets cd_law_meets ct_law_meets oc_law_big kV_law_big dc_law_big pm_law_big cd_law_big ct_law_big oc_law_told kV_law_told dc_law_told pm_law_told cd_law_told ct_law_told oc_law kV_law dc_law pm_law cd_law ct_law : Value} {rest_Formula_read : List Value} {es_OPERANDS : Array DictEntry} {n_OPERANDS : Nat} {tFormulaMOST tCOLUMNS : Tok}
    (aC_Formula : PySem.W.nsIn K mainGlobals "Formula" = some (some (.ref CFormula)))
    (pg_Formula : PySem.W.plainGet K CFormula Str.empty = true)
    (hd_Formula : PySem.W.hasDictIn K CFormula = true)
    (po_Formula : PySem.W.plainOver K CFormula = true)
    (sa_Formula : PySem.W.findIn K (.ref CFormula) "__setattr__" = some (some (.builtin "object.__setattr__")))
    (a_law_pool : PySem.W.nsIn K mainGlobals "_law_pool" = some (some (.ref f_law_pool)))
    (l_law_pool : K.lookup f_law_pool = some ⟨oc_law_pool, od_law_pool, .func (PySem.W.fnOf "_law_pool" "_law_pool" (defArgs s_law_pool) (defBody s_law_pool) (defScope s_law_pool) .none kV_law_pool dc_law_pool pm_law_pool an_law_pool cd_law_pool ct_law_pool), sl_law_pool⟩)
    (c_law_pool : PySem.W.codeIn K cd_law_pool "_law_pool" = true)
    (kp_law_pool : PySem.W.keepIn K (.ref f_law_pool) = true)
    (z_len : PySem.W.nsIn K mainGlobals "len" = some none)
    (z_range : PySem.W.nsIn K mainGlobals "range" = some none)
    (z_int : PySem.W.nsIn K mainGlobals "int" = some none)
    (a_constant_of : PySem.W.nsIn K mainGlobals "constant_of" = some (some (.ref f_constant_of)))
    (l_constant_of : K.lookup f_constant_of = some ⟨oc_constant_of, od_constant_of, .func (PySem.W.fnOf "constant_of" "constant_of" (defArgs s_constant_of) (defBody s_constant_of) (defScope s_constant_of) .none kV_constant_of dc_constant_of pm_constant_of an_constant_of cd_constant_of ct_constant_of), sl_constant_of⟩)
    (c_constant_of : PySem.W.codeIn K cd_constant_of "constant_of" = true)
    (kp_constant_of : PySem.W.keepIn K (.ref f_constant_of) = true)
    (a_decoded : PySem.W.nsIn K mainGlobals "decoded" = some (some (.ref f_decoded)))
    (l_decoded : K.lookup f_decoded = some ⟨oc_decoded, od_decoded, .func (PySem.W.fnOf "decoded" "decoded" (defArgs s_decoded) (defBody s_decoded) (defScope s_decoded) .none kV_decoded dc_decoded pm_decoded an_decoded cd_decoded ct_decoded), sl_decoded⟩)
    (c_decoded : PySem.W.codeIn K cd_decoded "decoded" = true)
    (kp_decoded : PySem.W.keepIn K (.ref f_decoded) = true)
    (ga_OPERANDS : PySem.W.nsIn K mainGlobals "OPERANDS" = some (some (.ref aOPERANDS)))
    (ld_OPERANDS : K.lookup aOPERANDS = some ⟨.type "dict", none, .dict es_OPERANDS n_OPERANDS, #[]⟩)
    (li_OPERANDS : PySem.W.KeysLit w.params es_OPERANDS.toList)
    (lw_OPERANDS : (aOPERANDS == sysModules) = false)
    (lv_OPERANDS : es_OPERANDS.toList.map keyVal = (opsL).map some)
    (ga_COLUMNS : PySem.W.nsIn K mainGlobals "COLUMNS" = some (some (.str "abc" tCOLUMNS)))
    (a_Formula___init__ : PySem.W.findIn K (.ref CFormula) "__init__" = some (some (.ref f_Formula___init__)))
    (i_Formula___init__ : PySem.W.isFn K (.ref f_Formula___init__) = true)
    (l_Formula___init__ : K.lookup f_Formula___init__ = some ⟨oc_Formula___init__, od_Formula___init__, .func (PySem.W.fnOf "__init__" "Formula.__init__" (defArgs s_Formula___init__) (defBody s_Formula___init__) (defScope s_Formula___init__) .none kV_Formula___init__ dc_Formula___init__ pm_Formula___init__ an_Formula___init__ cd_Formula___init__ ct_Formula___init__), sl_Formula___init__⟩)
    (c_Formula___init__ : PySem.W.codeIn K cd_Formula___init__ "Formula.__init__" = true)
    (kp_Formula___init__ : PySem.W.keepIn K (.ref f_Formula___init__) = true)
    (ra_Formula : PySem.W.readsIn K CFormula (.type "type") = true)
    (rb_Formula : PySem.W.specialIn K (.ref CFormula) "__getattribute__" = some (some (.builtin "type.__getattribute__")))
    (cv_Formula_MOST : PySem.W.findCls K (.ref CFormula) (.type "type") "MOST" = some (.val (.int 40 tFormulaMOST)))
    (z_enumerate : PySem.W.nsIn K mainGlobals "enumerate" = some none)
    (z_tuple : PySem.W.nsIn K mainGlobals "tuple" = some none)
    (na_Formula_words : PySem.W.findIn K (.ref CFormula) "words" = some none)
    (na_Formula_code : PySem.W.findIn K (.ref CFormula) "code" = some none)
    (qa_Formula_read : PySem.W.findCls K (.ref CFormula) (.type "type") "read" = some (.get (.builtin "classmethod.__get__") (.ref p_Formula_read_) .none (.ref CFormula)))
    (qb_Formula_read : PySem.W.recIn K p_Formula_read_ "classmethod" = some (.ref f_Formula_read :: rest_Formula_read))
    (qc_Formula_read : PySem.W.fnIn K f_Formula_read = true)
    (l_Formula_read : K.lookup f_Formula_read = some ⟨oc_Formula_read, od_Formula_read, .func (PySem.W.fnOf "read" "Formula.read" (defArgs s_Formula_read) (defBody s_Formula_read) (defScope s_Formula_read) .none kV_Formula_read dc_Formula_read pm_Formula_read an_Formula_read cd_Formula_read ct_Formula_read), sl_Formula_read⟩)
    (c_Formula_read : PySem.W.codeIn K cd_Formula_read "Formula.read" = true)
    (kp_Formula_read : PySem.W.keepIn K (.ref f_Formula_read) = true)
    (mm_Formula : PySem.W.makesIn K CFormula = true)
    (mc_Formula : PySem.W.keepIn K (.ref CFormula) = true)
    (a_meets : PySem.W.nsIn K mainGlobals "meets" = some (some (.ref f_meets)))
    (l_meets : K.lookup f_meets = some ⟨oc_meets, od_meets, .func (PySem.W.fnOf "meets" "meets" (defArgs s_meets) (defBody s_meets) (defScope s_meets) .none kV_meets dc_meets pm_meets an_meets cd_meets ct_meets), sl_meets⟩)
    (c_meets : PySem.W.codeIn K cd_meets "meets" = true)
    (kp_meets : PySem.W.keepIn K (.ref f_meets) = true)
    (a_compared : PySem.W.nsIn K mainGlobals "compared" = some (some (.ref f_compared)))
    (l_compared : K.lookup f_compared = some ⟨oc_compared, od_compared, .func (PySem.W.fnOf "compared" "compared" (defArgs s_compared) (defBody s_compared) (defScope s_compared) .none kV_compared dc_compared pm_compared an_compared cd_compared ct_compared), sl_compared⟩)
    (c_compared : PySem.W.codeIn K cd_compared "compared" = true)
    (kp_compared : PySem.W.keepIn K (.ref f_compared) = true)
    (a_Formula_holds : PySem.W.findIn K (.ref CFormula) "holds" = some (some (.ref f_Formula_holds)))
    (i_Formula_holds : PySem.W.isFn K (.ref f_Formula_holds) = true)
    (l_Formula_holds : K.lookup f_Formula_holds = some ⟨oc_Formula_holds, od_Formula_holds, .func (PySem.W.fnOf "holds" "Formula.holds" (defArgs s_Formula_holds) (defBody s_Formula_holds) (defScope s_Formula_holds) .none kV_Formula_holds dc_Formula_holds pm_Formula_holds an_Formula_holds cd_Formula_holds ct_Formula_holds), sl_Formula_holds⟩)
    (c_Formula_holds : PySem.W.codeIn K cd_Formula_holds "Formula.holds" = true)
    (kp_Formula_holds : PySem.W.keepIn K (.ref f_Formula_holds) = true)
    (a_Formula___call__ : PySem.W.findIn K (.ref CFormula) "__call__" = some (some (.ref f_Formula___call__)))
    (i_Formula___call__ : PySem.W.isFn K (.ref f_Formula___call__) = true)
    (fi_Formula___call__ : PySem.W.fnIn K f_Formula___call__ = true)
    (l_Formula___call__ : K.lookup f_Formula___call__ = some ⟨oc_Formula___call__, od_Formula___call__, .func (PySem.W.fnOf "__call__" "Formula.__call__" (defArgs s_Formula___call__) (defBody s_Formula___call__) (defScope s_Formula___call__) .none kV_Formula___call__ dc_Formula___call__ pm_Formula___call__ an_Formula___call__ cd_Formula___call__ ct_Formula___call__), sl_Formula___call__⟩)
    (c_Formula___call__ : PySem.W.codeIn K cd_Formula___call__ "Formula.__call__" = true)
    (kp_Formula___call__ : PySem.W.keepIn K (.ref f_Formula___call__) = true)
    (a_law_meets : PySem.W.nsIn K mainGlobals "_law_meets" = some (some (.ref f_law_meets)))
    (l_law_meets : K.lookup f_law_meets = some ⟨oc_law_meets, od_law_meets, .func (PySem.W.fnOf "_law_meets" "_law_meets" (defArgs s_law_meets) (defBody s_law_meets) (defScope s_law_meets) .none kV_law_meets dc_law_meets pm_law_meets an_law_meets cd_law_meets ct_law_meets), sl_law_meets⟩)
    (c_law_meets : PySem.W.codeIn K cd_law_meets "_law_meets" = true)
    (kp_law_meets : PySem.W.keepIn K (.ref f_law_meets) = true)
    (a_law_big : PySem.W.nsIn K mainGlobals "_law_big" = some (some (.ref f_law_big)))
    (l_law_big : K.lookup f_law_big = some ⟨oc_law_big, od_law_big, .func (PySem.W.fnOf "_law_big" "_law_big" (defArgs s_law_big) (defBody s_law_big) (defScope s_law_big) .none kV_law_big dc_law_big pm_law_big an_law_big cd_law_big ct_law_big), sl_law_big⟩)
    (c_law_big : PySem.W.codeIn K cd_law_big "_law_big" = true)
    (kp_law_big : PySem.W.keepIn K (.ref f_law_big) = true)
    (a_law_told : PySem.W.nsIn K mainGlobals "_law_told" = some (some (.ref f_law_told)))
    (l_law_told : K.lookup f_law_told = some ⟨oc_law_told, od_law_told, .func (PySem.W.fnOf "_law_told" "_law_told" (defArgs s_law_told) (defBody s_law_told) (defScope s_law_told) .none kV_law_told dc_law_told pm_law_told an_law_told cd_law_told ct_law_told), sl_law_told⟩)
    (c_law_told : PySem.W.codeIn K cd_law_told "_law_told" = true)
    (kp_law_told : PySem.W.keepIn K (.ref f_law_told) = true)
    (z_isinstance : PySem.W.nsIn K mainGlobals "isinstance" = some none)
    (z_bool : PySem.W.nsIn K mainGlobals "bool" = some none)
    (a_law : PySem.W.nsIn K mainGlobals "law" = some (some (.ref f_law)))
    (l_law : K.lookup f_law = some ⟨oc_law, od_law, .func (PySem.W.fnOf "law" "law" (defArgs s_law) (defBody s_law) (defScope s_law) .none kV_law dc_law pm_law an_law cd_law ct_law), sl_law⟩)
    (c_law : PySem.W.codeIn K cd_law "law" = true)
    (kp_law : PySem.W.keepIn K (.ref f_law) = true)
    (z_str : PySem.W.nsIn K mainGlobals "str" = some none)
    : ∃ fd : FuncData, (∀ (s : Shared) (v : Value), BindsTo s fd ⟨[v], []⟩ [("_law_script", v)]) ∧ ∀ base : Heap, K.In base → base.Ns mainGlobals mg → FnOk P w K mg base CX0 8 fa fd ["_law_script"] (spP K arLaw) := by
  have e := hfa.symm.trans (PySem.W.mg_of X G a_law)
  cases e
  have k_Formula : Cls K CFormula := ⟨pg_Formula, hd_Formula, po_Formula, sa_Formula⟩
  have F_law_pool := fun_mk (st := s_law_pool) l_law_pool c_law_pool kp_law_pool
  have b_law_pool := F_law_pool.binds (ps := ["_law_script", "_law_k", "_law_many"]) fun _ _ _ _ _ _ us hl => match us, hl with | [_, _, _], _ => rfl
  have F_constant_of := fun_mk (st := s_constant_of) l_constant_of c_constant_of kp_constant_of
  have b_constant_of := F_constant_of.binds (ps := ["text"]) fun _ _ _ _ _ _ us hl => match us, hl with | [_], _ => rfl
  have F_decoded := fun_mk (st := s_decoded) l_decoded c_decoded kp_decoded
  have b_decoded := F_decoded.binds (ps := ["word"]) fun _ _ _ _ _ _ us hl => match us, hl with | [_], _ => rfl
  have F_Formula___init__ := fun_mk (st := s_Formula___init__) l_Formula___init__ c_Formula___init__ kp_Formula___init__
  have b_Formula___init__ := F_Formula___init__.binds (ps := ["self", "words"]) fun _ _ _ _ _ _ us hl => match us, hl with | [_, _], _ => rfl
  have F_Formula_read := fun_mk (st := s_Formula_read) l_Formula_read c_Formula_read kp_Formula_read
  have b_Formula_read := F_Formula_read.binds (ps := ["cls", "text"]) fun _ _ _ _ _ _ us hl => match us, hl with | [_, _], _ => rfl
  have F_meets := fun_mk (st := s_meets) l_meets c_meets kp_meets
  have b_meets := F_meets.binds (ps := ["sign", "one", "two"]) fun _ _ _ _ _ _ us hl => match us, hl with | [_, _, _], _ => rfl
  have F_compared := fun_mk (st := s_compared) l_compared c_compared kp_compared
  have b_compared := F_compared.binds (ps := ["word", "constant", "one", "two"]) fun _ _ _ _ _ _ us hl => match us, hl with | [_, _, _, _], _ => rfl
  have F_Formula_holds := fun_mk (st := s_Formula_holds) l_Formula_holds c_Formula_holds kp_Formula_holds
  have b_Formula_holds := F_Formula_holds.binds (ps := ["self", "row", "other"]) fun _ _ _ _ _ _ us hl => match us, hl with | [_, _, _], _ => rfl
  have F_Formula___call__ := fun_mk (st := s_Formula___call__) l_Formula___call__ c_Formula___call__ kp_Formula___call__
  have b_Formula___call__ := F_Formula___call__.binds (ps := ["self", "row", "other"]) fun _ _ _ _ _ _ us hl => match us, hl with | [_, _, _], _ => rfl
  have F_law_meets := fun_mk (st := s_law_meets) l_law_meets c_law_meets kp_law_meets
  have b_law_meets := F_law_meets.binds (ps := ["_law_sign", "_law_one", "_law_two"]) fun _ _ _ _ _ _ us hl => match us, hl with | [_, _, _], _ => rfl
  have F_law_big := fun_mk (st := s_law_big) l_law_big c_law_big kp_law_big
  have b_law_big := F_law_big.binds (ps := ["_law_one", "_law_two"]) fun _ _ _ _ _ _ us hl => match us, hl with | [_, _], _ => rfl
  have F_law_told := fun_mk (st := s_law_told) l_law_told c_law_told kp_law_told
  have b_law_told := F_law_told.binds (ps := ["_law_formula", "_law_row", "_law_other", "_law_due"]) fun _ _ _ _ _ _ us hl => match us, hl with | [_, _, _, _], _ => rfl
  have F_law := fun_mk (st := s_law) l_law c_law kp_law
  refine ⟨PySem.W.fnOf "law" "law" (defArgs s_law) (defBody s_law) (defScope s_law) .none kV_law dc_law pm_law an_law cd_law ct_law, fun s v => .of_eq rfl, fun base hb1 hb2 => ?_⟩
  have G_law_pool : Fok P w K mg base CX0 1 f_law_pool (spN K arPool) := ⟨⟨_, _, ok_law_pool F_law_pool (PySem.W.mg_none_of X G z_len) (PySem.W.mg_none_of X G z_range) (PySem.W.mg_none_of X G z_int), b_law_pool⟩, kp_law_pool⟩
  have G_constant_of : Fok P w K mg base CX0 1 f_constant_of (spP K arConst) := ⟨⟨_, _, ok_constant_of F_constant_of (PySem.W.mg_none_of X G z_len) (PySem.W.mg_none_of X G z_int), b_constant_of⟩, kp_constant_of⟩
  have G_decoded : Fok P w K mg base CX0 2 f_decoded (spP K arDec) := ⟨⟨_, _, ok_decoded F_decoded (PySem.W.mg_of X G ga_OPERANDS) (kdi_of ld_OPERANDS li_OPERANDS lw_OPERANDS lv_OPERANDS ops_look) (PySem.W.mg_none_of X G z_len) ⟨_, PySem.W.mg_of X G ga_COLUMNS⟩ ⟨_, G_constant_of, PySem.W.mg_of X G a_constant_of⟩, b_decoded⟩, kp_decoded⟩
  have G_Formula___init__ : Fok P w K mg base CX0 3 f_Formula___init__ (spI K CFormula arInit) := ⟨⟨_, _, ok_Formula___init__ F_Formula___init__ (PySem.W.mg_none_of X G z_len) (PySem.W.mg_of X G aC_Formula) ⟨ra_Formula, rb_Formula⟩ ⟨cv_Formula_MOST, ⟨_, rfl⟩⟩ (PySem.W.mg_none_of X G z_enumerate) ⟨_, G_decoded, PySem.W.mg_of X G a_decoded⟩ (PySem.W.mg_of X G ga_OPERANDS) (kdi_of ld_OPERANDS li_OPERANDS lw_OPERANDS lv_OPERANDS ops_look) (PySem.W.mg_none_of X G z_tuple) k_Formula na_Formula_words na_Formula_code, b_Formula___init__⟩, kp_Formula___init__⟩
  have G_Formula_read : Fok P w K mg base CX0 5 f_Formula_read (spP K (arRead CFormula)) := ⟨⟨_, _, ok_Formula_read F_Formula_read ⟨mm_Formula, a_Formula___init__, i_Formula___init__, mc_Formula⟩ G_Formula___init__, b_Formula_read⟩, kp_Formula_read⟩
  have G_meets : Fok P w K mg base CX0 1 f_meets (spP K arMeets) := ⟨⟨_, _, ok_meets F_meets , b_meets⟩, kp_meets⟩
  have G_compared : Fok P w K mg base CX0 2 f_compared (spP K arCompared) := ⟨⟨_, _, ok_compared F_compared ⟨_, G_meets, PySem.W.mg_of X G a_meets⟩, b_compared⟩, kp_compared⟩
  have G_Formula_holds : Fok P w K mg base CX0 3 f_Formula_holds (spP K (arHolds CFormula)) := ⟨⟨_, _, ok_Formula_holds F_Formula_holds k_Formula na_Formula_code ⟨_, G_compared, PySem.W.mg_of X G a_compared⟩, b_Formula_holds⟩, kp_Formula_holds⟩
  have G_Formula___call__ : Fok P w K mg base CX0 4 f_Formula___call__ (spP K (arHolds CFormula)) := ⟨⟨_, _, ok_Formula___call__ F_Formula___call__ G_Formula_holds ⟨a_Formula_holds, i_Formula_holds, kp_Formula_holds⟩ k_Formula, b_Formula___call__⟩, kp_Formula___call__⟩
  have G_law_meets : Fok P w K mg base CX0 1 f_law_meets (spP K arMeets) := ⟨⟨_, _, ok_law_meets F_law_meets , b_law_meets⟩, kp_law_meets⟩
  have G_law_big : Fok P w K mg base CX0 1 f_law_big (spP K arBig) := ⟨⟨_, _, ok_law_big F_law_big (PySem.W.mg_none_of X G z_int) (PySem.W.mg_none_of X G z_range), b_law_big⟩, kp_law_big⟩
  have G_law_told : Fok P w K mg base CX0 5 f_law_told (spP K (arTold CFormula)) := ⟨⟨_, _, ok_law_told F_law_told ⟨a_Formula___call__, i_Formula___call__, fi_Formula___call__⟩ G_Formula___call__ (PySem.W.mg_none_of X G z_isinstance) (PySem.W.mg_none_of X G z_bool), b_law_told⟩, kp_law_told⟩
  exact ok_law F_law ⟨_, G_law_pool, PySem.W.mg_of X G a_law_pool⟩ (PySem.W.mg_none_of X G z_int) ⟨_, G_law_big, PySem.W.mg_of X G a_law_big⟩ (PySem.W.mg_none_of X G z_tuple) (PySem.W.mg_of X G aC_Formula) G_Formula_read ⟨qa_Formula_read, ⟨_, qb_Formula_read⟩, qc_Formula_read⟩ ⟨ra_Formula, rb_Formula⟩ ⟨_, G_law_meets, PySem.W.mg_of X G a_law_meets⟩ ⟨_, G_law_told, PySem.W.mg_of X G a_law_told⟩ (PySem.W.mg_none_of X G z_str)
theorem walk {l : PySem.W.OpenLaw} {q : Program} {loose : List Str} {XP : (Str → Option Value) → Heap → Prop} {YP : World → Heap → Prop} {d : DefRec} {K : Params → PySem.W.Frag} (hn : l.most = some 63) (hdf : d.params.defaults = [])
    (hY : ∀ (w : World) (h : Heap), YP w h → (K w.params).In h)
    (F : ∀ (w : World) (mg : Str → Option Value) (fa : Addr) (h : Heap), (K w.params).In h → h.Ns mainGlobals mg → mg d.name = some (.ref fa) →
      ∃ fd : FuncData, (∀ (s : Shared) (u : Value), BindsTo s fd ⟨[u], []⟩ [("_law_script", u)]) ∧ ∀ base : Heap, (K w.params).In base → base.Ns mainGlobals mg → FnOk l.prog w (K w.params) mg base CX0 8 fa fd ["_law_script"] (spP (K w.params) arLaw)) :
    PySem.W.WalkO q loose XP YP l.row.toRowW d [] (fun f vs => PySem.call f vs) :=
  L2.walk_of (n := 63) (k := 8) (x := "_law_script") (CX := fun _ => CX0) (sp := fun w => spP (K w.params) arLaw) hn (by decide) hdf ⟨rfl, by decide, by decide⟩ hY F (fun _ _ a ns hl _ hS => law_sp ⟨ns, rfl, hl, rfl⟩ hS fun _ => rfl) fun _ _ _ _ _ z => z
end DL

open PySem PySem.W PyProof.Rows in
set_option maxRecDepth 100000 in
set_option maxHeartbeats 0 in
theorem PySem.Challenge.cw_unbettered_k03_words_of_one_column_holds : PySem.Challenge.rw_unbettered_k03_words_of_one_column.Holds := by
  w_on; o_law; k_head; (case hw => w_witness2)
  k_fill
  refine DL.walk (l := PySem.Challenge.rw_unbettered_k03_words_of_one_column) rfl rfl (fun w h Y => PySem.W.kIn_of Y) ?F
  case F =>
    intro w mg fa h KX G hmg
    refine' DL.all_mk KX G hmg ?aC_Formula ?pg_Formula ?hd_Formula ?po_Formula ?sa_Formula ?a_law_pool ?l_law_pool ?c_law_pool ?kp_law_pool ?z_len ?z_range ?z_int ?a_constant_of ?l_constant_of ?c_constant_of ?kp_constant_of ?a_decoded ?l_decoded ?c_decoded ?kp_decoded ?ga_OPERANDS ?ld_OPERANDS ?li_OPERANDS ?lw_OPERANDS ?lv_OPERANDS ?ga_COLUMNS ?a_Formula___init__ ?i_Formula___init__ ?l_Formula___init__ ?c_Formula___init__ ?kp_Formula___init__ ?ra_Formula ?rb_Formula ?cv_Formula_MOST ?z_enumerate ?z_tuple ?na_Formula_words ?na_Formula_code ?qa_Formula_read ?qb_Formula_read ?qc_Formula_read ?l_Formula_read ?c_Formula_read ?kp_Formula_read ?mm_Formula ?mc_Formula ?a_meets ?l_meets ?c_meets ?kp_meets ?a_compared ?l_compared ?c_compared ?kp_compared ?a_Formula_holds ?i_Formula_holds ?l_Formula_holds ?c_Formula_holds ?kp_Formula_holds ?a_Formula___call__ ?i_Formula___call__ ?fi_Formula___call__ ?l_Formula___call__ ?c_Formula___call__ ?kp_Formula___call__ ?a_law_meets ?l_law_meets ?c_law_meets ?kp_law_meets ?a_law_big ?l_law_big ?c_law_big ?kp_law_big ?a_law_told ?l_law_told ?c_law_told ?kp_law_told ?z_isinstance ?z_bool ?a_law ?l_law ?c_law ?kp_law ?z_str
    (case aC_Formula => k_is)
    (case pg_Formula => k_is)
    (case hd_Formula => k_is)
    (case po_Formula => k_is)
    (case sa_Formula => k_is)
    (case a_law_pool => k_is)
    (case l_law_pool => k_is)
    (case c_law_pool => k_is)
    (case kp_law_pool => k_is)
    (case z_len => k_is)
    (case z_range => k_is)
    (case z_int => k_is)
    (case a_constant_of => k_is)
    (case l_constant_of => k_is)
    (case c_constant_of => k_is)
    (case kp_constant_of => k_is)
    (case a_decoded => k_is)
    (case l_decoded => k_is)
    (case c_decoded => k_is)
    (case kp_decoded => k_is)
    (case ga_OPERANDS => k_is)
    (case ld_OPERANDS => k_is)
    (case li_OPERANDS => exact ⟨⟨_, _, rfl, rfl⟩, ⟨_, _, rfl, rfl⟩, ⟨_, _, rfl, rfl⟩, ⟨_, _, rfl, rfl⟩, ⟨_, _, rfl, rfl⟩, ⟨_, _, rfl, rfl⟩, trivial⟩)
    (case lw_OPERANDS => rfl)
    (case lv_OPERANDS => rfl)
    (case ga_COLUMNS => k_is)
    (case a_Formula___init__ => k_is)
    (case i_Formula___init__ => k_is)
    (case l_Formula___init__ => k_is)
    (case c_Formula___init__ => k_is)
    (case kp_Formula___init__ => k_is)
    (case ra_Formula => k_is)
    (case rb_Formula => k_is)
    (case cv_Formula_MOST => k_is)
    (case z_enumerate => k_is)
    (case z_tuple => k_is)
    (case na_Formula_words => k_is)
    (case na_Formula_code => k_is)
    (case qa_Formula_read => k_is)
    (case qb_Formula_read => k_is)
    (case qc_Formula_read => k_is)
    (case l_Formula_read => k_is)
    (case c_Formula_read => k_is)
    (case kp_Formula_read => k_is)
    (case mm_Formula => k_is)
    (case mc_Formula => k_is)
    (case a_meets => k_is)
    (case l_meets => k_is)
    (case c_meets => k_is)
    (case kp_meets => k_is)
    (case a_compared => k_is)
    (case l_compared => k_is)
    (case c_compared => k_is)
    (case kp_compared => k_is)
    (case a_Formula_holds => k_is)
    (case i_Formula_holds => k_is)
    (case l_Formula_holds => k_is)
    (case c_Formula_holds => k_is)
    (case kp_Formula_holds => k_is)
    (case a_Formula___call__ => k_is)
    (case i_Formula___call__ => k_is)
    (case fi_Formula___call__ => k_is)
    (case l_Formula___call__ => k_is)
    (case c_Formula___call__ => k_is)
    (case kp_Formula___call__ => k_is)
    (case a_law_meets => k_is)
    (case l_law_meets => k_is)
    (case c_law_meets => k_is)
    (case kp_law_meets => k_is)
    (case a_law_big => k_is)
    (case l_law_big => k_is)
    (case c_law_big => k_is)
    (case kp_law_big => k_is)
    (case a_law_told => k_is)
    (case l_law_told => k_is)
    (case c_law_told => k_is)
    (case kp_law_told => k_is)
    (case z_isinstance => k_is)
    (case z_bool => k_is)
    (case a_law => k_is)
    (case l_law => k_is)
    (case c_law => k_is)
    (case kp_law => k_is)
    (case z_str => k_is)
