import PyProof.Rows.All
import Wide.All
import OpenK.AllK
import Wide.FinOn
import KE.KeyNested
import KE.KDictKeyed
import KE.KDictWalk
import HandS.ForMost
import HandS.WordsExc
import HandS.Walk
import HandS.IsInst
import HandS.Wide
import HandS.More
import HandS.Star
import HandS.ClsMeth
import HandS.Property
import HandS.Style
import PyProof.StrBlock2
import HandS.Call
import KE.GoesMore
import HandS.Text
import KE.IntTextLaws
import HandS.Deep
import HandS.TupAny
import KE.KExcSuper
import KE.KExcIs
import HandS.Exc
import HandS.ExcIs
import HandS.ExcField
import HandS.TryMany
import HandS.CallSlots
import HandS.SortInts
import KE.KOpsOwn
import HandS.ExcOwn
import HandS.Comp
import HandS.DictComp
import KE.KDictList
import HandS.NoneIn
import HandS.Conv
import HandS.SlotsOwn
import HandS.FStr
import KE.KxField
import PyProof.Rows.StrOr
import PySem.Challenge.RW_unbettered_k09_keys_of_tables
set_option Elab.async false
set_option linter.all false
set_option maxRecDepth 100000
set_option maxHeartbeats 2000000
namespace DL
open PySem PySem.Spec PyProof.Rows L2

/-! ### data -/
inductive D where
  | non | bl (b : Bool) | int (i : Int) | str (s : Str) | ty (n : String) | rf (a : Addr)
  | tup (ds : List D) | lst (ds : List D) | frl (ds : List D)
  | obj (C : Addr) (ns : List Str) (ds : List D)
  | dct (ks : List NestedKey)
mutual
/-- a key as a datum -/
def dOf : NestedKey → D
  | .none => .non
  | .num i => .int i
  | .text x => .str x
  | .tup ks => .tup (dOfs ks)
def dOfs : List NestedKey → List D
  | [] => []
  | k :: ks => dOf k :: dOfs ks
end
mutual
/-- of whole numbers alone -/
def numK : NestedKey → Bool
  | .none => false
  | .num _ => true
  | .text _ => false
  | .tup ks => numKs ks
def numKs : List NestedKey → Bool
  | [] => true
  | k :: ks => numK k && numKs ks
end
/-- a frozen dict's entries: keys and True -/
structure DctOk (es : Array DictEntry) (bs : List V) (ks : List NestedKey) (as : List Addr) : Prop where
  nd : ks.Nodup
  num : ∀ k ∈ ks, numK k = true ∧ k.depth ≤ 8
  bs : bs = as.map V.ref
  len : as.length = ks.length
  es : ∀ w : World, es.toList = (ks.zip as).map fun p => (⟨p.1.hash w, .ref p.2, .bool true⟩ : DictEntry)
  lim : ks.length ≤ sizeLine

mutual
inductive Rp (K : PySem.W.Frag) (H : Hp) : V → D → Prop
  | non : Rp K H .non .non
  | bl (b : Bool) : Rp K H (.bl b) (.bl b)
  | int (i : Int) : Rp K H (.int i) (.int i)
  | str (s : Str) : Rp K H (.str s) (.str s)
  | ty (n : String) : Rp K H (.ty n) (.ty n)
  | rf (a : Addr) : Rp K H (.ref a) (.rf a)
  | tup {a : Addr} {vs : List V} {ds : List D} : SqT K H a vs → RpL K H vs ds → Rp K H (.ref a) (.tup ds)
  | lst {a : Addr} {vs : List V} {ds : List D} : H a = some (.lst vs) → RpL K H vs ds → Rp K H (.ref a) (.lst ds)
  | frl {a : Addr} {vs : List V} {ds : List D} : SqL K H a vs → RpL K H vs ds → Rp K H (.ref a) (.frl ds)
  | obj {a C dx : Addr} {fv : List (Str × V)} {ns : List Str} {ds : List D} : H a = some (.ins C dx fv) → fv.map (·.1) = ns → RpL K H (fv.map (·.2)) ds → Rp K H (.ref a) (.obj C ns ds)
  | dct {a : Addr} {es : Array DictEntry} {ep : Nat} {bs : List V} {ks : List NestedKey} {as : List Addr} : H a = some (.ext fun h => h.DictRaw a es ep) → (a == sysModules) = false → DctOk es bs ks as → RpL K H bs (dOfs ks) → Rp K H (.ref a) (.dct ks)
inductive RpL (K : PySem.W.Frag) (H : Hp) : List V → List D → Prop
  | nil : RpL K H [] []
  | cons {v : V} {vs : List V} {d : D} {ds : List D} : Rp K H v d → RpL K H vs ds → RpL K H (v :: vs) (d :: ds)
end

theorem same_t {K : PySem.W.Frag} {H H' : Hp} {a : Addr} {xs : List V} (e : Same H H') (h : SqT K H a xs) : SqT K H' a xs := by
  rcases h with (h | ⟨o, h⟩) | h
  · exact .inl (.inl (e _ _ h))
  · exact .inl (.inr ⟨o, e _ _ h⟩)
  · exact .inr h
section
variable {K : PySem.W.Frag} {H H' : Hp}
mutual
theorem Rp.mono (e : Same H H') : ∀ {v : V} {d : D}, Rp K H v d → Rp K H' v d
  | _, _, .non => .non
  | _, _, .bl b => .bl b
  | _, _, .int b => .int b
  | _, _, .str b => .str b
  | _, _, .ty b => .ty b
  | _, _, .rf b => .rf b
  | _, _, .tup h r => .tup (same_t e h) (r.mono e)
  | _, _, .lst h r => .lst (e _ _ h) (r.mono e)
  | _, _, .frl h r => .frl (e.seq h) (r.mono e)
  | _, _, .obj h n r => .obj (e _ _ h) n (r.mono e)
  | _, _, .dct h l k r => .dct (e _ _ h) l k (r.mono e)
theorem RpL.mono (e : Same H H') : ∀ {vs : List V} {ds : List D}, RpL K H vs ds → RpL K H' vs ds
  | _, _, .nil => .nil
  | _, _, .cons h r => .cons (h.mono e) (r.mono e)
end
theorem RpL.length : ∀ {vs : List V} {ds : List D}, RpL K H vs ds → vs.length = ds.length
  | _, _, .nil => rfl
  | _, _, .cons _ r => by rw [List.length_cons, List.length_cons, r.length]
theorem RpL.get : ∀ {vs : List V} {ds : List D} {i : Nat} {d : D}, RpL K H vs ds → ds[i]? = some d → ∃ v, vs[i]? = some v ∧ Rp K H v d
  | _, _, _, _, .nil, h => by simp at h
  | _, _, 0, _, .cons h _, e => by simp at e; subst e; exact ⟨_, rfl, h⟩
  | _, _, i + 1, d, .cons _ r, e => by
    obtain ⟨v, e1, q⟩ := r.get (i := i) (d := d) (by simpa using e)
    exact ⟨v, by simpa using e1, q⟩
theorem RpL.get' : ∀ {vs : List V} {ds : List D} {i : Nat} {v : V}, RpL K H vs ds → vs[i]? = some v → ∃ d, ds[i]? = some d ∧ Rp K H v d
  | _, _, _, _, .nil, h => by simp at h
  | _, _, 0, _, .cons h _, e => by simp at e; subst e; exact ⟨_, rfl, h⟩
  | _, _, i + 1, d, .cons _ r, e => by
    obtain ⟨v, e1, q⟩ := r.get' (i := i) (v := d) (by simpa using e)
    exact ⟨v, by simpa using e1, q⟩
theorem RpL.append : ∀ {vs ws : List V} {ds es : List D}, RpL K H vs ds → RpL K H ws es → RpL K H (vs ++ ws) (ds ++ es)
  | _, _, _, _, .nil, s => s
  | _, _, _, _, .cons h r, s => .cons h (r.append s)
theorem RpL.take : ∀ {vs : List V} {ds : List D} (n : Nat), RpL K H vs ds → RpL K H (vs.take n) (ds.take n)
  | _, _, 0, _ => .nil
  | _, _, _ + 1, .nil => .nil
  | _, _, n + 1, .cons h r => .cons h (r.take n)
theorem RpL.drop : ∀ {vs : List V} {ds : List D} (n : Nat), RpL K H vs ds → RpL K H (vs.drop n) (ds.drop n)
  | _, _, 0, r => r
  | _, _, _ + 1, .nil => .nil
  | _, _, n + 1, .cons _ r => r.drop n
theorem RpL.set {v : V} {d : D} (h : Rp K H v d) : ∀ {vs : List V} {ds : List D} (n : Nat), RpL K H vs ds → RpL K H (vs.set n v) (ds.set n d)
  | _, _, _, .nil => .nil
  | _, _, 0, .cons _ r => .cons h r
  | _, _, n + 1, .cons h' r => .cons h' (r.set h n)
theorem RpL.dropLast {vs : List V} {ds : List D} (r : RpL K H vs ds) : RpL K H vs.dropLast ds.dropLast := by
  rw [List.dropLast_eq_take, List.dropLast_eq_take, r.length]
  exact r.take _
theorem RpL.reverse : ∀ {vs : List V} {ds : List D}, RpL K H vs ds → RpL K H vs.reverse ds.reverse
  | _, _, .nil => .nil
  | _, _, .cons h r => by
    rw [List.reverse_cons, List.reverse_cons]
    exact r.reverse.append (.cons h .nil)
theorem RpL.ints : ∀ {vs : List V} {ns : List Int}, RpL K H vs (ns.map D.int) → vs = ns.map V.int
  | _, [], .nil => rfl
  | _, _ :: _, .cons (.int _) r => by rw [List.map_cons, ← r.ints]
theorem RpL.ofInts : ∀ (ns : List Int), RpL K H (ns.map V.int) (ns.map D.int)
  | [] => .nil
  | n :: ns => .cons (.int n) (RpL.ofInts ns)
theorem RpL.bls : ∀ {vs : List V} {ns : List Bool}, RpL K H vs (ns.map D.bl) → vs = ns.map V.bl
  | _, [], .nil => rfl
  | _, _ :: _, .cons (.bl _) r => by rw [List.map_cons, ← r.bls]
theorem RpL.strs : ∀ {vs : List V} {ns : List Str}, RpL K H vs (ns.map D.str) → vs = ns.map V.str
  | _, [], .nil => rfl
  | _, _ :: _, .cons (.str _) r => by rw [List.map_cons, ← r.strs]
theorem RpL.ofStrs : ∀ (ns : List Str), RpL K H (ns.map V.str) (ns.map D.str)
  | [] => .nil
  | n :: ns => .cons (.str n) (RpL.ofStrs ns)
end

/-! ### objects that may change -/
inductive M where
  | lst (ds : List D)
  | ins (C : Addr) (ns : List Str) (ds : List D)
  | dk (kvs : List (Key × D))
  | dct (ks : List NestedKey)
abbrev Om := List (Addr × M)
def has (O : Om) (a : Addr) : Bool := O.any fun p => p.1 == a
def vis (F : Addr → Bool) (O : Om) (H : Hp) : Hp := fun a => if (F a || has O a) = true then none else H a
theorem vis_some {F : Addr → Bool} {O : Om} {H : Hp} {a : Addr} {o : HO} : vis F O H a = some o ↔ F a = false ∧ has O a = false ∧ H a = some o := by
  unfold vis
  cases F a <;> cases has O a <;> simp
theorem vis_same {F : Addr → Bool} {O : Om} {H H' : Hp} (e : Same H H') : Same (vis F O H) (vis F O H') := fun a o h => by
  obtain ⟨h1, h2, h3⟩ := vis_some.mp h
  exact vis_some.mpr ⟨h1, h2, e _ _ h3⟩
theorem vis_le {F : Addr → Bool} {O : Om} {H : Hp} : Same (vis F O H) H := fun a o h => (vis_some.mp h).2.2
theorem has_cons {O : Om} {a b : Addr} {m : M} : has ((b, m) :: O) a = (b == a || has O a) := rfl
theorem has_mem {O : Om} {a : Addr} : has O a = true ↔ ∃ m, (a, m) ∈ O := by
  unfold has
  rw [List.any_eq_true]
  constructor
  · rintro ⟨⟨b, m⟩, h, e⟩
    have e' : b = a := by simpa using e
    exact ⟨m, e' ▸ h⟩
  · rintro ⟨m, h⟩
    exact ⟨_, h, by simp⟩

/-- what a mutable object holds -/
def MRp (K : PySem.W.Frag) (Hv H : Hp) (a : Addr) : M → Prop
  | .lst ds => ∃ vs, H a = some (.lst vs) ∧ RpL K Hv vs ds
  | .ins C ns ds => ∃ dx fv, H a = some (.ins C dx fv) ∧ fv.map (·.1) = ns ∧ RpL K Hv (fv.map (·.2)) ds
  | .dk kvs => ∃ kv : List (Key × V), H a = some (.dK kv) ∧ kv.map (·.1) = kvs.map (·.1) ∧ RpL K Hv (kv.map (·.2)) (kvs.map (·.2))
  | .dct ks => ∃ es ep bs as, H a = some (.ext fun h => h.DictRaw a es ep) ∧ (a == sysModules) = false ∧ DctOk es bs ks as ∧ RpL K Hv bs (dOfs ks)
theorem MRp.some {K : PySem.W.Frag} {Hv H : Hp} {a : Addr} : ∀ {m : M}, MRp K Hv H a m → ∃ o, H a = Option.some o
  | .lst _, ⟨_, h, _⟩ => ⟨_, h⟩
  | .ins _ _ _, ⟨_, _, h, _⟩ => ⟨_, h⟩
  | .dk _, ⟨_, h, _⟩ => ⟨_, h⟩
  | .dct _, ⟨_, _, _, _, h, _⟩ => ⟨_, h⟩
theorem MRp.mono {K : PySem.W.Frag} {Hv Hv' H H' : Hp} {a : Addr} (e : Same Hv Hv') (eh : ∀ o, H a = Option.some o → H' a = Option.some o) : ∀ {m : M}, MRp K Hv H a m → MRp K Hv' H' a m
  | .lst _, ⟨vs, h, r⟩ => ⟨vs, eh _ h, r.mono e⟩
  | .ins _ _ _, ⟨dx, fv, h, n, r⟩ => ⟨dx, fv, eh _ h, n, r.mono e⟩
  | .dk _, ⟨kv, h, n, r⟩ => ⟨kv, eh _ h, n, r.mono e⟩
  | .dct _, ⟨es, ep, bs, as, h, l, k, r⟩ => ⟨es, ep, bs, as, eh _ h, l, k, r.mono e⟩

/-- the ground of a def's run: the frame's objects (hidden), the heap at entry that has to stand, what is wanted of an error, the frame's mutables that may be read -/
structure Gd where
  F : Addr → Bool
  Hb : Hp
  W : Value → Option Addr → L2.St → Hp → Prop
  L : Om
  ok : ∀ a, F a = true → ∃ o, Hb a = some o
  lF : ∀ a m, (a, m) ∈ L → F a = true

structure MOk (K : PySem.W.Frag) (B : Gd) (O : Om) (H : Hp) : Prop where
  base : ∀ a o, B.Hb a = some o → H a = some o ∧ has O a = false
  mem : ∀ a m, (a, m) ∈ O → MRp K (vis B.F O H) H a m
  nd : (O.map (·.1)).Nodup
  lent : ∀ a m, (a, m) ∈ B.L → MRp K (vis B.F O H) H a m
def EnvR (K : PySem.W.Frag) (Hv : Hp) (σ : L2.St) (ρ : List (Option D)) : Prop := σ.length = ρ.length ∧ ∀ (i : Nat) (d : D), ρ[i]? = some (some d) → ∃ v, σ[i]? = some (some v) ∧ Rp K Hv v d
structure StOk (K : PySem.W.Frag) (B : Gd) (ρ : List (Option D)) (O : Om) (σ : L2.St) (H : Hp) : Prop where
  m : MOk K B O H
  env : EnvR K (vis B.F O H) σ ρ
section
variable {K : PySem.W.Frag} {B : Gd} {ρ : List (Option D)} {O : Om} {σ : L2.St} {H H' : Hp}
theorem MOk.same (h : MOk K B O H) (e : Same H H') : MOk K B O H' :=
  ⟨fun a o q => ⟨e _ _ (h.base a o q).1, (h.base a o q).2⟩, fun a m q => (h.mem a m q).mono (vis_same e) (fun o q => e _ _ q), h.nd, fun a m q => (h.lent a m q).mono (vis_same e) (fun o q => e _ _ q)⟩
theorem EnvR.mono {Hv Hv' : Hp} (h : EnvR K Hv σ ρ) (e : Same Hv Hv') : EnvR K Hv' σ ρ := ⟨h.1, fun i d q => let ⟨v, a, b⟩ := h.2 i d q; ⟨v, a, b.mono e⟩⟩
theorem StOk.same (h : StOk K B ρ O σ H) (e : Same H H') : StOk K B ρ O σ H' := ⟨h.m.same e, h.env.mono (vis_same e)⟩
/-- a new address is neither the frame's nor a mutable's -/
theorem MOk.newF (h : MOk K B O H) {p : Addr} (hp : H p = none) : B.F p = false := by
  cases q : B.F p with
  | false => rfl
  | true =>
    obtain ⟨o, e⟩ := B.ok p q
    have := (h.base p o e).1
    rw [hp] at this; cases this
theorem MOk.newO (h : MOk K B O H) {p : Addr} (hp : H p = none) : has O p = false := by
  cases q : has O p with
  | false => rfl
  | true =>
    obtain ⟨m, e⟩ := has_mem.mp q
    obtain ⟨o, e'⟩ := (h.mem p m e).some
    rw [hp] at e'; cases e'
theorem same_new {p : Addr} {o : HO} (hp : H p = none) : Same H (upd H p o) := fun a u e => by
  rw [upd_ne (ne_of_none e hp)]; exact e
theorem MOk.visNew (h : MOk K B O H) {p : Addr} {o : HO} (hp : H p = none) : vis B.F O (upd H p o) p = some o := vis_some.mpr ⟨h.newF hp, h.newO hp, upd_same⟩
/-- a slot is set -/
theorem EnvR.set {Hv : Hp} (h : EnvR K Hv σ ρ) {i : Nat} {v : V} {d : D} (r : Rp K Hv v d) : EnvR K Hv (σ.set i (some v)) (ρ.set i (some d)) := by
  refine ⟨by simp [h.1], fun j d' e => ?_⟩
  by_cases hj : i = j
  · subst hj
    have hl : i < ρ.length := by
      have := (List.getElem?_eq_some_iff.mp e).1
      simpa using this
    rw [List.getElem?_set_self hl] at e
    cases e
    exact ⟨v, by rw [List.getElem?_set_self (by rw [h.1]; exact hl)], r⟩
  · rw [List.getElem?_set_ne hj] at e
    obtain ⟨v', a, b⟩ := h.2 j d' e
    exact ⟨v', by rw [List.getElem?_set_ne hj]; exact a, b⟩
theorem StOk.set (h : StOk K B ρ O σ H) {i : Nat} {v : V} {d : D} (r : Rp K (vis B.F O H) v d) : StOk K B (ρ.set i (some d)) O (σ.set i (some v)) H := ⟨h.m, h.env.set r⟩
/-- slots forgotten -/
def Wk (ρ ρ' : List (Option D)) : Prop := ρ.length = ρ'.length ∧ ∀ (i : Nat) (d : D), ρ[i]? = some (some d) → ρ'[i]? = some (some d)
theorem StOk.weak {ρ' : List (Option D)} (h : StOk K B ρ' O σ H) (w : Wk ρ ρ') : StOk K B ρ O σ H := ⟨h.m, h.env.1.trans w.1.symm, fun i d e => h.env.2 i d (w.2 i d e)⟩
end

/-! ### judgements -/
def tD (K : PySem.W.Frag) (B : Gd) (ρ : List (Option D)) (O : Om) (d : D) : TE := fun σ H Q => StOk K B ρ O σ H ∧ ∀ v H', Same H H' → Rp K (vis B.F O H') v d → Q v H'
/-- a new list | tuple, nobody else's -/
def tN (K : PySem.W.Frag) (B : Gd) (ρ : List (Option D)) (O : Om) (ds : List D) : TE := fun σ H Q => StOk K B ρ O σ H ∧
  ∀ p H' vs, H p = none → Same H H' → H' p = some (.lst vs) → RpL K (vis B.F ((p, .lst ds) :: O) H') vs ds → Q (.ref p) H'
def tT (K : PySem.W.Frag) (B : Gd) (ρ : List (Option D)) (O : Om) (b : Bool) : TT := fun σ H Q => StOk K B ρ O σ H ∧ ∀ H', Same H H' → Q b H'
def tA (K : PySem.W.Frag) (B : Gd) (ρ : List (Option D)) (O : Om) (ds : List D) : TA := fun σ H Q => StOk K B ρ O σ H ∧ ∀ vs H', Same H H' → RpL K (vis B.F O H') vs ds → Q vs H'
abbrev EV (X : Cx) (B : Gd) (ρ : List (Option D)) (O : Om) (e : Expr) (d : D) : Prop := PE X e (tD X.K B ρ O d)
abbrev EN (X : Cx) (B : Gd) (ρ : List (Option D)) (O : Om) (e : Expr) (ds : List D) : Prop := PE X e (tN X.K B ρ O ds)
abbrev ET (X : Cx) (B : Gd) (ρ : List (Option D)) (O : Om) (e : Expr) (b : Bool) : Prop := PT X e (tT X.K B ρ O b)
abbrev EW (X : Cx) (B : Gd) (ρ : List (Option D)) (O : Om) (e : Expr) (b : Bool) : Prop := PW X e (tT X.K B ρ O b)
abbrev EA (X : Cx) (B : Gd) (ρ : List (Option D)) (O : Om) (es : List Expr) (ds : List D) : Prop := PA X es (tA X.K B ρ O ds)
theorem pe_imp {X : Cx} {e : Expr} {t t' : TE} (h : PE X e t) (w : ∀ σ H Q, t' σ H Q → t σ H Q) : PE X e t' := ⟨fun pins s σ H Q I q => h.run pins s σ H Q I (w σ H Q q)⟩
theorem pt_imp {X : Cx} {e : Expr} {t t' : TT} (h : PT X e t) (w : ∀ σ H Q, t' σ H Q → t σ H Q) : PT X e t' := ⟨fun pins s σ H Q I q => h.run pins s σ H Q I (w σ H Q q)⟩
theorem pw_imp {X : Cx} {e : Expr} {t t' : TT} (h : PW X e t) (w : ∀ σ H Q, t' σ H Q → t σ H Q) : PW X e t' := ⟨fun wh pins s σ H Q I q => h.run wh pins s σ H Q I (w σ H Q q)⟩
theorem pa_imp {X : Cx} {es : List Expr} {t t' : TA} (h : PA X es t) (w : ∀ σ H Q, t' σ H Q → t σ H Q) : PA X es t' := ⟨fun p pins s σ H Q I q => h.run p pins s σ H Q I (w σ H Q q)⟩
theorem ps_imp {X : Cx} {st : Stmt} {t t' : TS} (h : PS X st t) (w : ∀ Dn σ H, t' Dn σ H → t Dn σ H) : PS X st t' := ⟨fun pins s σ H Dn I q => h.run pins s σ H Dn I (w Dn σ H q)⟩
theorem pss_imp {X : Cx} {st : List Stmt} {t t' : TS} (h : PSs X st t) (w : ∀ Dn σ H, t' Dn σ H → t Dn σ H) : PSs X st t' := ⟨fun pins s σ H Dn I q => h.run pins s σ H Dn I (w Dn σ H q)⟩

section
variable {X : Cx} {B : Gd} {ρ : List (Option D)} {O : Om} {a b c e : Expr} {es : List Expr} {d d1 d2 d3 : D} {ds : List D} {pos : Pos} {b1 b2 : Bool}
/-! ### names, constants -/
theorem ev_name {i : Nat} {x : Str} (hN : X.N[i]? = some x) (hv : Vis X.env.scope x) (hd : ρ[i]? = some (some d)) (h1 : (x == ("__debug__" : Str)) = false) (h2 : (x == ("__classdict__" : Str)) = false) : EV X B ρ O (.Name x pos) d :=
  pe_imp (pe_var hN hv h1 h2) fun σ H Q ⟨st, k⟩ => by
    obtain ⟨v, e, r⟩ := st.env.2 i d hd
    exact ⟨v, e, k v H (Same.refl H) r⟩
theorem ev_const {v : V} (h : PE X e (tC v)) (r : ∀ K H, Rp K H v d) : EV X B ρ O e d := pe_imp h fun σ H Q ⟨st, k⟩ => k v H (Same.refl H) (r _ _)
theorem ev_int {i : Int} {j} : EV X B ρ O (.Constant (.int i) j pos) (.int i) := ev_const pe_int fun _ _ => .int i
theorem ev_str {i : Str} {j} : EV X B ρ O (.Constant (.str i) j pos) (.str i) := ev_const pe_str fun _ _ => .str i
theorem ev_bl {i : Bool} {j} : EV X B ρ O (.Constant (.bool i) j pos) (.bl i) := ev_const pe_bl fun _ _ => .bl i
theorem ev_non {j} : EV X B ρ O (.Constant .none j pos) .non := ev_const pe_non fun _ _ => .non
/-- a written thing of the module -/
theorem ev_glob {x : Str} {v : V} {u : Value} (hg : Gl X x) (hm : X.mg x = some u) (r : RelV v u) (rp : ∀ H, Rp X.K H v d) (hd : (x == ("__debug__" : Str)) = false := by decide) : EV X B ρ O (.Name x pos) d :=
  pe_imp (pe_glob hg hm r hd) fun σ H Q ⟨st, k⟩ => k v H (Same.refl H) (rp _)

/-! ### two operands -/
def RD (K : PySem.W.Frag) (B : Gd) (O : Om) (r : R2) (d1 d2 d : D) : Prop :=
  ∀ (x y : V) (H : Hp) (Q : VK), MOk K B O H → Rp K (vis B.F O H) x d1 → Rp K (vis B.F O H) y d2 → (∀ v H', Same H H' → Rp K (vis B.F O H') v d → Q v H') → r x y H Q
theorem two {r : R2} (hr : RD X.K B O r d1 d2 d) (σ : L2.St) (H : Hp) (Q : VK) (h : tD X.K B ρ O d σ H Q) : tOp r (tD X.K B ρ O d1) (tD X.K B ρ O d2) σ H Q := by
  obtain ⟨st, k⟩ := h
  refine ⟨st, fun x H1 e1 r1 => ⟨st.same e1, fun y H2 e2 r2 => ?_⟩⟩
  exact hr x y H2 Q ((st.same e1).same e2).m (r1.mono (vis_same e2)) r2 fun v H' e3 r3 => k v H' ((e1.trans e2).trans e3) r3
theorem ev_op {op : Operator} {r : R2} (ho : OpR X (binaryOp op) r) (hr : RD X.K B O r d1 d2 d) (ha : EV X B ρ O a d1) (hb : EV X B ρ O b d2) : EV X B ρ O (.BinOp a op b pos) d := pe_imp (pe_op ho ha hb) (two hr)
theorem ev_cmp {op : CmpOp} {r : R2} (ho : OpR X (compareOp op) r) (hr : RD X.K B O r d1 d2 d) (ha : EV X B ρ O a d1) (hb : EV X B ρ O b d2) (hm : behindInMarks op b = false) : EV X B ρ O (.Compare a [op] [b] pos) d := pe_imp (pe_cmpR ho ha hb hm) (two hr)
theorem et_of (h : EV X B ρ O e (.bl b1)) (he : ∀ whole, isTrue e X.env whole = (do let v ← whole; standAt e.pos; holding [v] (truthy v)) := by intro _; rfl) : ET X B ρ O e b1 :=
  pt_imp (pt_val h he) fun σ H Q ⟨st, k⟩ => ⟨st, fun v H1 e1 r1 => by cases r1; exact ⟨b1, rfl, k H1 e1⟩⟩
theorem et_cmp {op : CmpOp} {r : R2} (ho : OpR X (compareOp op) r) (hr : RD X.K B O r d1 d2 (.bl b1)) (ha : EV X B ρ O a d1) (hb : EV X B ρ O b d2) (hm : behindInMarks op b = false) : ET X B ρ O (.Compare a [op] [b] pos) b1 :=
  pt_imp (pt_cmpR ho ha hb hm) fun σ H Q ⟨st, k⟩ => two (ρ := ρ) hr σ H _ ⟨st, fun v H1 e1 r1 => by cases r1; exact ⟨b1, rfl, k H1 e1⟩⟩
theorem rd_I0 {g : Int → Int → Int} {i j : Int} {K : PySem.W.Frag} : RD K B O (rI0 fun i j => .int (g i j)) (.int i) (.int j) (.int (g i j)) := fun x y H Q m r1 r2 k => by
  cases r1; cases r2; exact ⟨i, j, rfl, rfl, k _ H (Same.refl H) (.int _)⟩
theorem rd_B0 {g : Int → Int → Bool} {i j : Int} {K : PySem.W.Frag} : RD K B O (rI0 fun i j => .bl (g i j)) (.int i) (.int j) (.bl (g i j)) := fun x y H Q m r1 r2 k => by
  cases r1; cases r2; exact ⟨i, j, rfl, rfl, k _ H (Same.refl H) (.bl _)⟩
theorem rd_I {C : Int → Int → Prop} {g : Int → Int → Int} {i j : Int} {K : PySem.W.Frag} (hc : C i j) : RD K B O (rI C fun i j => .int (g i j)) (.int i) (.int j) (.int (g i j)) := fun x y H Q m r1 r2 k => by
  cases r1; cases r2; exact ⟨i, j, rfl, rfl, hc, k _ H (Same.refl H) (.int _)⟩
/-- == of scalars of one kind -/
def scalD : D → V
  | .non => .non | .bl b => .bl b | .int i => .int i | .str s => .str s | .ty n => .ty n | .rf a => .ref a | _ => .flt 0
def isScal : D → Bool
  | .non | .bl _ | .int _ | .str _ | .ty _ | .rf _ => true
  | _ => false
theorem rp_scal {K : PySem.W.Frag} {H : Hp} {v : V} (h : Rp K H v d) (hs : isScal d = true) : v = scalD d := by
  cases h <;> first | rfl | cases hs
theorem rd_eq {K : PySem.W.Frag} (h1 : isScal d1 = true) (h2 : isScal d2 = true) (hs : scal (scalD d1) (scalD d2) = true) : RD K B O rEq d1 d2 (.bl (decide (scalD d1 = scalD d2))) := fun x y H Q m r1 r2 k => by
  rw [rp_scal r1 h1, rp_scal r2 h2]
  exact ⟨hs, k _ H (Same.refl H) (.bl _)⟩
theorem rd_ne {K : PySem.W.Frag} (h1 : isScal d1 = true) (h2 : isScal d2 = true) (hs : scal (scalD d1) (scalD d2) = true) : RD K B O rNe d1 d2 (.bl (!decide (scalD d1 = scalD d2))) := fun x y H Q m r1 r2 k => by
  rw [rp_scal r1 h1, rp_scal r2 h2]
  exact ⟨hs, k _ H (Same.refl H) (.bl _)⟩
theorem rd_imp {K : PySem.W.Frag} {r : R2} {d d' : D} (h : RD K B O r d1 d2 d) (e : d = d') : RD K B O r d1 d2 d' := e ▸ h
theorem rd_eqI {K : PySem.W.Frag} {i j : Int} : RD K B O rEq (.int i) (.int j) (.bl (decide (i = j))) := rd_imp (rd_eq rfl rfl rfl) (by simp [scalD])
theorem rd_neI {K : PySem.W.Frag} {i j : Int} : RD K B O rNe (.int i) (.int j) (.bl (!decide (i = j))) := rd_imp (rd_ne rfl rfl rfl) (by simp [scalD])
theorem rd_eqS {K : PySem.W.Frag} {i j : Str} : RD K B O rEq (.str i) (.str j) (.bl (decide (i = j))) := rd_imp (rd_eq rfl rfl rfl) (by simp [scalD])
theorem rd_neS {K : PySem.W.Frag} {i j : Str} : RD K B O rNe (.str i) (.str j) (.bl (!decide (i = j))) := rd_imp (rd_ne rfl rfl rfl) (by simp [scalD])
theorem rd_eqB {K : PySem.W.Frag} {i j : Bool} : RD K B O rEq (.bl i) (.bl j) (.bl (decide (i = j))) := rd_imp (rd_eq rfl rfl rfl) (by simp [scalD])
theorem rd_neB {K : PySem.W.Frag} {i j : Bool} : RD K B O rNe (.bl i) (.bl j) (.bl (!decide (i = j))) := rd_imp (rd_ne rfl rfl rfl) (by simp [scalD])
theorem rd_addS {K : PySem.W.Frag} {i j : Str} (hz : i.length + j.length ≤ sizeLine) : RD K B O (fun x y H Q => ∃ i j, x = .str i ∧ y = .str j ∧ i.length + j.length ≤ sizeLine ∧ Q (.str (i ++ j)) H) (.str i) (.str j) (.str (i ++ j)) := fun x y H Q m r1 r2 k => by
  cases r1; cases r2; exact ⟨i, j, rfl, rfl, hz, k _ H (Same.refl H) (.str _)⟩
theorem ev_neg {i : Int} (ha : EV X B ρ O a (.int i)) : EV X B ρ O (.UnaryOp .USub a pos) (.int (-i)) := pe_imp (pe_un un_neg ha) fun σ H Q ⟨st, k⟩ => ⟨st, fun v H1 e1 r1 => by cases r1; exact ⟨i, rfl, k _ H1 e1 (.int _)⟩⟩

/-! ### and, or, not, if -/
theorem et_not (h : ET X B ρ O a b1) : ET X B ρ O (.UnaryOp .Not a pos) (!b1) := pt_imp (pt_not h) fun σ H Q ⟨st, k⟩ => ⟨st, fun H1 e1 => k H1 e1⟩
theorem ev_not (h : EV X B ρ O a (.bl b1)) : EV X B ρ O (.UnaryOp .Not a pos) (.bl (!b1)) := pe_imp (pe_not h) fun σ H Q ⟨st, k⟩ => ⟨st, fun v H1 e1 r1 => by cases r1; exact ⟨b1, rfl, k _ H1 e1 (.bl _)⟩⟩
theorem ew_and1 (h : ET X B ρ O a b1) : EW X B ρ O (.BoolOp .And [a] pos) b1 := pw_and1 h
theorem ew_or1 (h : ET X B ρ O a b1) : EW X B ρ O (.BoolOp .Or [a] pos) b1 := pw_or1 h
theorem ew_and (h1 : ET X B ρ O a b1) (h2 : b1 = true → EW X B ρ O (.BoolOp .And (b :: es) pos) b2) : EW X B ρ O (.BoolOp .And (a :: b :: es) pos) (b1 && b2) := by
  cases b1 with
  | true => exact pw_imp (pw_and h1 (h2 rfl)) fun σ H Q ⟨st, k⟩ => ⟨st, fun H1 e1 => iteT ⟨st.same e1, fun H2 e2 => k H2 (e1.trans e2)⟩⟩
  | false => exact pw_imp (pw_and h1 (tB' := fun _ _ _ => False) ⟨fun _ _ _ _ _ _ _ h => h.elim⟩) fun σ H Q ⟨st, k⟩ => ⟨st, fun H1 e1 => iteF (k H1 e1)⟩
theorem ew_or (h1 : ET X B ρ O a b1) (h2 : b1 = false → EW X B ρ O (.BoolOp .Or (b :: es) pos) b2) : EW X B ρ O (.BoolOp .Or (a :: b :: es) pos) (b1 || b2) := by
  cases b1 with
  | false => exact pw_imp (pw_or h1 (h2 rfl)) fun σ H Q ⟨st, k⟩ => ⟨st, fun H1 e1 => iteF ⟨st.same e1, fun H2 e2 => k H2 (e1.trans e2)⟩⟩
  | true => exact pw_imp (pw_or h1 (tB' := fun _ _ _ => False) ⟨fun _ _ _ _ _ _ _ h => h.elim⟩) fun σ H Q ⟨st, k⟩ => ⟨st, fun H1 e1 => iteT (k H1 e1)⟩
theorem et_w (h : EW X B ρ O e b1) : ET X B ρ O e b1 := PW.pt h
theorem ev_one {op} (h : EV X B ρ O a d) : EV X B ρ O (.BoolOp op [a] pos) d := pe_one h
theorem ev_and (h1 : EV X B ρ O a (.bl b1)) (h2 : b1 = true → EV X B ρ O (.BoolOp .And (b :: es) pos) (.bl b2)) : EV X B ρ O (.BoolOp .And (a :: b :: es) pos) (.bl (b1 && b2)) := by
  cases b1 with
  | true => exact pe_imp (pe_and h1 (h2 rfl)) fun σ H Q ⟨st, k⟩ => ⟨st, fun v H1 e1 r1 => by cases r1; exact ⟨true, rfl, iteT ⟨st.same e1, fun w H2 e2 r2 => k w H2 (e1.trans e2) r2⟩⟩⟩
  | false => exact pe_imp (pe_and h1 (tb := fun _ _ _ => False) ⟨fun _ _ _ _ _ _ h => h.elim⟩) fun σ H Q ⟨st, k⟩ => ⟨st, fun v H1 e1 r1 => by cases r1; exact ⟨false, rfl, iteF (k _ H1 e1 (.bl _))⟩⟩
theorem ev_or (h1 : EV X B ρ O a (.bl b1)) (h2 : b1 = false → EV X B ρ O (.BoolOp .Or (b :: es) pos) (.bl b2)) : EV X B ρ O (.BoolOp .Or (a :: b :: es) pos) (.bl (b1 || b2)) := by
  cases b1 with
  | false => exact pe_imp (pe_or h1 (h2 rfl)) fun σ H Q ⟨st, k⟩ => ⟨st, fun v H1 e1 r1 => by cases r1; exact ⟨false, rfl, iteF ⟨st.same e1, fun w H2 e2 r2 => k w H2 (e1.trans e2) r2⟩⟩⟩
  | true => exact pe_imp (pe_or h1 (tb := fun _ _ _ => False) ⟨fun _ _ _ _ _ _ h => h.elim⟩) fun σ H Q ⟨st, k⟩ => ⟨st, fun v H1 e1 r1 => by cases r1; exact ⟨true, rfl, iteT (k _ H1 e1 (.bl _))⟩⟩
theorem ev_if (hc : ET X B ρ O c b1) (ha : b1 = true → EV X B ρ O a d) (hb : b1 = false → EV X B ρ O b d) : EV X B ρ O (.IfExp c a b pos) d := by
  cases b1 with
  | true => exact pe_imp (pe_ifExp hc (ha rfl) (tb := fun _ _ _ => False) ⟨fun _ _ _ _ _ _ h => h.elim⟩) fun σ H Q ⟨st, k⟩ => ⟨st, fun H1 e1 => iteT ⟨st.same e1, fun w H2 e2 r2 => k w H2 (e1.trans e2) r2⟩⟩
  | false => exact pe_imp (pe_ifExp hc (ta := fun _ _ _ => False) ⟨fun _ _ _ _ _ _ h => h.elim⟩ (hb rfl)) fun σ H Q ⟨st, k⟩ => ⟨st, fun H1 e1 => iteF ⟨st.same e1, fun w H2 e2 r2 => k w H2 (e1.trans e2) r2⟩⟩

/-! ### arguments, displays -/
theorem ea_nil : EA X B ρ O [] [] := pa_imp pa_nil fun σ H Q ⟨st, k⟩ => k [] H (Same.refl H) .nil
theorem ea_cons (ha : EV X B ρ O e d) (hr : EA X B ρ O es ds) (hs : starEach (e :: es) X.env = (false, eval e X.env) :: starEach es X.env := by rfl) : EA X B ρ O (e :: es) (d :: ds) :=
  pa_imp (pa_cons ha hr hs) fun σ H Q ⟨st, k⟩ => ⟨st, fun v H1 e1 r1 => ⟨st.same e1, fun vs H2 e2 r2 => k (v :: vs) H2 (e1.trans e2) (.cons (r1.mono (vis_same e2)) r2)⟩⟩
theorem ev_tup {x1} (h : EA X B ρ O es ds) (hz : ds.length ≤ sizeLine) : EV X B ρ O (.Tuple es x1 pos) (.tup ds) :=
  pe_imp (pe_tup h) fun σ H Q ⟨st, k⟩ => ⟨st, fun vs H1 e1 r1 => ⟨by rw [r1.length]; exact hz, fun p hp =>
    k (.ref p) _ (e1.trans (same_new hp)) (.tup (.inl (.inl ((st.same e1).m.visNew hp))) (r1.mono (vis_same (same_new hp))))⟩⟩
/-- a new list's place: nobody's yet -/
theorem new_vis {K : PySem.W.Frag} {H : Hp} (m : MOk K B O H) {p : Addr} {o : HO} (hp : H p = none) {vs : List V} (r : RpL K (vis B.F O H) vs ds) (mm : M) : RpL K (vis B.F ((p, mm) :: O) (upd H p o)) vs ds := r.mono fun a u h => by
  obtain ⟨h1, h2, h3⟩ := vis_some.mp h
  have ne : a ≠ p := ne_of_none h3 hp
  exact vis_some.mpr ⟨h1, by rw [has_cons, h2, Bool.or_false]; exact beq_eq_false_iff_ne.mpr (Ne.symm ne), by rw [upd_ne ne]; exact h3⟩
theorem en_lst (h : EA X B ρ O es ds) (hz : ds.length ≤ sizeLine) : EN X B ρ O (.List es pos) ds :=
  pe_imp (pe_lst h) fun σ H Q ⟨st, k⟩ => ⟨st, fun vs H1 e1 r1 => ⟨by rw [r1.length]; exact hz, fun p hp =>
    k p _ vs (e1.free hp) (e1.trans (same_new hp)) upd_same (new_vis (st.same e1).m hp r1 _)⟩⟩
/-- a new list as a value that stays -/
theorem ev_new (h : EN X B ρ O e ds) : EV X B ρ O e (.lst ds) := pe_imp h fun σ H Q ⟨st, k⟩ => ⟨st, fun p H' vs hp e1 hv r => by
  have fp := st.m.newF hp
  have op := st.m.newO hp
  refine k _ H' e1 (.lst (vis_some.mpr ⟨fp, op, hv⟩) (r.mono fun a o h => ?_))
  obtain ⟨h1, h2, h3⟩ := vis_some.mp h
  rw [has_cons, Bool.or_eq_false_iff] at h2
  exact vis_some.mpr ⟨h1, h2.2, h3⟩⟩
theorem ev_lst (h : EA X B ρ O es ds) (hz : ds.length ≤ sizeLine) : EV X B ρ O (.List es pos) (.lst ds) := ev_new (en_lst h hz)
end
end DL

set_option Elab.async false
set_option linter.all false
set_option maxRecDepth 100000
set_option maxHeartbeats 2000000
namespace DL
open PySem PySem.Spec PyProof.Rows L2

/-! ### statements -/
structure AE where
  nx : List (Option D) → Om → Prop
  rt : D → Om → Prop
  bk : List (Option D) → Om → Prop := fun _ _ => False
  ct : List (Option D) → Om → Prop := fun _ _ => False
  ex : Addr → Str → D → List (Option D) → Om → Prop := fun _ _ _ _ _ => False
structure Post (K : PySem.W.Frag) (B : Gd) (A : AE) (Dn : Ends) (Hv : Hp) : Prop where
  nx : ∀ ρ O σ H, A.nx ρ O → StOk K B ρ O σ H → Same Hv (vis B.F O H) → Dn.nx σ H
  rt : ∀ d O v H, A.rt d O → MOk K B O H → Rp K (vis B.F O H) v d → Dn.rt v H
  bk : ∀ ρ O σ H, A.bk ρ O → StOk K B ρ O σ H → Same Hv (vis B.F O H) → Dn.bk σ H
  ct : ∀ ρ O σ H, A.ct ρ O → StOk K B ρ O σ H → Same Hv (vis B.F O H) → Dn.ct σ H
  ex : ∀ C f d ρ O σ H dx v, A.ex C f d ρ O → StOk K B ρ O σ H → Same Hv (vis B.F O H) → H dx = some (.xd [(f, v)]) → has O dx = false → Rp K (vis B.F O H) v d → B.W (.ref C) (some dx) σ H
theorem Post.grow {K : PySem.W.Frag} {B : Gd} {A : AE} {Dn : Ends} {Hv Hv' : Hp} (p : Post K B A Dn Hv) (e : Same Hv Hv') : Post K B A Dn Hv' :=
  ⟨fun ρ O σ H a s q => p.nx ρ O σ H a s (e.trans q), p.rt, fun ρ O σ H a s q => p.bk ρ O σ H a s (e.trans q), fun ρ O σ H a s q => p.ct ρ O σ H a s (e.trans q), fun C f d ρ O σ H dx v a s q => p.ex C f d ρ O σ H dx v a s (e.trans q)⟩
def tW (K : PySem.W.Frag) (B : Gd) (ρ : List (Option D)) (O : Om) (A : AE) : TS := fun Dn σ H => StOk K B ρ O σ H ∧ Post K B A Dn (vis B.F O H)
abbrev J (X : Cx) (B : Gd) (ss : List Stmt) (ρ : List (Option D)) (O : Om) (A : AE) : Prop := PSs X ss (tW X.K B ρ O A)
abbrev J1 (X : Cx) (B : Gd) (st : Stmt) (ρ : List (Option D)) (O : Om) (A : AE) : Prop := PS X st (tW X.K B ρ O A)

/-- effects: an expression that changes what is held -/
def tG (K : PySem.W.Frag) (B : Gd) (ρ : List (Option D)) (O : Om) (d : D) (O' : Om) : TE := fun σ H Q => StOk K B ρ O σ H ∧ ∀ v H', StOk K B ρ O' σ H' → Same (vis B.F O H) (vis B.F O' H') → Rp K (vis B.F O' H') v d → Q v H'
def tGA (K : PySem.W.Frag) (B : Gd) (ρ : List (Option D)) (O : Om) (ds : List D) (O' : Om) : TA := fun σ H Q => StOk K B ρ O σ H ∧ ∀ vs H', StOk K B ρ O' σ H' → Same (vis B.F O H) (vis B.F O' H') → RpL K (vis B.F O' H') vs ds → Q vs H'
abbrev EG (X : Cx) (B : Gd) (ρ : List (Option D)) (O : Om) (e : Expr) (d : D) (O' : Om) : Prop := PE X e (tG X.K B ρ O d O')
abbrev EGA (X : Cx) (B : Gd) (ρ : List (Option D)) (O : Om) (es : List Expr) (ds : List D) (O' : Om) : Prop := PA X es (tGA X.K B ρ O ds O')

section
variable {X : Cx} {B : Gd} {ρ ρ' : List (Option D)} {O O' O1 O2 : Om} {A : AE} {a b c e : Expr} {es : List Expr} {d d1 d2 d3 : D} {ds : List D} {pos pos' : Pos} {b1 b2 : Bool} {st : Stmt} {ss rest : List Stmt}
theorem eg_of (h : EV X B ρ O e d) : EG X B ρ O e d O := pe_imp h fun σ H Q ⟨st, k⟩ => ⟨st, fun v H1 e1 r1 => k v H1 (st.same e1) (vis_same e1) r1⟩
theorem ega_of (h : EA X B ρ O es ds) : EGA X B ρ O es ds O := pa_imp h fun σ H Q ⟨st, k⟩ => ⟨st, fun v H1 e1 r1 => k v H1 (st.same e1) (vis_same e1) r1⟩
theorem ega_nil : EGA X B ρ O [] [] O := ega_of ea_nil
theorem ega_cons (ha : EG X B ρ O e d O1) (hr : EGA X B ρ O1 es ds O2) (hs : starEach (e :: es) X.env = (false, eval e X.env) :: starEach es X.env := by rfl) : EGA X B ρ O (e :: es) (d :: ds) O2 :=
  pa_imp (pa_cons ha hr hs) fun σ H Q ⟨st, k⟩ => ⟨st, fun v H1 s1 e1 r1 => ⟨s1, fun vs H2 s2 e2 r2 => k (v :: vs) H2 s2 (e1.trans e2) (.cons (r1.mono e2) r2)⟩⟩

theorem j_nil (h : A.nx ρ O) : J X B [] ρ O A := pss_imp pss_nil fun Dn σ H ⟨st, p⟩ => p.nx ρ O σ H h st (Same.refl _)
theorem j_cons (h : J1 X B st ρ O { A with nx := fun ρ' O' => J X B rest ρ' O' A }) : J X B (st :: rest) ρ O A := by
  have h2 : PSs X rest (fun Dn σ H => ∃ ρ' O', J X B rest ρ' O' A ∧ StOk X.K B ρ' O' σ H ∧ Post X.K B A Dn (vis B.F O' H)) :=
    ⟨fun pins s σ H Dn I ⟨ρ', O', q, s', p⟩ => q.run pins s σ H Dn I ⟨s', p⟩⟩
  refine pss_imp (pss_cons h h2) fun Dn σ H ⟨st, p⟩ => ⟨st, ?_⟩
  exact ⟨fun ρ' O' σ' H' q s' e => ⟨ρ', O', q, s', p.grow e⟩, p.rt, p.bk, p.ct, p.ex⟩
/-- a block within a block -/
theorem j_imp {A' : AE} (h : J X B ss ρ O A) (hn : ∀ ρ O, A.nx ρ O → A'.nx ρ O) (hr : ∀ d O, A.rt d O → A'.rt d O) (hb : ∀ ρ O, A.bk ρ O → A'.bk ρ O) (hc : ∀ ρ O, A.ct ρ O → A'.ct ρ O) (hx : ∀ C f d ρ O, A.ex C f d ρ O → A'.ex C f d ρ O) : J X B ss ρ O A' :=
  pss_imp h fun Dn σ H ⟨st, p⟩ => ⟨st, fun ρ O σ H q => p.nx ρ O σ H (hn _ _ q), fun d O v H q => p.rt d O v H (hr _ _ q), fun ρ O σ H q => p.bk ρ O σ H (hb _ _ q), fun ρ O σ H q => p.ct ρ O σ H (hc _ _ q), fun C f d ρ O σ H dx v q => p.ex C f d ρ O σ H dx v (hx _ _ _ _ _ q)⟩
theorem j_pass (h : A.nx ρ O) : J1 X B (.Pass pos) ρ O A := ps_imp ps_pass fun Dn σ H ⟨st, p⟩ => p.nx ρ O σ H h st (Same.refl _)
theorem j_break (h : A.bk ρ O) : J1 X B (.Break pos) ρ O A := ps_imp ps_break fun Dn σ H ⟨st, p⟩ => p.bk ρ O σ H h st (Same.refl _)
theorem j_continue (h : A.ct ρ O) : J1 X B (.Continue pos) ρ O A := ps_imp ps_continue fun Dn σ H ⟨st, p⟩ => p.ct ρ O σ H h st (Same.refl _)
theorem j_set {i : Nat} {x : Str} (hN : X.N.Nodup) (hi : X.N[i]? = some x) (hx : Loc X.env.scope x) (he : EV X B ρ O e d) (hs : swapsWith e (some (.Name x pos')) pos.line X.env = pure false) (hf : X.fn x = true ∨ X.env.scope.names.lookup x = some .local)
    (h : A.nx (ρ.set i (some d)) O) : J1 X B (.Assign [.Name x pos'] e pos) ρ O A :=
  ps_imp (ps_set hN hi hx he hs hf) fun Dn σ H ⟨st, p⟩ => ⟨st, fun v H1 e1 r1 => p.nx _ O _ H1 h ((st.same e1).set r1) (vis_same e1)⟩
theorem j_setG {i : Nat} {x : Str} (hN : X.N.Nodup) (hi : X.N[i]? = some x) (hx : Loc X.env.scope x) (he : EG X B ρ O e d O') (hs : swapsWith e (some (.Name x pos')) pos.line X.env = pure false) (hf : X.fn x = true ∨ X.env.scope.names.lookup x = some .local)
    (h : A.nx (ρ.set i (some d)) O') : J1 X B (.Assign [.Name x pos'] e pos) ρ O A :=
  ps_imp (ps_set hN hi hx he hs hf) fun Dn σ H ⟨st, p⟩ => ⟨st, fun v H1 s1 e1 r1 => p.nx _ O' _ H1 h (s1.set r1) e1⟩
/-- x = a new list that will be changed -/
theorem j_setN {i : Nat} {x : Str} (hN : X.N.Nodup) (hi : X.N[i]? = some x) (hx : Loc X.env.scope x) (he : EN X B ρ O e ds) (hs : swapsWith e (some (.Name x pos')) pos.line X.env = pure false) (hf : X.fn x = true ∨ X.env.scope.names.lookup x = some .local)
    (h : ∀ p, has O p = false → A.nx (ρ.set i (some (.rf p))) ((p, .lst ds) :: O)) : J1 X B (.Assign [.Name x pos'] e pos) ρ O A :=
  ps_imp (ps_set hN hi hx he hs hf) fun Dn σ H ⟨st, p⟩ => ⟨st, fun q H1 vs hp e1 hv r => by
    have op := st.m.newO hp
    have vs1 : Same (vis B.F O H) (vis B.F ((q, .lst ds) :: O) H1) := fun a o h => by
      obtain ⟨h1, h2, h3⟩ := vis_some.mp h
      have ne : a ≠ q := ne_of_none h3 hp
      exact vis_some.mpr ⟨h1, by rw [has_cons, h2, Bool.or_false]; exact beq_eq_false_iff_ne.mpr (Ne.symm ne), e1 _ _ h3⟩
    refine p.nx _ _ _ H1 (h q op) ⟨⟨fun a o hb => ?_, fun a m hm => ?_, ?_, fun a m hm => (st.m.lent a m hm).mono vs1 fun o q => e1 _ _ q⟩, ?_⟩ vs1
    · have := st.m.base a o hb
      have ne : a ≠ q := ne_of_none this.1 hp
      exact ⟨e1 _ _ this.1, by rw [has_cons, this.2, Bool.or_false]; exact beq_eq_false_iff_ne.mpr (Ne.symm ne)⟩
    · rcases List.mem_cons.mp hm with z | z
      · cases z; exact ⟨vs, hv, r⟩
      · exact (st.m.mem a m z).mono vs1 fun o q => e1 _ _ q
    · rw [List.map_cons, List.nodup_cons]
      refine ⟨fun z => ?_, st.m.nd⟩
      obtain ⟨⟨a, m⟩, hm, ea⟩ := List.mem_map.mp z
      have : has O q = true := has_mem.mpr ⟨m, by have z : a = q := ea; rw [← z]; exact hm⟩
      rw [op] at this; cases this
    · exact (st.env.mono vs1).set (.rf q)⟩
theorem j_expr (he : EG X B ρ O e d O') (h : A.nx ρ O') (hs : swapsWith e none pos.line X.env = pure false := by rfl) : J1 X B (.Expr e pos) ρ O A :=
  ps_imp (ps_expr he hs) fun Dn σ H ⟨st, p⟩ => ⟨st, fun v H1 s1 e1 r1 => p.nx ρ O' σ H1 h s1 e1⟩
theorem j_ret (he : EV X B ρ O e d) (h : A.rt d O) : J1 X B (.Return (some e) pos) ρ O A :=
  ps_imp (ps_ret he) fun Dn σ H ⟨st, p⟩ => ⟨st, fun v H1 e1 r1 => p.rt d O v H1 h (st.same e1).m r1⟩
theorem j_retG (he : EG X B ρ O e d O') (h : A.rt d O') : J1 X B (.Return (some e) pos) ρ O A :=
  ps_imp (ps_ret he) fun Dn σ H ⟨st, p⟩ => ⟨st, fun v H1 s1 e1 r1 => p.rt d O' v H1 h s1.m r1⟩
theorem j_retN (h : A.rt .non O) : J1 X B (.Return none pos) ρ O A :=
  ps_imp ps_retN fun Dn σ H ⟨st, p⟩ => p.rt .non O .non H h st.m .non
/-- a new list handed back -/
def hold (p : Addr) (ds : List D) (O : Om) : Om := (p, .lst ds) :: O
theorem j_if {s1 s2 : List Stmt} (hc : ET X B ρ O c b1) (h1 : b1 = true → J X B s1 ρ O A) (h2 : b1 = false → J X B s2 ρ O A) : J1 X B (.If c s1 s2 pos) ρ O A := by
  cases b1 with
  | true => exact ps_imp (ps_if hc (h1 rfl) (u := fun _ _ _ => False) ⟨fun _ _ _ _ _ _ h => h.elim⟩) fun Dn σ H ⟨st, p⟩ => ⟨st, fun H1 e1 => iteT ⟨st.same e1, p.grow (vis_same e1)⟩⟩
  | false => exact ps_imp (ps_if hc (t := fun _ _ _ => False) ⟨fun _ _ _ _ _ _ h => h.elim⟩ (h2 rfl)) fun Dn σ H ⟨st, p⟩ => ⟨st, fun H1 e1 => iteF ⟨st.same e1, p.grow (vis_same e1)⟩⟩
theorem j_never (h : False) : J1 X B st ρ O A := h.elim

/-! ### a view of a list: one that stays, or a mutable -/
def Vs (O : Om) (d : D) (ds : List D) : Prop := d = .lst ds ∨ ∃ a, d = .rf a ∧ (a, M.lst ds) ∈ O
def Vw (O : Om) (d : D) (ds : List D) : Prop := Vs O d ds ∨ d = .frl ds
theorem Vs.at {K : PySem.W.Frag} {H : Hp} {v : V} (w : Vs (B.L ++ O) d ds) (m : MOk K B O H) (r : Rp K (vis B.F O H) v d) : ∃ a vs, v = .ref a ∧ H a = some (.lst vs) ∧ RpL K (vis B.F O H) vs ds := by
  rcases w with rfl | ⟨a, rfl, h⟩
  · cases r with
    | lst h r => exact ⟨_, _, rfl, vis_le _ _ h, r⟩
  · cases r
    obtain ⟨vs, h1, h2⟩ := (List.mem_append.mp h).elim (m.lent _ _) (m.mem _ _)
    exact ⟨_, vs, rfl, h1, h2⟩
theorem Vw.sql {K : PySem.W.Frag} {H : Hp} {v : V} (w : Vw (B.L ++ O) d ds) (m : MOk K B O H) (r : Rp K (vis B.F O H) v d) : ∃ a vs, v = .ref a ∧ SqL K H a vs ∧ RpL K (vis B.F O H) vs ds := by
  rcases w with w | rfl
  · obtain ⟨a, vs, e, h, r⟩ := w.at m r
    exact ⟨a, vs, e, .inl (.inl h), r⟩
  · cases r with
    | frl h r => exact ⟨_, _, rfl, vis_le.seq h, r⟩
end
end DL

set_option Elab.async false
set_option linter.all false
set_option maxRecDepth 100000
set_option maxHeartbeats 2000000
namespace DL
open PySem PySem.Spec PyProof.Rows L2

/-! ### targets -/
/-- slots outside are as they were -/
def Off (sl : List Nat) (σ σ' : L2.St) : Prop := σ'.length = σ.length ∧ ∀ j, j ∉ sl → σ'[j]? = σ[j]?
theorem Off.refl (sl : List Nat) (σ : L2.St) : Off sl σ σ := ⟨rfl, fun _ _ => rfl⟩
theorem Off.trans {s1 s2 : List Nat} {a b c : L2.St} (h : Off s1 a b) (k : Off s2 b c) : Off (s1 ++ s2) a c :=
  ⟨k.1.trans h.1, fun j hj => (k.2 j fun z => hj (List.mem_append_right _ z)).trans (h.2 j fun z => hj (List.mem_append_left _ z))⟩
theorem Off.wipe {sl vs : List Nat} {σ σ' : L2.St} (h : Off sl σ σ') (hs : ∀ j ∈ sl, j ∈ vs) : L2.wipe σ' vs = L2.wipe σ vs := by
  have at_ : ∀ (σ : L2.St) (vs : List Nat) (i : Nat), (L2.wipe σ vs)[i]? = if i ∈ vs then (σ[i]?).map (fun _ => none) else σ[i]? := by
    intro σ vs i
    induction vs with
    | nil => simp [L2.wipe]
    | cons v vs ih =>
      unfold L2.wipe
      by_cases e : v = i
      · subst e
        by_cases hl : v < (L2.wipe σ vs).length
        · rw [List.getElem?_set_self hl]
          have hl' : v < σ.length := by rw [L2.wipe_length] at hl; exact hl
          simp [hl']
        · have hl' : ¬ v < σ.length := by rw [L2.wipe_length] at hl; exact hl
          rw [List.getElem?_eq_none (by simpa using hl)]
          simp [List.getElem?_eq_none (Nat.le_of_not_lt hl')]
      · rw [List.getElem?_set_ne e, ih]
        have e' : ¬ i = v := fun z => e z.symm
        simp [e']
  apply List.ext_getElem?
  intro i
  rw [at_, at_]
  by_cases hi : i ∈ vs
  · rw [if_pos hi, if_pos hi]
    by_cases hl : i < σ.length
    · have hl' : i < σ'.length := by rw [h.1]; exact hl
      simp [hl, hl']
    · have hl' : ¬ i < σ'.length := by rw [h.1]; exact hl
      simp [hl, hl']
  · rw [if_neg hi, if_neg hi]
    exact h.2 i fun z => hi (hs i z)
/-- what a target does to the slots with a datum -/
structure EB (X : Cx) (tg : Expr) (g : TG) (sl : List Nat) (f : D → List (Option D) → Option (List (Option D))) : Prop where
  pg : PG X tg g
  is : ∀ (B : Gd) (O : Om) (d : D) (ρ ρ' : List (Option D)) (v : V) (σ : L2.St) (H : Hp) (Q : L2.St → Hp → Prop), f d ρ = some ρ' → StOk X.K B ρ O σ H → Rp X.K (vis B.F O H) v d → (∀ σ', StOk X.K B ρ' O σ' H → Off sl σ σ' → Q σ' H) → g v σ H Q
def bName (i : Nat) : D → List (Option D) → Option (List (Option D)) := fun d ρ => some (ρ.set i (some d))
section
variable {X : Cx} {B : Gd} {ρ ρ' : List (Option D)} {O O' O1 O2 : Om} {A : AE} {a b c e : Expr} {es : List Expr} {d d1 d2 d3 : D} {ds : List D} {pos pos' : Pos} {b1 b2 : Bool} {st : Stmt} {ss rest : List Stmt}
theorem eb_name {i : Nat} {x : Str} (hN : X.N.Nodup) (hi : X.N[i]? = some x) (hx : Loc X.env.scope x) (hf : X.fn x = true ∨ X.env.scope.names.lookup x = some .local) : EB X (.Name x pos) (gName i) [i] (bName i) :=
  ⟨pg_name hN hi hx hf, fun B O d ρ ρ' v σ H Q e s r k => by
    cases e
    exact k _ (s.set r) ⟨by simp, fun j hj => List.getElem?_set_ne (fun z => hj (by simp [z]))⟩⟩
/-- several targets -/
structure EBs (X : Cx) (ts : List Expr) (g : TGs) (sl : List Nat) (f : List D → List (Option D) → Option (List (Option D))) : Prop where
  pg : PGs X ts g
  is : ∀ (B : Gd) (O : Om) (ds : List D) (ρ ρ' : List (Option D)) (vs : List V) (σ : L2.St) (H : Hp) (Q : L2.St → Hp → Prop), f ds ρ = some ρ' → StOk X.K B ρ O σ H → RpL X.K (vis B.F O H) vs ds → (∀ σ', StOk X.K B ρ' O σ' H → Off sl σ σ' → Q σ' H) → g vs σ H Q
def bNil : List D → List (Option D) → Option (List (Option D)) := fun ds ρ => match ds with | [] => some ρ | _ => none
def bCons (f : D → List (Option D) → Option (List (Option D))) (g : List D → List (Option D) → Option (List (Option D))) : List D → List (Option D) → Option (List (Option D)) :=
  fun ds ρ => match ds with | [] => none | d :: ds => match f d ρ with | none => none | some ρ' => g ds ρ'
theorem ebs_nil : EBs X [] gNil [] bNil := ⟨pgs_nil, fun B O ds ρ ρ' vs σ H Q e s r k => by
  cases r with
  | nil => cases e; exact ⟨rfl, k _ s (Off.refl _ _)⟩
  | cons _ _ => cases e⟩
theorem ebs_cons {t : TG} {u : TGs} {s1 s2 : List Nat} {f g} (h1 : EB X e t s1 f) (h2 : EBs X es u s2 g) (hs : (assignEach (e :: es) X.env).map (·.2) = assign e X.env :: (assignEach es X.env).map (·.2) := by rfl) : EBs X (e :: es) (gCons t u) (s1 ++ s2) (bCons f g) :=
  ⟨pgs_cons h1.pg h2.pg hs, fun B O ds ρ ρ' vs σ H Q e s r k => by
    cases r with
    | nil => cases e
    | @cons v vs d ds rv r =>
      have e' : (match f d ρ with | none => none | some ρ1 => g ds ρ1) = some ρ' := e
      cases h : f d ρ with
      | none => rw [h] at e'; cases e'
      | some ρ1 =>
        rw [h] at e'
        exact ⟨v, vs, rfl, h1.is B O d ρ ρ1 v σ H _ h s rv fun σ1 s1 o1 => h2.is B O ds ρ1 ρ' vs σ1 H Q e' s1 r fun σ2 s2 o2 => k σ2 s2 (o1.trans o2)⟩⟩
def bTup (g : List D → List (Option D) → Option (List (Option D))) : D → List (Option D) → Option (List (Option D)) := fun d ρ => match d with | .tup ds => g ds ρ | _ => none
theorem eb_tup {k : Nat} {t : TGs} {f} {n : Nat} {sl : List Nat} (hc : X.calm = true) (h : EBs X es t sl f) (hl : ∀ ds ρ ρ', f ds ρ = some ρ' → ds.length = n) (hn : (assignEach es X.env).length = n := by rfl) (hst : (assignEach es X.env).findIdx? (·.1) = none := by rfl) :
    EB X (.Tuple es k pos) (gTup X.K n t) sl (bTup f) :=
  ⟨pg_tup hc h.pg hn hst, fun B O d ρ ρ' v σ H Q e s r k => by
    cases d with
    | tup ds =>
      cases r with
      | tup hq r => exact ⟨_, _, rfl, same_t vis_le hq, by rw [r.length]; exact hl _ _ _ e, h.is B O ds ρ ρ' _ σ H Q e s r k⟩
    | _ => cases e⟩
theorem bcons_len {f g} {n : Nat} (h : ∀ ds ρ ρ', g ds ρ = some ρ' → ds.length = n) : ∀ ds ρ ρ', bCons f g ds ρ = some ρ' → ds.length = n + 1 := fun ds ρ ρ' e => by
  cases ds with
  | nil => cases e
  | cons d ds =>
    have e' : (match f d ρ with | none => none | some ρ1 => g ds ρ1) = some ρ' := e
    cases q : f d ρ with
    | none => rw [q] at e'; cases e'
    | some ρ1 => rw [q] at e'; rw [List.length_cons, h _ _ _ e']
theorem bnil_len : ∀ (ds : List D) (ρ ρ' : List (Option D)), bNil ds ρ = some ρ' → ds.length = 0 := fun ds ρ ρ' e => by
  cases ds with
  | nil => rfl
  | cons _ _ => cases e
/-- target = value, a tuple's items -/
theorem j_asg {tg : Expr} {g : TG} {sl : List Nat} {f} (he : EV X B ρ O e d) (hg : EB X tg g sl f) (hf : f d ρ = some ρ') (h : A.nx ρ' O) (hs : swapsWithSole [tg] e pos.line X.env = pure false := by rfl) (hw : swappedStores [tg] e X.env = pure none := by rfl)
    (h1 : (assignEach [tg] X.env).map (·.2) = [assign tg X.env] := by rfl) : J1 X B (.Assign [tg] e pos) ρ O A :=
  ps_imp (ps_asg he hg.pg hs hw h1) fun Dn σ H ⟨st, p⟩ => ⟨st, fun v H1 e1 r1 => hg.is B O d ρ ρ' v σ H1 _ hf (st.same e1) r1 fun σ' s' _ => p.nx ρ' O σ' H1 h s' (vis_same e1)⟩
theorem j_asgG {tg : Expr} {g : TG} {sl : List Nat} {f} (he : EG X B ρ O e d O') (hg : EB X tg g sl f) (hf : f d ρ = some ρ') (h : A.nx ρ' O') (hs : swapsWithSole [tg] e pos.line X.env = pure false := by rfl) (hw : swappedStores [tg] e X.env = pure none := by rfl)
    (h1 : (assignEach [tg] X.env).map (·.2) = [assign tg X.env] := by rfl) : J1 X B (.Assign [tg] e pos) ρ O A :=
  ps_imp (ps_asg he hg.pg hs hw h1) fun Dn σ H ⟨st, p⟩ => ⟨st, fun v H1 s1 e1 r1 => hg.is B O' d ρ ρ' v σ H1 _ hf s1 r1 fun σ' s' _ => p.nx ρ' O' σ' H1 h s' e1⟩

/-! ### what is walked -/
structure Src (K : PySem.W.Frag) (L : Om) (Hv : Hp) (J : It) (G : Om → Prop) (ds : List D) : Prop where
  goes : ∀ (i : Nat) (B : Gd) (O : Om) (H : Hp), B.L = L → i < ds.length → MOk K B O H → Same Hv (vis B.F O H) → G O → J.go i H
  stops : ∀ (B : Gd) (O : Om) (H : Hp), B.L = L → MOk K B O H → Same Hv (vis B.F O H) → G O → J.stop ds.length H
  yields : ∀ (i : Nat) (B : Gd) (O : Om) (H : Hp) (x : V) (H' : Hp), B.L = L → i < ds.length → MOk K B O H → Same Hv (vis B.F O H) → G O → J.yld i H x H' → Same H H' ∧ ∃ d, ds[i]? = some d ∧ Rp K (vis B.F O H') x d
structure EI (X : Cx) (B : Gd) (ρ : List (Option D)) (O : Om) (tg iter : Expr) (wi : TI) (G : Om → Prop) (ds : List D) : Prop where
  pi : PI X tg iter wi
  is : ∀ (σ : L2.St) (H : Hp) (R : It → Hp → Prop), StOk X.K B ρ O σ H → (∀ J H1, Same H H1 → Src X.K B.L (vis B.F O H1) J G ds → R J H1) → wi σ H R
theorem src_list {K : PySem.W.Frag} {H : Hp} {a : Addr} {v : V} (w : Vw (B.L ++ O) d ds) (m : MOk K B O H) (r : Rp K (vis B.F O H) v d) (hv : v = .ref a) : Src K B.L (vis B.F O H) (Itl K a) (fun O' => Vw (B.L ++ O') d ds) ds := by
  subst hv
  have again : ∀ {B' : Gd} {O' : Om} {H' : Hp}, B'.L = B.L → Vw (B.L ++ O') d ds → MOk K B' O' H' → Same (vis B.F O H) (vis B'.F O' H') → ∃ vs', SqL K H' a vs' ∧ RpL K (vis B'.F O' H') vs' ds := fun {B' O' H'} eL w m e => by
    rw [← eL] at w
    obtain ⟨a', vs', ea, q, r⟩ := w.sql m (r.mono e)
    cases ea
    exact ⟨vs', q, r⟩
  refine ⟨fun i B' O' H' eL hi m e g => ?_, fun B' O' H' eL m e g => ?_, fun i B' O' H' x H2 eL hi m e g y => ?_⟩
  · obtain ⟨vs, q, r⟩ := again eL g m e
    obtain ⟨v, hv, _⟩ := r.get (i := i) (d := ds[i]) (by simp [hi])
    exact ⟨vs, v, q, hv⟩
  · obtain ⟨vs, q, r⟩ := again eL g m e
    exact ⟨vs, q, by rw [r.length]; exact Nat.le_refl _⟩
  · obtain ⟨vs, q, r⟩ := again eL g m e
    obtain ⟨e2, y⟩ := y
    subst e2
    obtain ⟨v, hv, rv⟩ := r.get (i := i) (d := ds[i]) (by simp [hi])
    have ex := y vs q
    rw [hv] at ex
    cases ex
    exact ⟨Same.refl _, _, by simp [hi], rv⟩
theorem ei_list {tg iter : Expr} (hi : EV X B ρ O iter d) (w : Vw (B.L ++ O) d ds) : EI X B ρ O tg iter (iList X.K (tD X.K B ρ O d)) (fun O' => Vw (B.L ++ O') d ds) ds :=
  ⟨pi_list hi, fun σ H R st k => ⟨st, fun v H1 e1 r1 => by
    obtain ⟨a, vs, rfl, hq, rl⟩ := w.sql (st.same e1).m r1
    exact ⟨a, rfl, ⟨vs, hq⟩, k _ H1 e1 (src_list w (st.same e1).m r1 rfl)⟩⟩⟩
theorem ei_tup {tg iter : Expr} (hi : EV X B ρ O iter (.tup ds)) : EI X B ρ O tg iter (iTup X.K (tD X.K B ρ O (.tup ds))) (fun _ => True) ds :=
  ⟨pi_tup hi, fun σ H R st k => ⟨st, fun v H1 e1 r1 => by
    cases r1 with
    | @tup a vs _ hq rl =>
    refine ⟨a, rfl, ⟨vs, same_t vis_le hq⟩, k _ H1 e1 ⟨fun i B' O' H' eL hi m e g => ?_, fun B' O' H' eL m e g => ?_, fun i B' O' H' x H2 eL hi m e g y => ?_⟩⟩
    · obtain ⟨v, hv, _⟩ := rl.get (i := i) (d := ds[i]) (by simp [hi])
      exact ⟨vs, v, same_t vis_le (same_t e hq), hv⟩
    · exact ⟨vs, same_t vis_le (same_t e hq), by rw [rl.length]; exact Nat.le_refl _⟩
    · obtain ⟨e2, y⟩ := y
      subst e2
      obtain ⟨v, hv, rv⟩ := rl.get (i := i) (d := ds[i]) (by simp [hi])
      have ex := y vs (same_t vis_le (same_t e hq))
      rw [hv] at ex
      cases ex
      exact ⟨Same.refl _, _, by simp [hi], rv.mono e⟩⟩⟩
theorem ei_str {tg iter : Expr} {z : Str} (hi : EV X B ρ O iter (.str z)) : EI X B ρ O tg iter (iStr (tD X.K B ρ O (.str z))) (fun _ => True) (z.cps.toList.map fun c => D.str ⟨#[c]⟩) :=
  ⟨pi_str hi, fun σ H R st k => ⟨st, fun v H1 e1 r1 => by
    cases r1
    refine ⟨z, rfl, k _ H1 e1 ⟨fun i B' O' H' eL hi m e g => ?_, fun B' O' H' eL m e g => ?_, fun i B' O' H' x H2 eL hi m e g y => ?_⟩⟩
    · show i < z.cps.size; simpa using hi
    · show z.cps.size ≤ _; simp
    · obtain ⟨e2, c, hc, ex⟩ := y
      subst e2 ex
      refine ⟨Same.refl _, .str ⟨#[c]⟩, ?_, .str _⟩
      rw [List.getElem?_map, Array.getElem?_toList, hc]; rfl⟩⟩
def rngD (lo : Int) (n : Nat) : List D := (List.range n).map fun i : Nat => D.int (lo + (i : Int))
theorem src_range {K : PySem.W.Frag} {L : Om} {Hv : Hp} {lo : Int} {n : Nat} : Src K L Hv (Itr lo n) (fun _ => True) (rngD lo n) := by
  have hl : (rngD lo n).length = n := by simp [rngD]
  refine ⟨fun i B' O' H' eL hi m e g => ?_, fun B' O' H' eL m e g => ?_, fun i B' O' H' x H2 eL hi m e g y => ?_⟩
  · rw [hl] at hi; exact hi
  · rw [hl]; exact Nat.le_refl _
  · rw [hl] at hi
    obtain ⟨e2, ex⟩ := y
    subst e2 ex
    exact ⟨Same.refl _, .int (lo + i), by simp [rngD, hi], .int _⟩
theorem ei_range1 {tg na : Expr} {p p' : Pos} {n : Int} (hgl : Gl X "range") (hm : X.mg "range" = none) (hi : EA X B ρ O [na] [.int n]) (hn : -(2 ^ 62) ≤ n ∧ n < 2 ^ 62) (hse : starEach [na] X.env = [(false, eval na X.env)] := by rfl) :
    EI X B ρ O tg (.Call (.Name "range" p) [na] [] p') (iRng1 (tA X.K B ρ O [.int n])) (fun _ => True) (rngD 0 n.toNat) :=
  ⟨pi_range1 hgl hm hi hse, fun σ H R st k => ⟨st, fun vs H1 e1 r1 => by
    cases r1 with
    | cons h r => cases h; cases r; exact ⟨n, rfl, hn.1, hn.2, k _ H1 e1 src_range⟩⟩⟩
theorem ei_range2 {tg ma na : Expr} {p p' : Pos} {m n : Int} (hgl : Gl X "range") (hm : X.mg "range" = none) (hi : EA X B ρ O [ma, na] [.int m, .int n]) (hn : -(2 ^ 62) ≤ m ∧ m < 2 ^ 62 ∧ -(2 ^ 62) ≤ n ∧ n < 2 ^ 62)
    (hse : starEach [ma, na] X.env = [(false, eval ma X.env), (false, eval na X.env)] := by rfl) (hse2 : starEach [na] X.env = [(false, eval na X.env)] := by rfl) :
    EI X B ρ O tg (.Call (.Name "range" p) [ma, na] [] p') (iRng2 (tA X.K B ρ O [.int m, .int n])) (fun _ => True) (rngD m (n - m).toNat) :=
  ⟨pi_range2 hgl hm hi hse hse2, fun σ H R st k => ⟨st, fun vs H1 e1 r1 => by
    cases r1 with
    | cons h r =>
      cases h
      cases r with
      | cons h r => cases h; cases r; exact ⟨m, n, rfl, hn, k _ H1 e1 src_range⟩⟩⟩
def enumD (ds : List D) : List D := (List.range ds.length).map fun i : Nat => D.tup [.int (i : Int), (ds[i]?).getD .non]
theorem ei_enum {ea : Expr} {elts : List Expr} {kk : Nat} {p p' tpos : Pos} (hgl : Gl X "enumerate") (hm : X.mg "enumerate" = none) (hi : EA X B ρ O [ea] [d]) (w : Vw (B.L ++ O) d ds) (hse : starEach [ea] X.env = [(false, eval ea X.env)] := by rfl) :
    EI X B ρ O (.Tuple elts kk tpos) (.Call (.Name "enumerate" p) [ea] [] p') (iEnum X.K (tA X.K B ρ O [d])) (fun O' => Vw (B.L ++ O') d ds) (enumD ds) :=
  ⟨pi_enum hgl hm hi hse, fun σ H R st k => ⟨st, fun vs H1 e1 r1 => by
    cases r1 with
    | @cons v _ _ _ h r =>
    cases r
    obtain ⟨a, vs, rfl, hq, rl⟩ := w.sql (st.same e1).m h
    have S := src_list w (st.same e1).m h rfl
    have hl : (enumD ds).length = ds.length := by simp [enumD]
    refine ⟨a, vs, rfl, hq, k _ H1 e1 ⟨fun i B' O' H' eL hi m e g => ?_, fun B' O' H' eL m e g => ?_, fun i B' O' H' x H2 eL hi m e g y => ?_⟩⟩
    · rw [hl] at hi
      exact S.goes i B' O' H' eL hi m e g
    · rw [hl]
      exact S.stops B' O' H' eL m e g
    · rw [hl] at hi
      obtain ⟨T, x', ex, hT, e2, y⟩ := y
      subst e2 ex
      obtain ⟨_, d', hd', rd⟩ := S.yields i B' O' H' x' H' eL hi m e g ⟨rfl, y⟩
      refine ⟨same_new hT, .tup [.int (i : Int), d'], ?_, .tup (.inl (.inl (m.visNew hT))) (.cons (.int _) (.cons (rd.mono (vis_same (same_new hT))) .nil))⟩
      unfold enumD; rw [List.getElem?_map, List.getElem?_range hi]; simp [hd']⟩⟩
def zipD (ds es : List D) : List D := (List.range (min ds.length es.length)).map fun i : Nat => D.tup [(ds[i]?).getD .non, (es[i]?).getD .non]
theorem ei_zip {ea eb : Expr} {elts : List Expr} {kk : Nat} {p p' tpos : Pos} {es : List D} (hgl : Gl X "zip") (hm : X.mg "zip" = none) (hi : EA X B ρ O [ea, eb] [d1, d2]) (w1 : Vw (B.L ++ O) d1 ds) (w2 : Vw (B.L ++ O) d2 es)
    (hse : starEach [ea, eb] X.env = (false, eval ea X.env) :: starEach [eb] X.env := by rfl) (hpl : (backTo p' (starEach [eb] X.env)).any (·.1) = false := by rfl) :
    EI X B ρ O (.Tuple elts kk tpos) (.Call (.Name "zip" p) [ea, eb] [] p') (iZip X.K (tA X.K B ρ O [d1, d2])) (fun O' => Vw (B.L ++ O') d1 ds ∧ Vw (B.L ++ O') d2 es) (zipD ds es) :=
  ⟨pi_zip hgl hm hi hse hpl, fun σ H R st k => ⟨st, fun vs H1 e1 r1 => by
    cases r1 with
    | @cons v _ _ _ h r =>
    cases r with
    | @cons v2 _ _ _ h2 r =>
    cases r
    obtain ⟨a, vs, rfl, hq, rl⟩ := w1.sql (st.same e1).m h
    obtain ⟨b, us, rfl, hq2, rl2⟩ := w2.sql (st.same e1).m h2
    have again : ∀ {B' : Gd} {O' : Om} {H' : Hp} {dd : D} {dl : List D} {a0 : Addr}, Rp X.K (vis B.F O H1) (.ref a0) dd → B'.L = B.L → Vw (B.L ++ O') dd dl → MOk X.K B' O' H' → Same (vis B.F O H1) (vis B'.F O' H') → ∃ vs', SqL X.K H' a0 vs' ∧ RpL X.K (vis B'.F O' H') vs' dl := fun {B' O' H' dd dl a0} r eL w m e => by
      rw [← eL] at w
      obtain ⟨a', vs', ea, q, r⟩ := w.sql m (r.mono e)
      cases ea
      exact ⟨vs', q, r⟩
    have hl : (zipD ds es).length = min ds.length es.length := by simp [zipD]
    refine ⟨a, b, vs, us, rfl, hq, hq2, k _ H1 e1 ⟨fun i B' O' H' eL hi m e g => ?_, fun B' O' H' eL m e g => ?_, fun i B' O' H' x H2 eL hi m e g y => ?_⟩⟩
    · rw [hl] at hi
      obtain ⟨xs, q1, r1⟩ := again h eL g.1 m e
      obtain ⟨ys, q2, r2⟩ := again h2 eL g.2 m e
      exact (walk_zip (n := min xs.length ys.length) rfl).goes i H' (by rw [r1.length, r2.length]; exact hi) ⟨q1, q2⟩
    · obtain ⟨xs, q1, r1⟩ := again h eL g.1 m e
      obtain ⟨ys, q2, r2⟩ := again h2 eL g.2 m e
      rw [hl, ← r1.length, ← r2.length]
      exact (walk_zip (n := min xs.length ys.length) rfl).stops H' ⟨q1, q2⟩
    · rw [hl] at hi
      obtain ⟨xs, q1, r1⟩ := again h eL g.1 m e
      obtain ⟨ys, q2, r2⟩ := again h2 eL g.2 m e
      obtain ⟨T, x', z', ex, hT, e2, y1, y2⟩ := (walk_zip (n := min xs.length ys.length) rfl).yields i H' x H2 (by rw [r1.length, r2.length]; exact hi) ⟨q1, q2⟩ y
      subst e2 ex
      obtain ⟨d', hd', rd⟩ := r1.get' y1
      obtain ⟨d'', hd'', rd'⟩ := r2.get' y2
      refine ⟨same_new hT, .tup [d', d''], ?_, .tup (.inl (.inl (m.visNew hT))) (.cons (rd.mono (vis_same (same_new hT))) (.cons (rd'.mono (vis_same (same_new hT))) .nil))⟩
      unfold zipD; rw [List.getElem?_map, List.getElem?_range hi]; simp [hd', hd'']⟩⟩

/-! ### loops -/
/-- a body, whatever the state -/
def tAny (X : Cx) (B : Gd) (ss : List Stmt) : TS := fun Dn σ H => ∃ ρ O A, J X B ss ρ O A ∧ tW X.K B ρ O A Dn σ H
theorem any_ok : PSs X ss (tAny X B ss) := ⟨fun pins s σ H Dn I ⟨ρ, O, A, j, q⟩ => j.run pins s σ H Dn I q⟩
theorem j_for {iter tg : Expr} {body : List Stmt} {wi : TI} {sl : List Nat} {f} {g : TG} {G : Om → Prop} (R : Nat → List (Option D) → Om → Prop)
    (hp : PassesOwn (model X.prog X.w) X.A X.env X.xe) (hc : X.calm = true) (hi : EI X B ρ O tg iter wi G ds) (hg : EB X tg g sl f)
    (hv : ∀ i ρ O, R i ρ O → G O)
    (h0 : ∃ ρ0, Wk ρ0 ρ ∧ R 0 ρ0 O)
    (hs : ∀ i d ρ O, ds[i]? = some d → R i ρ O → ∃ ρ', f d ρ = some ρ' ∧ J X B body ρ' O { A with nx := fun ρ2 O2 => ∃ ρ3, Wk ρ3 ρ2 ∧ R (i + 1) ρ3 O2, ct := fun ρ2 O2 => ∃ ρ3, Wk ρ3 ρ2 ∧ R (i + 1) ρ3 O2, bk := A.nx })
    (hd : ∀ ρ O, R ds.length ρ O → A.nx ρ O)
    (hfs : ∀ x, foldedSetIterable iter X.env x = pure x := by intro _; rfl) : J1 X B (.For tg iter body [] pos) ρ O A := by
  refine ps_imp (ps_for hp hc hi.pi hg.pg (any_ok (B := B)) hfs) fun Dn σ H ⟨st, p⟩ => hi.is σ H _ st fun J H1 e1 S => ?_
  obtain ⟨ρ0, w0, h0⟩ := h0
  have s1 := (st.same e1).weak w0
  refine ⟨fun i m σ' H' => m = ds.length - i ∧ i ≤ ds.length ∧ ∃ ρ' O', R i ρ' O' ∧ StOk X.K B ρ' O' σ' H' ∧ Same (vis B.F O H1) (vis B.F O' H'), ⟨ds.length, by simp, Nat.zero_le _, ρ0, O, h0, s1, Same.refl _⟩, ?_⟩
  rintro i m σ' H' ⟨rfl, hi', ρ', O', hr, s', e'⟩
  by_cases hlt : i < ds.length
  · refine .inr ⟨S.goes i B O' H' rfl hlt s'.m e' (hv _ _ _ hr), fun σ2 H2 => ∃ ρ2 O2, R (i + 1) ρ2 O2 ∧ StOk X.K B ρ2 O2 σ2 H2 ∧ Same (vis B.F O H1) (vis B.F O2 H2), fun σ2 H2 ⟨ρ2, O2, h2, s2, e2⟩ => ⟨ds.length - (i + 1), by omega, rfl, hlt, ρ2, O2, h2, s2, e2⟩, fun x H2 y => ?_⟩
    obtain ⟨e2, d, hd', rv⟩ := S.yields i B O' H' x H2 rfl hlt s'.m e' (hv _ _ _ hr) y
    obtain ⟨ρ1, hf, j⟩ := hs i d ρ' O' hd' hr
    refine hg.is B O' d ρ' ρ1 x σ' H2 _ hf (s'.same e2) rv fun σ2 s2 _ => ⟨ρ1, O', _, j, s2, ?_⟩
    have e'' := e'.trans (vis_same (F := B.F) (O := O') e2)
    exact ⟨fun ρ3 O3 σ3 H3 ⟨ρ4, w, h4⟩ s3 e3 => ⟨ρ4, O3, h4, s3.weak w, e''.trans e3⟩, p.rt, fun ρ3 O3 σ3 H3 h3 s3 e3 => p.nx ρ3 O3 σ3 H3 h3 s3 ((vis_same e1).trans (e''.trans e3)), fun ρ3 O3 σ3 H3 ⟨ρ4, w, h4⟩ s3 e3 => ⟨ρ4, O3, h4, s3.weak w, e''.trans e3⟩, fun C f d ρ3 O3 σ3 H3 dx v h3 s3 e3 => p.ex C f d ρ3 O3 σ3 H3 dx v h3 s3 ((vis_same e1).trans (e''.trans e3))⟩
  · have e : i = ds.length := by omega
    subst e
    exact .inl ⟨S.stops B O' H' rfl s'.m e' (hv _ _ _ hr), p.nx ρ' O' σ' H' (hd ρ' O' hr) s' ((vis_same e1).trans e')⟩
/-- while -/
def tAnyT (X : Cx) (B : Gd) (c : Expr) : TT := fun σ H Q => ∃ ρ O b, ET X B ρ O c b ∧ tT X.K B ρ O b σ H Q
theorem anyT_ok : PT X c (tAnyT X B c) := ⟨fun pins s σ H Q I ⟨ρ, O, b, j, q⟩ => j.run pins s σ H Q I q⟩
theorem j_while {body : List Stmt} (R : List (Option D) → Om → Prop) (μ : List (Option D) → Om → Nat) (hp : PassesOwn (model X.prog X.w) X.A X.env X.xe) (h0 : R ρ O)
    (hs : ∀ ρ O, R ρ O → ∃ b, ET X B ρ O c b ∧ (b = true → J X B body ρ O { A with nx := fun ρ2 O2 => ∃ ρ3, Wk ρ3 ρ2 ∧ R ρ3 O2 ∧ μ ρ3 O2 < μ ρ O, ct := fun ρ2 O2 => ∃ ρ3, Wk ρ3 ρ2 ∧ R ρ3 O2 ∧ μ ρ3 O2 < μ ρ O, bk := A.nx }) ∧ (b = false → A.nx ρ O)) :
    J1 X B (.While c body [] pos) ρ O A := by
  refine ps_imp (ps_while hp (anyT_ok (B := B)) (any_ok (B := B))) fun Dn σ H ⟨st, p⟩ => ?_
  refine ⟨fun m σ' H' => ∃ ρ' O', R ρ' O' ∧ m = μ ρ' O' ∧ StOk X.K B ρ' O' σ' H' ∧ Same (vis B.F O H) (vis B.F O' H'), ⟨_, ρ, O, h0, rfl, st, Same.refl _⟩, ?_⟩
  rintro m σ' H' ⟨ρ', O', hr, rfl, s', e'⟩
  obtain ⟨b, t, h1, h2⟩ := hs ρ' O' hr
  refine ⟨ρ', O', b, t, s', fun H2 e2 => ?_⟩
  have s2 := s'.same e2
  have e3 := e'.trans (vis_same (F := B.F) (O := O') e2)
  cases b with
  | true =>
    refine iteT ⟨fun σ3 H3 => ∃ ρ3 O3, R ρ3 O3 ∧ μ ρ3 O3 < μ ρ' O' ∧ StOk X.K B ρ3 O3 σ3 H3 ∧ Same (vis B.F O H) (vis B.F O3 H3), fun σ3 H3 ⟨ρ3, O3, q1, q2, q3, q4⟩ => ⟨_, q2, ρ3, O3, q1, rfl, q3, q4⟩, ρ', O', _, h1 rfl, s2, ?_⟩
    exact ⟨fun ρ3 O3 σ3 H3 ⟨ρ4, w, h4, l⟩ s3 e4 => ⟨ρ4, O3, h4, l, s3.weak w, e3.trans e4⟩, p.rt, fun ρ3 O3 σ3 H3 h3 s3 e4 => p.nx ρ3 O3 σ3 H3 h3 s3 (e3.trans e4), fun ρ3 O3 σ3 H3 ⟨ρ4, w, h4, l⟩ s3 e4 => ⟨ρ4, O3, h4, l, s3.weak w, e3.trans e4⟩, fun C f d ρ4 O3 σ3 H3 dx v h3 s3 e4 => p.ex C f d ρ4 O3 σ3 H3 dx v h3 s3 (e3.trans e4)⟩
  | false => exact iteF (p.nx ρ' O' σ' H2 (h2 rfl) s2 e3)

/-! ### comprehensions -/
theorem has_keys {O O' : Om} (h : O.map (·.1) = O'.map (·.1)) (a : Addr) : has O a = has O' a := by
  have : ∀ O : Om, has O a = (O.map (·.1)).contains a := fun O => by
    unfold has
    induction O with
    | nil => rfl
    | cons q O ih => rw [List.any_cons, ih, List.map_cons, List.contains_cons, Bool.beq_comm]
  rw [this, this, h]
theorem vis_keys {O O' : Om} {F : Addr → Bool} {H : Hp} (h : O.map (·.1) = O'.map (·.1)) : vis F O H = vis F O' H := by
  funext a
  unfold vis
  rw [has_keys h a]
theorem wipe_wipe (σ : L2.St) (vs : List Nat) : L2.wipe (L2.wipe σ vs) vs = L2.wipe σ vs := by
  have z : ∀ (us : List Nat), (∀ j ∈ us, j ∈ vs) → L2.wipe (L2.wipe σ vs) us = L2.wipe σ vs := by
    intro us hu
    induction us with
    | nil => rfl
    | cons u us ih =>
      show (L2.wipe (L2.wipe σ vs) us).set u none = L2.wipe σ vs
      rw [show L2.wipe (L2.wipe σ vs) us = L2.wipe σ vs from ih fun j hj => hu j (List.mem_cons_of_mem _ hj)]
      have hm := hu u List.mem_cons_self
      have : ∀ (ws : List Nat), u ∈ ws → (L2.wipe σ ws).set u none = L2.wipe σ ws := by
        intro ws
        induction ws with
        | nil => intro h; simp at h
        | cons w ws ih2 =>
          intro h
          unfold L2.wipe
          by_cases e : w = u
          · subst e; rw [List.set_set]
          · rw [List.set_comm _ _ e, ih2 (by rcases List.mem_cons.mp h with z | z; exact absurd z.symm e; exact z)]
      exact this vs hm
  exact z vs fun _ h => h
def wipeD (ρ : List (Option D)) : List Nat → List (Option D)
  | [] => ρ
  | v :: vs => (wipeD ρ vs).set v none
theorem wipeD_env {K : PySem.W.Frag} {Hv : Hp} {σ : L2.St} (h : EnvR K Hv σ ρ) (vs : List Nat) : EnvR K Hv (L2.wipe σ vs) (wipeD ρ vs) := by
  induction vs with
  | nil => exact h
  | cons v vs ih =>
    refine ⟨by unfold L2.wipe wipeD; rw [List.length_set, List.length_set]; exact ih.1, fun i d e => ?_⟩
    unfold wipeD at e
    by_cases hi : v = i
    · subst hi
      by_cases hl : v < (wipeD ρ vs).length
      · rw [List.getElem?_set_self hl] at e; cases e
      · rw [List.getElem?_eq_none (by simpa using hl)] at e; cases e
    · rw [List.getElem?_set_ne hi] at e
      obtain ⟨u, a, b⟩ := ih.2 i d e
      exact ⟨u, by unfold L2.wipe; rw [List.getElem?_set_ne hi]; exact a, b⟩
abbrev ETs (X : Cx) (B : Gd) (ρ : List (Option D)) (O : Om) (ifs : List Expr) (b : Bool) : Prop := PTs X ifs (tT X.K B ρ O b)
theorem ets_nil : ETs X B ρ O [] true := ⟨fun pins s σ H Q I ⟨st, k⟩ => pts_nil.run pins s σ H Q I (k H (Same.refl H))⟩
theorem ets_one (h : ET X B ρ O c b1) : ETs X B ρ O [c] b1 := pts_one h
/-- tests, elements: whatever the state -/
def tAnyTs (Xs : Cx → Prop) (ifs : List Expr) : TT := fun σ H Q => ∃ (K : PySem.W.Frag) (B : Gd) (ρ : List (Option D)) (O : Om) (b : Bool), (∀ X, Xs X → X.K = K ∧ ETs X B ρ O ifs b) ∧ tT K B ρ O b σ H Q
def tAnyE (Xs : Cx → Prop) (e : Expr) : TE := fun σ H Q => ∃ (K : PySem.W.Frag) (B : Gd) (ρ : List (Option D)) (O : Om) (d : D), (∀ X, Xs X → X.K = K ∧ EV X B ρ O e d) ∧ tD K B ρ O d σ H Q
theorem anyTs_ok {Xs : Cx → Prop} {ifs : List Expr} (h : Xs X) : PTs X ifs (tAnyTs Xs ifs) := ⟨fun pins s σ H Q I ⟨K, B, ρ, O, b, j, q⟩ => by
  obtain ⟨ek, jj⟩ := j X h
  subst ek
  exact jj.run pins s σ H Q I q⟩
theorem anyE_ok {Xs : Cx → Prop} (h : Xs X) : PE X e (tAnyE Xs e) := ⟨fun pins s σ H Q I ⟨K, B, ρ, O, d, j, q⟩ => by
  obtain ⟨ek, jj⟩ := j X h
  subst ek
  exact jj.run pins s σ H Q I q⟩
/-- the contexts of a comprehension's block -/
def Blk (X : Cx) (scope : Scope) : Cx → Prop := fun X' => ∃ (s : Shared) (H : Hp) (C : Addr) (cl : List (Str × Addr)) (fp : List Addr), X' = X.blk s H scope (compEnvC scope cl C X.env) fp
/-- the ground of a comprehension: the new list hidden -/
def Gd.hid (B : Gd) (D : Addr) (H : Hp) (O : Om) (h1 : ∀ a, B.F a = true → ∃ o, B.Hb a = some o) (h2 : ∃ o, H D = some o) (h3 : ∀ a o, B.Hb a = some o → H a = some o ∧ has O a = false) (h4 : has O D = false) : Gd :=
  ⟨fun a => B.F a || a == D, fun a => if has O a = true then none else H a, B.W, B.L, fun a h => by
    rw [Bool.or_eq_true] at h
    rcases h with h | h
    · obtain ⟨o, e⟩ := h1 a h
      obtain ⟨q1, q2⟩ := h3 a o e
      exact ⟨o, by rw [q2]; exact q1⟩
    · have e : a = D := beq_iff_eq.mp h
      subst e
      obtain ⟨o, q⟩ := h2
      exact ⟨o, by rw [h4]; exact q⟩, fun a m h => by rw [B.lF a m h]; rfl⟩
theorem lcW_imp {α : Type} {xs : List α} {h : α → D} {pr : α → Bool} {el : α → D} {elt iter tg : Expr} {ifs : List Expr} {scope : Scope} {own : List (Str × Nat)} {wi : TI} {G : Om → Prop} {g : TG} {sl : List Nat} {f}
    (hc : X.calm = true) (hN : X.N.Nodup) (hi : EI X B ρ O tg iter wi G (xs.map h)) (hG : G O) (ok : BlkOk X.N X.env.scope scope own)
    (hg : ∀ X', Blk X scope X' → EB X' tg g sl f) (hsl : ∀ j ∈ sl, j ∈ own.map (·.2))
    (hb : ∀ x ∈ xs, ∃ ρ', f (h x) (wipeD ρ (own.map (·.2))) = some ρ' ∧ (∀ X' B', B'.L = B.L → Blk X scope X' → ETs X' B' ρ' O ifs (pr x)) ∧ (pr x = true → ∀ X' B', B'.L = B.L → Blk X scope X' → EV X' B' ρ' O elt (el x)))
    (hz : xs.length < sizeLine) (σ : L2.St) (H : Hp) (Q : VK) (hq : tN X.K B ρ O ((xs.filter pr).map el) σ H Q) :

    tLc wi g (tAnyTs (Blk X scope) ifs) (tAnyE (Blk X scope) elt) (own.map (·.2)) σ H Q := by
  obtain ⟨st, k⟩ := hq
  refine hi.is σ H _ st fun J H1 e1 S D hD => ?_
  have s1 := st.same e1
  have oD := s1.m.newO hD
  have fD := s1.m.newF hD
  -- what holds at a turn: all that stood, and the new list's items known without it
  let Inv : Nat → Hp → Prop := fun i H' => Same H1 H' ∧ ∃ acc, H' D = some (.lst acc) ∧ RpL X.K (vis B.F ((D, .lst []) :: O) H') acc (((xs.take i).filter pr).map el)
  have visD : ∀ {H' : Hp}, vis B.F ((D, .lst []) :: O) H' = fun a => if (B.F a || a == D || has O a) = true then none else H' a := fun {H'} => by
    funext a
    unfold vis
    rw [has_cons, Bool.beq_comm (a := D), Bool.or_assoc]
  have keep : ∀ {H' : Hp}, Same H1 H' → Same (vis B.F O H1) (vis B.F ((D, .lst []) :: O) H') := fun {H'} e a o h => by
    obtain ⟨h1, h2, h3⟩ := vis_some.mp h
    have ne : a ≠ D := ne_of_none h3 hD
    exact vis_some.mpr ⟨h1, by rw [has_cons, h2, Bool.or_false]; exact beq_eq_false_iff_ne.mpr (Ne.symm ne), e _ _ h3⟩
  have hid : ∀ {H' : Hp} (e : Same H1 H') (hd : ∃ o, H' D = some o), ∃ B' : Gd, B'.L = B.L ∧ (∀ H2, vis B'.F O H2 = vis B.F ((D, .lst []) :: O) H2) ∧ StOk X.K B' (wipeD ρ (own.map (·.2))) O (L2.wipe σ (own.map (·.2))) H' := fun {H'} e hd => by
    have b3 : ∀ a o, B.Hb a = some o → H' a = some o ∧ has O a = false := fun a o q => ⟨e _ _ (s1.m.base a o q).1, (s1.m.base a o q).2⟩
    have ev : ∀ H2, vis (B.hid D H' O B.ok hd b3 oD).F O H2 = vis B.F ((D, .lst []) :: O) H2 := fun H2 => by rw [visD]; rfl
    refine ⟨B.hid D H' O B.ok hd b3 oD, rfl, ev, ⟨⟨fun a o q => ?_, fun a m hm => ?_, s1.m.nd, fun a m hm => ?_⟩, ?_⟩⟩
    · have q' : (if has O a = true then none else H' a) = some o := q
      cases ha : has O a with
      | true => rw [ha, if_pos rfl] at q'; cases q'
      | false => rw [ha, if_neg Bool.false_ne_true] at q'; exact ⟨q', rfl⟩
    · rw [ev]
      exact (s1.m.mem a m hm).mono (keep e) fun o q => e _ _ q
    · rw [ev]
      exact (s1.m.lent a m hm).mono (keep e) fun o q => e _ _ q
    · rw [ev]
      exact wipeD_env (s1.env.mono (keep e)) _
  refine ⟨fun i m H' => m = xs.length - i ∧ i ≤ xs.length ∧ Inv i H', ⟨xs.length, by simp, Nat.zero_le _, same_new hD, [], upd_same, .nil⟩, ?_⟩
  rintro i m H' ⟨rfl, hi', eS, acc, hA, rA⟩
  have hlx : (xs.map h).length = xs.length := List.length_map ..
  obtain ⟨B', eL, ev, sB⟩ := hid eS ⟨_, hA⟩
  have eB : Same (vis B.F O H1) (vis B'.F O H') := by rw [ev]; exact keep eS
  by_cases hlt : i < xs.length
  · refine .inr ⟨S.goes i B' O H' eL (by rw [hlx]; exact hlt) sB.m eB hG, fun H2 => Inv (i + 1) H2, fun H2 q => ⟨xs.length - (i + 1), by omega, rfl, hlt, q⟩, fun x H2 y => ?_⟩
    obtain ⟨e2, d, hd', rv⟩ := S.yields i B' O H' x H2 eL (by rw [hlx]; exact hlt) sB.m eB hG y
    have ed : d = h (xs[i]) := by
      rw [List.getElem?_map, List.getElem?_eq_getElem hlt] at hd'
      exact (Option.some.inj hd').symm
    subst ed
    obtain ⟨ρ', hf, ht, he⟩ := hb (xs[i]) (List.getElem_mem hlt)
    have hK : ∀ X', Blk X scope X' → X'.K = X.K := fun X' ⟨s, H, C, cl, fp, e⟩ => by rw [e]
    refine (hg (X.blk X.s_0 H scope (compEnvC scope [] 0 X.env) []) ⟨X.s_0, H, 0, [], [], rfl⟩).is B' O _ _ ρ' x _ H2 _ hf (sB.same e2) rv fun σ2 s2 off => ⟨(off.wipe hsl).trans (wipe_wipe _ _), ?_⟩
    refine ⟨X.K, B', ρ', O, pr xs[i], fun X' hX' => ⟨hK X' hX', ht X' B' eL hX'⟩, s2, fun H3 e3 => ?_⟩
    have tk : xs.take (i + 1) = xs.take i ++ [xs[i]] := by rw [List.take_succ, List.getElem?_eq_getElem hlt]; rfl
    have eS3 : Same H1 H3 := (eS.trans e2).trans e3
    have la : acc.length < sizeLine := by
      rw [rA.length, List.length_map]
      have := List.length_filter_le pr (xs.take i)
      rw [List.length_take] at this
      omega
    cases hp : pr xs[i] with
    | false =>
      refine iteF ⟨eS3, acc, e3 _ _ (e2 _ _ hA), ?_⟩
      rw [tk, List.filter_append]
      have : List.filter pr [xs[i]] = [] := by simp [hp]
      rw [this, List.append_nil]
      exact rA.mono (vis_same (e2.trans e3))
    | true =>
      refine iteT ⟨X.K, B', ρ', O, el xs[i], fun X' hX' => ⟨hK X' hX', he hp X' B' eL hX'⟩, s2.same e3, fun v H4 e4 r4 => ⟨acc, e4 _ _ (e3 _ _ (e2 _ _ hA)), la, ?_⟩⟩
      have up : vis B.F ((D, .lst []) :: O) (upd H4 D (.lst (acc ++ [v]))) = vis B.F ((D, .lst []) :: O) H4 := by
        rw [visD, visD]
        funext a
        by_cases q : a = D
        · subst q; simp
        · rw [upd_ne q]
      refine ⟨fun a o q => ?_, acc ++ [v], upd_same, ?_⟩
      · rw [upd_ne (ne_of_none q hD)]
        exact e4 _ _ (eS3 _ _ q)
      · rw [up, tk, List.filter_append]
        have : List.filter pr [xs[i]] = [xs[i]] := by simp [hp]
        rw [this, List.map_append]
        refine (rA.mono (vis_same ((e2.trans e3).trans e4))).append (.cons ?_ .nil)
        rw [← ev]
        exact r4
  · have e : i = xs.length := by omega
    subst e
    refine .inl ⟨by have q := S.stops B' O H' eL sB.m eB hG; rw [hlx] at q; exact q, k D H' acc (e1.free hD) (e1.trans eS) hA ?_⟩
    rw [List.take_length] at rA
    rw [show vis B.F ((D, .lst ((xs.filter pr).map el)) :: O) H' = vis B.F ((D, .lst []) :: O) H' from vis_keys rfl]
    exact rA
theorem en_lcW {α : Type} {xs : List α} {h : α → D} {pr : α → Bool} {el : α → D} {elt iter tg : Expr} {ifs : List Expr} {scope : Scope} {own : List (Str × Nat)} {wi : TI} {G : Om → Prop} {g : TG} {sl : List Nat} {f}
    (hc : X.calm = true) (hN : X.N.Nodup) (hi : EI X B ρ O tg iter wi G (xs.map h)) (hG : G O) (ok : BlkOk X.N X.env.scope scope own)
    (hg : ∀ X', Blk X scope X' → EB X' tg g sl f) (hsl : ∀ j ∈ sl, j ∈ own.map (·.2))
    (hb : ∀ x ∈ xs, ∃ ρ', f (h x) (wipeD ρ (own.map (·.2))) = some ρ' ∧ (∀ X' B', B'.L = B.L → Blk X scope X' → ETs X' B' ρ' O ifs (pr x)) ∧ (pr x = true → ∀ X' B', B'.L = B.L → Blk X scope X' → EV X' B' ρ' O elt (el x)))
    (hz : xs.length < sizeLine) (hs : ∀ x, foldedSetIterable iter X.env x = pure x := by intro _; rfl) :
    EN X B ρ O (.ListComp elt [⟨tg, iter, ifs, 0⟩] scope pos) ((xs.filter pr).map el) :=
  pe_imp (pe_lc (own := own) (g := g) (tt := tAnyTs (Blk X scope) ifs) (te := tAnyE (Blk X scope) elt) hc hN hi.pi ok (fun s H C cl fp => (hg _ ⟨s, H, C, cl, fp, rfl⟩).pg) (fun s H C cl fp => anyTs_ok ⟨s, H, C, cl, fp, rfl⟩) (fun s H C cl fp => anyE_ok ⟨s, H, C, cl, fp, rfl⟩) hs) fun σ H Q q => lcW_imp hc hN hi hG ok hg hsl hb hz σ H Q q
/-- name = [comprehension], the name a local: the list as it stays -/
theorem j_setLc {α : Type} {xs : List α} {h : α → D} {pr : α → Bool} {el : α → D} {elt iter tg : Expr} {ifs : List Expr} {scope : Scope} {own : List (Str × Nat)} {wi : TI} {G : Om → Prop} {g : TG} {sl : List Nat} {f}
    (hc : X.calm = true) (hN : X.N.Nodup) (hi : EI X B ρ O tg iter wi G (xs.map h)) (hG : G O) (ok : BlkOk X.N X.env.scope scope own)
    (hg : ∀ X', Blk X scope X' → EB X' tg g sl f) (hsl : ∀ j ∈ sl, j ∈ own.map (·.2))
    (hb : ∀ x ∈ xs, ∃ ρ', f (h x) (wipeD ρ (own.map (·.2))) = some ρ' ∧ (∀ X' B', B'.L = B.L → Blk X scope X' → ETs X' B' ρ' O ifs (pr x)) ∧ (pr x = true → ∀ X' B', B'.L = B.L → Blk X scope X' → EV X' B' ρ' O elt (el x)))
    (hz : xs.length < sizeLine) {i : Nat} {y : Str} {py : Pos} (hy : X.N[i]? = some y) (hyl : X.env.scope.names.lookup y = some .local) (hsw : swapsWith (.ListComp elt [⟨tg, iter, ifs, 0⟩] scope pos') (some (.Name y py)) pos.line X.env = pure true) {es : List D} (hes : (xs.filter pr).map el = es) (hnx : A.nx (ρ.set i (some (.lst es))) O) (hs : ∀ x, foldedSetIterable iter X.env x = pure x := by intro _; rfl) :
    J1 X B (.Assign [.Name y py] (.ListComp elt [⟨tg, iter, ifs, 0⟩] scope pos') pos) ρ O A :=
  by
  subst hes
  exact ps_imp (ps_setLc (own := own) (g := g) (tt := tAnyTs (Blk X scope) ifs) (te := tAnyE (Blk X scope) elt) hc hN hy hyl hsw hi.pi ok (fun s H C cl fp => (hg _ ⟨s, H, C, cl, fp, rfl⟩).pg) (fun s H C cl fp => anyTs_ok ⟨s, H, C, cl, fp, rfl⟩) (fun s H C cl fp => anyE_ok ⟨s, H, C, cl, fp, rfl⟩) hs) fun Dn σ H ⟨st, p⟩ => lcW_imp hc hN hi hG ok hg hsl hb hz σ H _ ⟨st, fun q H1 vs hp e1 hv r => by
    have fp := st.m.newF hp
    have op := st.m.newO hp
    have r' : Rp X.K (vis B.F O H1) (.ref q) (.lst ((xs.filter pr).map el)) := .lst (vis_some.mpr ⟨fp, op, hv⟩) (r.mono fun a o h => by
      obtain ⟨h1, h2, h3⟩ := vis_some.mp h
      rw [has_cons, Bool.or_eq_false_iff] at h2
      exact vis_some.mpr ⟨h1, h2.2, h3⟩)
    exact p.nx _ O _ H1 hnx ((st.same e1).set r') (vis_same e1)⟩

end
end DL

set_option Elab.async false
set_option linter.all false
set_option maxRecDepth 100000
set_option maxHeartbeats 2000000
namespace DL
open PySem PySem.Spec PyProof.Rows L2

section
variable {X : Cx} {B : Gd} {ρ ρ' : List (Option D)} {O O' O1 O2 : Om} {A : AE} {a b c e o : Expr} {es : List Expr} {d d1 d2 d3 : D} {ds : List D} {pos pos' p apos : Pos} {b1 b2 : Bool} {st : Stmt} {ss rest : List Stmt} {x : Str}
/-! ### built-ins by name -/
theorem ev_bltn {v : V} {u : Value} (hg : Gl X x) (hm : X.mg x = none) (hv : bootBuiltins x = some u) (r : RelV v u) (rp : ∀ H, Rp X.K H v d) (hn : x ≠ "__name__" := by decide) (hd : (x == ("__debug__" : Str)) = false := by decide) : EV X B ρ O (.Name x pos) d :=
  pe_imp (pe_bltn hg hm hv r hn hd) fun σ H Q ⟨st, k⟩ => k v H (Same.refl H) (rp _)
def RC (K : PySem.W.Frag) (B : Gd) (O : Om) (r : List V → Hp → VK → Prop) (ds : List D) (d : D) : Prop :=
  ∀ (xs : List V) (H : Hp) (Q : VK), MOk K B O H → RpL K (vis B.F O H) xs ds → (∀ v H', Same H H' → Rp K (vis B.F O H') v d → Q v H') → r xs H Q
/-- a new list comes -/
def RCN (K : PySem.W.Frag) (B : Gd) (O : Om) (r : List V → Hp → VK → Prop) (ds es : List D) : Prop :=
  ∀ (xs : List V) (H : Hp) (Q : VK), MOk K B O H → RpL K (vis B.F O H) xs ds → (∀ p H' vs, H p = none → Same H H' → H' p = some (.lst vs) → RpL K (vis B.F ((p, .lst es) :: O) H') vs es → Q (.ref p) H') → r xs H Q
theorem call_rc {r : List V → Hp → VK → Prop} (hr : RC X.K B O r ds d) (σ : L2.St) (H : Hp) (Q : VK) (h : tD X.K B ρ O d σ H Q) : tCB r (tA X.K B ρ O ds) σ H Q := by
  obtain ⟨st, k⟩ := h
  exact ⟨st, fun vs H1 e1 r1 => hr vs H1 Q (st.same e1).m r1 fun v H2 e2 r2 => k v H2 (e1.trans e2) r2⟩
theorem call_rcn {r : List V → Hp → VK → Prop} {es : List D} (hr : RCN X.K B O r ds es) (σ : L2.St) (H : Hp) (Q : VK) (h : tN X.K B ρ O es σ H Q) : tCB r (tA X.K B ρ O ds) σ H Q := by
  obtain ⟨st, k⟩ := h
  exact ⟨st, fun vs H1 e1 r1 => hr vs H1 Q (st.same e1).m r1 fun p H2 ws hp e2 hq r2 => k p H2 ws (e1.free hp) (e1.trans e2) hq r2⟩
theorem ev_callB {r : List V → Hp → VK → Prop} {id : String} (hc : CallR X (.builtin id) r) (hr : RC X.K B O r ds d) (hg : Gl X x) (hm : X.mg x = none) (hv : bootBuiltins x = some (.builtin id)) (ha : EA X B ρ O (e :: es) ds) (hn : x ≠ "__name__" := by decide) (hdb : (x == ("__debug__" : Str)) = false := by decide)
    (he : starEach (e :: es) X.env = (false, eval e X.env) :: starEach es X.env := by rfl) (hpl : (backTo pos (starEach es X.env)).any (·.1) = false := by rfl) : EV X B ρ O (.Call (.Name x p) (e :: es) [] pos) d :=
  pe_imp (pe_callB hc hg hm hv ha hn hdb he hpl) (call_rc hr)
theorem ev_callTy {r : List V → Hp → VK → Prop} {T : String} (hc : CallR X (.type T) r) (hr : RC X.K B O r ds d) (hg : Gl X x) (hm : X.mg x = none) (hv : bootBuiltins x = some (.type T)) (ha : EA X B ρ O (e :: es) ds) (hn : x ≠ "__name__" := by decide) (hdb : (x == ("__debug__" : Str)) = false := by decide)
    (he : starEach (e :: es) X.env = (false, eval e X.env) :: starEach es X.env := by rfl) (hpl : (backTo pos (starEach es X.env)).any (·.1) = false := by rfl) : EV X B ρ O (.Call (.Name x p) (e :: es) [] pos) d :=
  pe_imp (pe_callTy hc hg hm hv ha hn hdb he hpl) (call_rc hr)
theorem en_callTy {r : List V → Hp → VK → Prop} {T : String} {ds' : List D} (hc : CallR X (.type T) r) (hr : RCN X.K B O r ds ds') (hg : Gl X x) (hm : X.mg x = none) (hv : bootBuiltins x = some (.type T)) (ha : EA X B ρ O (e :: es) ds) (hn : x ≠ "__name__" := by decide) (hdb : (x == ("__debug__" : Str)) = false := by decide)
    (he : starEach (e :: es) X.env = (false, eval e X.env) :: starEach es X.env := by rfl) (hpl : (backTo pos (starEach es X.env)).any (·.1) = false := by rfl) : EN X B ρ O (.Call (.Name x p) (e :: es) [] pos) ds' :=
  pe_imp (pe_callTy hc hg hm hv ha hn hdb he hpl) (call_rcn hr)
theorem en_callB {r : List V → Hp → VK → Prop} {id : String} {ds' : List D} (hc : CallR X (.builtin id) r) (hr : RCN X.K B O r ds ds') (hg : Gl X x) (hm : X.mg x = none) (hv : bootBuiltins x = some (.builtin id)) (ha : EA X B ρ O (e :: es) ds) (hn : x ≠ "__name__" := by decide) (hdb : (x == ("__debug__" : Str)) = false := by decide)
    (he : starEach (e :: es) X.env = (false, eval e X.env) :: starEach es X.env := by rfl) (hpl : (backTo pos (starEach es X.env)).any (·.1) = false := by rfl) : EN X B ρ O (.Call (.Name x p) (e :: es) [] pos) ds' :=
  pe_imp (pe_callB hc hg hm hv ha hn hdb he hpl) (call_rcn hr)
/-- a new list of what stands -/
theorem new_same {K : PySem.W.Frag} {H : Hp} (m : MOk K B O H) {vs : List V} (r : RpL K (vis B.F O H) vs ds) {Q : VK} (k : ∀ p H' vs, H p = none → Same H H' → H' p = some (.lst vs) → RpL K (vis B.F ((p, .lst ds) :: O) H') vs ds → Q (.ref p) H') :
    ∀ l, H l = none → Q (.ref l) (upd H l (.lst vs)) := fun l hl => k l _ vs hl (same_new hl) upd_same (new_vis m hl r _)
theorem vw_rp {K : PySem.W.Frag} {H : Hp} {xs : List V} (w : Vw (B.L ++ O) d ds) (m : MOk K B O H) (r : RpL K (vis B.F O H) xs [d]) : ∃ a vs, xs = [.ref a] ∧ SqL K H a vs ∧ RpL K (vis B.F O H) vs ds := by
  cases r with
  | cons h r =>
    cases r
    obtain ⟨a, vs, e, q, rl⟩ := w.sql m h
    exact ⟨a, vs, by rw [e], q, rl⟩
/-- a view of a list or a tuple -/
def Vq (O : Om) (d : D) (ds : List D) : Prop := Vw O d ds ∨ d = .tup ds
theorem Vq.sq {K : PySem.W.Frag} {H : Hp} {v : V} (w : Vq (B.L ++ O) d ds) (m : MOk K B O H) (r : Rp K (vis B.F O H) v d) : ∃ a vs, v = .ref a ∧ (SqL K H a vs ∨ SqT K H a vs) ∧ RpL K (vis B.F O H) vs ds := by
  rcases w with w | rfl
  · obtain ⟨a, vs, e, q, rl⟩ := w.sql m r
    exact ⟨a, vs, e, .inl q, rl⟩
  · cases r with
    | tup h r => exact ⟨_, _, rfl, .inr (same_t vis_le h), r⟩
theorem vq_rp {K : PySem.W.Frag} {H : Hp} {xs : List V} (w : Vq (B.L ++ O) d ds) (m : MOk K B O H) (r : RpL K (vis B.F O H) xs [d]) : ∃ a vs, xs = [.ref a] ∧ (SqL K H a vs ∨ SqT K H a vs) ∧ RpL K (vis B.F O H) vs ds := by
  cases r with
  | cons h r =>
    cases r
    obtain ⟨a, vs, e, q, rl⟩ := w.sq m h
    exact ⟨a, vs, by rw [e], q, rl⟩
theorem rc_len {K : PySem.W.Frag} (w : Vq (B.L ++ O) d ds) : RC K B O (fun xs H Q => ∃ p ys, xs = [.ref p] ∧ (SqL K H p ys ∨ SqT K H p ys) ∧ Q (.int ys.length) H) [d] (.int ds.length) := fun xs H Q m r k => by
  obtain ⟨a, vs, e, q, rl⟩ := vq_rp w m r
  exact ⟨a, vs, e, q, by rw [rl.length]; exact k _ H (Same.refl H) (.int _)⟩
theorem rc_lenS {z : Str} {K : PySem.W.Frag} (hz : z.length ≤ sizeLine) : RC K B O (fun xs H Q => ∃ z, xs = [.str z] ∧ z.length ≤ sizeLine ∧ Q (.int z.length) H) [.str z] (.int z.length) := fun xs H Q m r k => by
  cases r with
  | cons h r => cases r; cases h; exact ⟨z, rfl, hz, k _ H (Same.refl H) (.int _)⟩
theorem rc_int {i : Int} {K : PySem.W.Frag} : RC K B O (fun xs H Q => (∃ i, xs = [.int i] ∧ Q (.int i) H) ∨ ∃ k, xs = [.bl k] ∧ Q (.int (if k then 1 else 0)) H) [.int i] (.int i) := fun xs H Q m r k => by
  cases r with
  | cons h r => cases r; cases h; exact .inl ⟨i, rfl, k _ H (Same.refl H) (.int _)⟩
theorem rc_intS {z : Str} {n : Int} {K : PySem.W.Frag} (h1 : PySem.intText? z = some n) (h2 : z.length ≤ 640) : RC K B O (fun xs H Q => ∃ a n, xs = [.str a] ∧ PySem.intText? a = some n ∧ a.length ≤ 640 ∧ Q (.int n) H) [.str z] (.int n) := fun xs H Q m r k => by
  cases r with
  | cons h r => cases r; cases h; exact ⟨z, n, rfl, h1, h2, k _ H (Same.refl H) (.int _)⟩
theorem rc_strI {i : Int} {K : PySem.W.Frag} (hz : i.natAbs.log2 < 1920) : RC K B O (fun xs H Q => ∃ i, xs = [.int i] ∧ i.natAbs.log2 < 1920 ∧ Q (.str (toString i)) H) [.int i] (.str (toString i)) := fun xs H Q m r k => by
  cases r with
  | cons h r => cases r; cases h; exact ⟨i, rfl, hz, k _ H (Same.refl H) (.str _)⟩
theorem rcn_list {K : PySem.W.Frag} (w : Vq (B.L ++ O) d ds) : RCN K B O (fun xs H Q => ∃ p ys, xs = [.ref p] ∧ (SqL K H p ys ∨ SqT K H p ys) ∧ ∀ l, H l = none → Q (.ref l) (upd H l (.lst ys))) [d] ds := fun xs H Q m r k => by
  obtain ⟨a, vs, e, q, rl⟩ := vq_rp w m r
  exact ⟨a, vs, e, q, new_same m rl k⟩
theorem rc_tuple {K : PySem.W.Frag} (w : Vq (B.L ++ O) d ds) : RC K B O (fun xs H Q => ∃ p ys, xs = [.ref p] ∧ ((SqL K H p ys ∧ ∀ l, H l = none → Q (.ref l) (upd H l (.tup ys))) ∨ (SqT K H p ys ∧ Q (.ref p) H))) [d] (.tup ds) := fun xs H Q m r k => by
  rcases w with w | rfl
  · obtain ⟨a, vs, e, q, rl⟩ := vw_rp w m r
    exact ⟨a, vs, e, .inl ⟨q, fun l hl => k _ _ (same_new hl) (.tup (.inl (.inl (m.visNew hl))) (rl.mono (vis_same (same_new hl))))⟩⟩
  · cases r with
    | cons h r =>
      cases r
      cases h with
      | tup hq r => exact ⟨_, _, rfl, .inr ⟨same_t vis_le hq, k _ H (Same.refl H) (.tup hq r)⟩⟩
theorem rc_any {bs : List Bool} {K : PySem.W.Frag} (w : Vw (B.L ++ O) d (bs.map fun x => D.bl x)) : RC K B O (rAny K) [d] (.bl (bs.any id)) := fun xs H Q m r k => by
  obtain ⟨a, vs, e, q, rl⟩ := vw_rp w m r
  have ev := rl.bls
  subst ev
  exact ⟨a, bs, e, q, k _ H (Same.refl H) (.bl _)⟩
theorem rc_all {bs : List Bool} {K : PySem.W.Frag} (w : Vw (B.L ++ O) d (bs.map fun x => D.bl x)) : RC K B O (rAll K) [d] (.bl (bs.all id)) := fun xs H Q m r k => by
  obtain ⟨a, vs, e, q, rl⟩ := vw_rp w m r
  have ev := rl.bls
  subst ev
  exact ⟨a, bs, e, q, k _ H (Same.refl H) (.bl _)⟩

/-! ### isinstance -/
/-- a datum's built-in type -/
inductive DT (O : Om) : D → String → Prop where
  | non : DT O .non "NoneType"
  | bl {b : Bool} : DT O (.bl b) "bool"
  | int {i : Int} : DT O (.int i) "int"
  | str {s : Str} : DT O (.str s) "str"
  | lst {ds : List D} : DT O (.lst ds) "list"
  | tup {ds : List D} : DT O (.tup ds) "tuple"
  | mlst {a : Addr} {ds : List D} : (a, M.lst ds) ∈ O → DT O (.rf a) "list"
  | mdk {a : Addr} {kvs : List (Key × D)} : (a, M.dk kvs) ∈ O → DT O (.rf a) "dict"
theorem dt_ty {K : PySem.W.Frag} {H : Hp} {v : V} {t : String} (h : DT (B.L ++ O) d t) (m : MOk K B O H) (r : Rp K (vis B.F O H) v d) : TyX K H v (.type t) := by
  cases h with
  | non => cases r; exact .base .non
  | bl => cases r; exact .base (.bl _)
  | int => cases r; exact .base (.int _)
  | str => cases r; exact .base (.str _)
  | lst =>
    cases r with
    | lst hq r => exact .base (.lst (vis_le _ _ hq))
  | tup =>
    cases r with
    | tup hq r =>
      rcases same_t vis_le hq with (h | ⟨o, h⟩) | ⟨o, its, n, h, hc, _⟩
      · exact .base (.tup h)
      · exact .fTuple h
      · exact .kTuple h hc
  | mlst hm =>
    cases r
    obtain ⟨vs, h, _⟩ := (List.mem_append.mp hm).elim (m.lent _ _) (m.mem _ _)
    exact .base (.lst h)
  | mdk hm =>
    cases r
    obtain ⟨vs, h, _⟩ := (List.mem_append.mp hm).elim (m.lent _ _) (m.mem _ _)
    exact .base (.dK h)
theorem rc_isi {t c : String} {K : PySem.W.Frag} (h : DT (B.L ++ O) d t) (hk : kitB t c = some b1) : RC K B O (rIsi K) [d, .ty c] (.bl b1) := fun xs H Q m r k => by
  cases r with
  | cons h1 r =>
    cases r with
    | cons h2 r =>
      cases r
      cases h2
      exact ⟨_, _, _, _, b1, rfl, .ty c, dt_ty h m h1, kit_ty hk, k _ H (Same.refl H) (.bl _)⟩

/-! ### items -/
theorem ix_imp {r : R2} (hr : IxR X r) (hrd : RD X.K B O r d1 d2 d) (ha : EV X B ρ O a d1) (hb : EV X B ρ O b d2) (hs : PlainIx b := by intro _ _; rfl) : EV X B ρ O (.Subscript a b pos) d := pe_imp (pe_ix hr ha hb hs) (two hrd)
theorem rd_ixL {i : Int} {K : PySem.W.Frag} (w : Vw (B.L ++ O) d1 ds) (h : atI ds i = some d) : RD K B O (rIxL K) d1 (.int i) d := fun x y H Q m r1 r2 k => by
  cases r2
  obtain ⟨a, vs, e, q, rl⟩ := w.sql m r1
  obtain ⟨j, h1, h2, h3, h4, h5⟩ := atI_get h
  obtain ⟨v, hv, rv⟩ := rl.get h2
  refine ⟨a, vs, i, v, e, rfl, q, ?_, k v H (Same.refl H) rv⟩
  unfold atI at h ⊢
  rw [rl.length]
  cases hi : ixN ds.length i with
  | none => rw [hi] at h; cases h
  | some j' =>
    rw [hi] at h
    have e' := (ixN_seq hi).1
    rw [h1] at e'
    cases e'
    exact hv
theorem rd_ixT {i : Int} {K : PySem.W.Frag} (h : atI ds i = some d) : RD K B O (rIxT K) (.tup ds) (.int i) d := fun x y H Q m r1 r2 k => by
  cases r2
  cases r1 with
  | tup hq rl =>
    obtain ⟨j, h1, h2, h3, h4, h5⟩ := atI_get h
    obtain ⟨v, hv, rv⟩ := rl.get h2
    refine ⟨_, _, i, v, rfl, rfl, same_t vis_le hq, ?_, k v H (Same.refl H) rv⟩
    unfold atI at h ⊢
    rw [rl.length]
    cases hi : ixN ds.length i with
    | none => rw [hi] at h; cases h
    | some j' =>
      rw [hi] at h
      have e' := (ixN_seq hi).1
      rw [h1] at e'
      cases e'
      exact hv
theorem rd_ixS {z : Str} {i : Int} {c : Nat} {K : PySem.W.Frag} (hz : z.length ≤ sizeLine) (h : atI z.cps.toList i = some c) : RD K B O rIxS (.str z) (.int i) (.str ⟨#[c]⟩) := fun x y H Q m r1 r2 k => by
  cases r1; cases r2
  exact ⟨z, i, c, rfl, rfl, hz, h, k _ H (Same.refl H) (.str _)⟩
theorem ev_ixL {i : Int} (ha : EV X B ρ O a d1) (hb : EV X B ρ O b (.int i)) (w : Vw (B.L ++ O) d1 ds) (h : atI ds i = some d) (hs : PlainIx b := by intro _ _; rfl) : EV X B ρ O (.Subscript a b pos) d := ix_imp ix_list (rd_ixL w h) ha hb hs
theorem ev_ixT {i : Int} (ha : EV X B ρ O a (.tup ds)) (hb : EV X B ρ O b (.int i)) (h : atI ds i = some d) (hs : PlainIx b := by intro _ _; rfl) : EV X B ρ O (.Subscript a b pos) d := ix_imp ix_tup (rd_ixT h) ha hb hs
theorem ev_ixS {z : Str} {i : Int} {c : Nat} (ha : EV X B ρ O a (.str z)) (hb : EV X B ρ O b (.int i)) (hz : z.length ≤ sizeLine) (h : atI z.cps.toList i = some c) (hs : PlainIx b := by intro _ _; rfl) : EV X B ρ O (.Subscript a b pos) (.str ⟨#[c]⟩) := ix_imp ix_str (rd_ixS hz h) ha hb hs

/-! ### slices -/
def tOo (K : PySem.W.Frag) (B : Gd) (ρ : List (Option D)) (O : Om) (i : Option Int) : TO := fun σ H Q => StOk K B ρ O σ H ∧ ∀ H', Same H H' → Q i H'
abbrev EO (X : Cx) (B : Gd) (ρ : List (Option D)) (O : Om) (e : Option Expr) (i : Option Int) : Prop := PO X e (tOo X.K B ρ O i)
theorem po_imp {e : Option Expr} {t t' : TO} (h : PO X e t) (w : ∀ σ H Q, t' σ H Q → t σ H Q) : PO X e t' := ⟨fun pins s σ H Q I q => h.run pins s σ H Q I (w σ H Q q)⟩
theorem eo_none : EO X B ρ O none none := po_imp po_none fun σ H Q ⟨st, k⟩ => k H (Same.refl H)
theorem eo_some {i : Int} (h : EV X B ρ O e (.int i)) : EO X B ρ O (some e) (some i) := po_imp (po_some h) fun σ H Q ⟨st, k⟩ => ⟨st, fun v H1 e1 r1 => by cases r1; exact ⟨i, rfl, k H1 e1⟩⟩
def cutD (xs : List D) (lo hi : Option Int) : List D := (xs.drop (HT.sIx xs.length 0 lo)).take (HT.sIx xs.length xs.length hi - HT.sIx xs.length 0 lo)
theorem RpL.cut {K : PySem.W.Frag} {H : Hp} {vs : List V} {ds : List D} (r : RpL K H vs ds) (lo hi : Option Int) : RpL K H (cutV vs lo hi) (cutD ds lo hi) := by
  unfold cutV cutD
  rw [r.length]
  exact (r.drop _).take _
theorem en_slice {lo hi : Option Expr} {l h : Option Int} {p2 : Pos} (ha : EV X B ρ O e d) (w : Vw (B.L ++ O) d ds) (hl : EO X B ρ O lo l) (hh : EO X B ρ O hi h) : EN X B ρ O (.Subscript e (.Slice lo hi none p2) pos) (cutD ds l h) :=
  pe_imp (pe_slice sl_list ha hl hh) fun σ H Q ⟨st, k⟩ => ⟨st, fun v H1 e1 r1 => ⟨st.same e1, fun H2 e2 => ⟨(st.same e1).same e2, fun H3 e3 => by
    have s3 := ((st.same e1).same e2).same e3
    have e13 := e2.trans e3
    obtain ⟨a, vs, ea, q, rl⟩ := w.sql s3.m (r1.mono (vis_same e13))
    exact ⟨a, vs, ea, q, new_same s3.m (rl.cut l h) fun q H' ws hq e' hv r => k q H' ws (e1.free (e13.free hq)) ((e1.trans e13).trans e') hv r⟩⟩⟩⟩
theorem ev_sliceS {lo hi : Option Expr} {l h : Option Int} {p2 : Pos} {z : Str} (ha : EV X B ρ O e (.str z)) (hl : EO X B ρ O lo l) (hh : EO X B ρ O hi h) (hz : z.length ≤ sizeLine) : EV X B ρ O (.Subscript e (.Slice lo hi none p2) pos) (.str (cutS z l h)) :=
  pe_imp (pe_slice sl_str ha hl hh) fun σ H Q ⟨st, k⟩ => ⟨st, fun v H1 e1 r1 => ⟨st.same e1, fun H2 e2 => ⟨(st.same e1).same e2, fun H3 e3 => by
    cases r1
    exact ⟨z, rfl, hz, k _ H3 ((e1.trans e2).trans e3) (.str _)⟩⟩⟩⟩

/-! ### in -/
theorem RpL.scals {K : PySem.W.Frag} {H : Hp} : ∀ {vs : List V} {ds : List D}, RpL K H vs ds → ds.all isScal = true → vs = ds.map scalD
  | _, _, .nil, _ => rfl
  | _, _, .cons h r, e => by
    simp only [List.all_cons, Bool.and_eq_true] at e
    rw [List.map_cons, rp_scal h e.1, r.scals e.2]
theorem rd_in {K : PySem.W.Frag} (w : Vq (B.L ++ O) d2 ds) (h1 : isScal d1 = true) (h2 : ds.all isScal = true) (h3 : flatV (scalD d1) = true) (h4 : (ds.map scalD).all flatV = true) : RD K B O (rIn K false) d1 d2 (.bl (inV (scalD d1) (ds.map scalD))) := fun x y H Q m r1 r2 k => by
  obtain ⟨a, vs, e, q, rl⟩ := w.sq m r2
  rw [rp_scal r1 h1, e]
  have ev := rl.scals h2
  subst ev
  exact ⟨a, _, rfl, q, h3, h4, k _ H (Same.refl H) (.bl _)⟩
theorem rd_notin {K : PySem.W.Frag} (w : Vq (B.L ++ O) d2 ds) (h1 : isScal d1 = true) (h2 : ds.all isScal = true) (h3 : flatV (scalD d1) = true) (h4 : (ds.map scalD).all flatV = true) : RD K B O (rIn K true) d1 d2 (.bl (!inV (scalD d1) (ds.map scalD))) := fun x y H Q m r1 r2 k => by
  obtain ⟨a, vs, e, q, rl⟩ := w.sq m r2
  rw [rp_scal r1 h1, e]
  have ev := rl.scals h2
  subst ev
  exact ⟨a, _, rfl, q, h3, h4, k _ H (Same.refl H) (.bl _)⟩
theorem inV_strs (x : Str) (ys : List Str) : inV (.str x) (ys.map V.str) = decide (x ∈ ys) := by
  unfold inV
  induction ys with
  | nil => simp
  | cons y ys ih =>
    rw [List.map_cons, List.any_cons, ih]
    have : eqV (.str y) (.str x) = decide (y = x) := by
      rw [Bool.eq_iff_iff]; simp [eqV]
    rw [this]
    by_cases h : y = x
    · subst h; simp
    · have h' : ¬ x = y := fun q => h q.symm
      simp [h, h']
theorem inV_ints (x : Int) (ys : List Int) : inV (.int x) (ys.map V.int) = decide (x ∈ ys) := by
  unfold inV
  induction ys with
  | nil => simp
  | cons y ys ih =>
    rw [List.map_cons, List.any_cons, ih]
    have : eqV (.int y) (.int x) = decide (y = x) := by
      rw [Bool.eq_iff_iff]; simp [eqV]
    rw [this]
    by_cases h : y = x
    · subst h; simp
    · have h' : ¬ x = y := fun q => h q.symm
      simp [h, h']
theorem rd_inS {K : PySem.W.Frag} {x : Str} {ys : List Str} (w : Vq (B.L ++ O) d2 (ys.map fun y => D.str y)) : RD K B O (rIn K false) (.str x) d2 (.bl (decide (x ∈ ys))) :=
  rd_imp (rd_in w rfl (by simp [isScal]) rfl (by simp [flatV, scalD])) (by rw [List.map_map]; exact congrArg D.bl (inV_strs x ys))
theorem rd_notinS {K : PySem.W.Frag} {x : Str} {ys : List Str} (w : Vq (B.L ++ O) d2 (ys.map fun y => D.str y)) : RD K B O (rIn K true) (.str x) d2 (.bl (!decide (x ∈ ys))) :=
  rd_imp (rd_notin w rfl (by simp [isScal]) rfl (by simp [flatV, scalD])) (by rw [List.map_map]; exact congrArg (fun b => D.bl (!b)) (inV_strs x ys))
theorem rd_inI {K : PySem.W.Frag} {x : Int} {ys : List Int} (w : Vq (B.L ++ O) d2 (ys.map fun y => D.int y)) : RD K B O (rIn K false) (.int x) d2 (.bl (decide (x ∈ ys))) :=
  rd_imp (rd_in w rfl (by simp [isScal]) rfl (by simp [flatV, scalD])) (by rw [List.map_map]; exact congrArg D.bl (inV_ints x ys))
theorem rd_notinI {K : PySem.W.Frag} {x : Int} {ys : List Int} (w : Vq (B.L ++ O) d2 (ys.map fun y => D.int y)) : RD K B O (rIn K true) (.int x) d2 (.bl (!decide (x ∈ ys))) :=
  rd_imp (rd_notin w rfl (by simp [isScal]) rfl (by simp [flatV, scalD])) (by rw [List.map_map]; exact congrArg (fun b => D.bl (!b)) (inV_ints x ys))
/-- one sign in a text -/
theorem rd_inC {K : PySem.W.Frag} {c : Nat} {z : Str} : RD K B O (fun x y H Q => ∃ (c : Nat) (z : Str), x = .str ⟨#[c]⟩ ∧ y = .str z ∧ Q (.bl (decide (c ∈ z.cps.toList))) H) (.str ⟨#[c]⟩) (.str z) (.bl (decide (c ∈ z.cps.toList))) := fun x y H Q m r1 r2 k => by
  cases r1; cases r2
  exact ⟨c, z, rfl, rfl, k _ H (Same.refl H) (.bl _)⟩

/-! ### methods of texts -/
theorem ev_m1 {id : String} {name : Str} {r : V → List V → Hp → VK → Prop} {z : Str} (slot : Slot "str" name id) (ty : typeOf (.builtin id) = pure (.type "method_descriptor")) (rule : MtR X id r) (ho : EV X B ρ O o (.str z)) (he : EV X B ρ O e d1)
    (hr : RC X.K B O (fun xs H Q => r (.str z) xs H Q) [d1] d)
    (hs : starEach [e] X.env = [(false, eval e X.env)] := by rfl) (hbase : attributeBase o name X.env (eval o X.env) = eval o X.env := by rfl) (hline : (apos.endLine == pos.line) = true := by rfl) : EV X B ρ O (.Call (.Attribute o name apos) [e] [] pos) d :=
  pe_imp (pe_m1 slot ty rule ho he hs hbase hline) fun σ H Q ⟨st, k⟩ => ⟨st, fun v H1 e1 r1 => by
    cases r1
    exact ⟨⟨z, rfl⟩, st.same e1, fun y H2 e2 r2 => hr [y] H2 Q ((st.same e1).same e2).m (.cons r2 .nil) fun v H3 e3 r3 => k v H3 ((e1.trans e2).trans e3) r3⟩⟩
theorem en_m1 {id : String} {name : Str} {r : V → List V → Hp → VK → Prop} {z : Str} (slot : Slot "str" name id) (ty : typeOf (.builtin id) = pure (.type "method_descriptor")) (rule : MtR X id r) (ho : EV X B ρ O o (.str z)) (he : EV X B ρ O e d1)
    (hr : RCN X.K B O (fun xs H Q => r (.str z) xs H Q) [d1] ds)
    (hs : starEach [e] X.env = [(false, eval e X.env)] := by rfl) (hbase : attributeBase o name X.env (eval o X.env) = eval o X.env := by rfl) (hline : (apos.endLine == pos.line) = true := by rfl) : EN X B ρ O (.Call (.Attribute o name apos) [e] [] pos) ds :=
  pe_imp (pe_m1 slot ty rule ho he hs hbase hline) fun σ H Q ⟨st, k⟩ => ⟨st, fun v H1 e1 r1 => by
    cases r1
    exact ⟨⟨z, rfl⟩, st.same e1, fun y H2 e2 r2 => hr [y] H2 Q ((st.same e1).same e2).m (.cons r2 .nil) fun p H3 ws hp e3 hv r3 => k p H3 ws (e1.free (e2.free hp)) ((e1.trans e2).trans e3) hv r3⟩⟩
theorem ev_find {z y : Str} (ho : EV X B ρ O o (.str z)) (he : EV X B ρ O e (.str y)) (hs : starEach [e] X.env = [(false, eval e X.env)] := by rfl) (hbase : attributeBase o "find" X.env (eval o X.env) = eval o X.env := by rfl) (hline : (apos.endLine == pos.line) = true := by rfl) :
    EV X B ρ O (.Call (.Attribute o "find" apos) [e] [] pos) (.int (Txt.find z y)) :=
  ev_m1 F.slot_str_find F.type_str_find mt_find ho he (fun xs H Q m r k => by
    cases r with
    | cons h r => cases r; cases h; exact ⟨z, y, rfl, rfl, k _ H (Same.refl H) (.int _)⟩) hs hbase hline
theorem en_split {z y : Str} (ho : EV X B ρ O o (.str z)) (he : EV X B ρ O e (.str y)) (hy : (y.length == 0) = false) (hz : z.length + 2 ≤ sizeLine) (hs : starEach [e] X.env = [(false, eval e X.env)] := by rfl) (hbase : attributeBase o "split" X.env (eval o X.env) = eval o X.env := by rfl) (hline : (apos.endLine == pos.line) = true := by rfl) :
    EN X B ρ O (.Call (.Attribute o "split" apos) [e] [] pos) ((Txt.split z y).map fun s => D.str s) :=
  en_m1 F.slot_str_split F.type_str_split mt_split ho he (fun xs H Q m r k => by
    cases r with
    | cons h r => cases r; cases h; exact ⟨z, y, rfl, rfl, hy, hz, new_same m (.ofStrs _) k⟩) hs hbase hline
theorem ev_join {z : Str} {ys : List Str} (ho : EV X B ρ O o (.str z)) (he : EV X B ρ O e d1) (w : Vq (B.L ++ O) d1 (ys.map fun s => D.str s)) (hz : (ys.map (·.length)).sum + ys.length * z.length ≤ 16777216)
    (hs : starEach [e] X.env = [(false, eval e X.env)] := by rfl) (hbase : attributeBase o "join" X.env (eval o X.env) = eval o X.env := by rfl) (hline : (apos.endLine == pos.line) = true := by rfl) :
    EV X B ρ O (.Call (.Attribute o "join" apos) [e] [] pos) (.str (Txt.join z ys)) :=
  ev_m1 F.slot_str_join F.type_str_join mt_join ho he (fun xs H Q m r k => by
    obtain ⟨a, vs, e, q, rl⟩ := vq_rp w m r
    have ev := rl.strs
    subst ev
    exact ⟨z, a, ys, rfl, e, q, hz, k _ H (Same.refl H) (.str _)⟩) hs hbase hline

/-! ### lists that change -/
def putO (O : Om) (p : Addr) (m : M) : Om := O.map fun q => if q.1 = p then (p, m) else q
theorem putO_keys {p : Addr} {m : M} : (putO O p m).map (·.1) = O.map (·.1) := by
  unfold putO
  rw [List.map_map]
  refine List.map_congr_left fun q _ => ?_
  show (if q.1 = p then (p, m) else q).1 = q.1
  split
  · rename_i h; exact h.symm
  · rfl
theorem vis_put {F : Addr → Bool} {H : Hp} {p : Addr} {o : HO} (h : has O p = true) : vis F O (upd H p o) = vis F O H := by
  funext a
  unfold vis
  by_cases e : a = p
  · subst e
    rw [h, Bool.or_true, if_pos rfl, if_pos rfl]
  · rw [upd_ne e]
/-- a mutable object gets another content -/
theorem StOk.put {K : PySem.W.Frag} {σ : L2.St} {H : Hp} {p : Addr} {m m' : M} {o : HO} (st : StOk K B ρ O σ H) (hm : (p, m) ∈ O) (r : MRp K (vis B.F O H) (upd H p o) p m') : StOk K B ρ (putO O p m') σ (upd H p o) ∧ vis B.F (putO O p m') (upd H p o) = vis B.F O H := by
  have hp : has O p = true := has_mem.mpr ⟨m, hm⟩
  have ev : vis B.F (putO O p m') (upd H p o) = vis B.F O H := by rw [vis_keys (O' := O) putO_keys, vis_put hp]
  refine ⟨⟨⟨fun a u hb => ?_, fun a u ha => ?_, by rw [putO_keys]; exact st.m.nd, fun a u ha => ?_⟩, by rw [ev]; exact st.env⟩, ev⟩
  · obtain ⟨h1, h2⟩ := st.m.base a u hb
    have ne : a ≠ p := fun z => by rw [z, hp] at h2; cases h2
    exact ⟨by rw [upd_ne ne]; exact h1, by rw [has_keys putO_keys]; exact h2⟩
  · rw [ev]
    unfold putO at ha
    obtain ⟨⟨b, n⟩, hb, e⟩ := List.mem_map.mp ha
    by_cases q : b = p
    · have e' : (if b = p then (p, m') else (b, n)) = (a, u) := e
      rw [if_pos q] at e'
      cases e'
      exact r
    · have e' : (if b = p then (p, m') else (b, n)) = (a, u) := e
      rw [if_neg q] at e'
      cases e'
      exact (st.m.mem _ _ hb).mono (Same.refl _) fun o h => by rw [upd_ne q]; exact h
  · rw [ev]
    have ne : a ≠ p := fun z => by
      obtain ⟨u', hu⟩ := B.ok a (B.lF a u ha)
      have := (st.m.base a u' hu).2
      rw [z, hp] at this; cases this
    exact (st.m.lent a u ha).mono (Same.refl _) fun o h => by rw [upd_ne ne]; exact h
/-- one entry's content changed -/
inductive Put : Om → Addr → M → M → Om → Prop where
  | head {O : Om} {p : Addr} {m m' : M} : Put ((p, m) :: O) p m m' ((p, m') :: O)
  | tail {O O' : Om} {q : Addr × M} {p : Addr} {m m' : M} : Put O p m m' O' → Put (q :: O) p m m' (q :: O')
theorem Put.mem {p : Addr} {m m' : M} : ∀ {O O' : Om}, Put O p m m' O' → (p, m) ∈ O
  | _, _, .head => List.mem_cons_self
  | _, _, .tail h => List.mem_cons_of_mem _ h.mem
theorem Put.eq {p : Addr} {m m' : M} : ∀ {O O' : Om}, Put O p m m' O' → (O.map (·.1)).Nodup → putO O p m' = O'
  | _, _, .head (O := O), nd => by
    rw [List.map_cons, List.nodup_cons] at nd
    show (if p = p then (p, m') else (p, m)) :: putO O p m' = _
    rw [if_pos rfl]
    congr 1
    unfold putO
    refine (List.map_congr_left fun q hq => ?_).trans (List.map_id _)
    have : q.1 ≠ p := fun z => nd.1 (z ▸ List.mem_map_of_mem (f := (·.1)) hq)
    show (if q.1 = p then (p, m') else q) = q
    rw [if_neg this]
  | _, _, .tail (q := q) (O := O) h, nd => by
    rw [List.map_cons, List.nodup_cons] at nd
    have : q.1 ≠ p := fun z => nd.1 (z ▸ List.mem_map_of_mem (f := (·.1)) h.mem)
    show (if q.1 = p then (p, m') else q) :: putO O p m' = _
    rw [if_neg this, h.eq nd.2]
theorem StOk.putP {K : PySem.W.Frag} {σ : L2.St} {H : Hp} {p : Addr} {m m' : M} {o : HO} (st : StOk K B ρ O σ H) (hm : Put O p m m' O') (r : MRp K (vis B.F O H) (upd H p o) p m') : StOk K B ρ O' σ (upd H p o) ∧ vis B.F O' (upd H p o) = vis B.F O H := by
  have h := st.put hm.mem r
  rw [hm.eq st.m.nd] at h
  exact h
theorem eg_append {p : Addr} {ds0 : List D} (ho : EV X B ρ O o (.rf p)) (hm : (p, M.lst ds0) ∈ O) (he : EG X B ρ O e d O1) (hm1 : Put O1 p (.lst ds) (.lst (ds ++ [d])) O2) (hz : ds.length < sizeLine)
    (hbase : attributeBase o "append" X.env (eval o X.env) = eval o X.env := by rfl)
    (hfew : ((backTo pos (starEach [e] X.env)).all (fun x => !x.1) && (backToKw pos (keywordEach [] X.env)).all (fun x => x.1.isSome)
      && decide ([e].length + ([] : List Keyword).length + (if ([] : List Keyword).isEmpty then 0 else 1) < 30)) = true := by rfl)
    (hline : (apos.endLine == pos.line) = true := by rfl) (hs : starEach [e] X.env = (false, eval e X.env) :: starEach [] X.env := by rfl) (hplain : (backTo pos (starEach [] X.env)).any (·.1) = false := by rfl) :
    EG X B ρ O (.Call (.Attribute o "append" apos) [e] [] pos) .non O2 :=
  pe_imp (pe_bm PySem.F.plainAttrs_list PySem.F.slot_list_append PySem.F.type_list_append mt_append ho (pa_cons he pa_nil hs) hbase hfew hline hs hplain) fun σ H Q ⟨st, k⟩ => ⟨st, fun v H1 e1 r1 => by
    cases r1
    have s1 := st.same e1
    obtain ⟨vs, h1, h2⟩ := s1.m.mem _ _ hm
    refine ⟨.inl ⟨rfl, vs, .inl (.inl h1)⟩, s1, fun w H2 s2 e2 r2 => ?_⟩
    obtain ⟨ws, h3, h4⟩ := s2.m.mem _ _ hm1.mem
    obtain ⟨s3, ev⟩ := s2.putP (o := .lst (ws ++ [w])) hm1 ⟨_, upd_same, h4.append (.cons r2 .nil)⟩
    refine ⟨p, ws, w, rfl, rfl, h3, by rw [h4.length]; exact hz, k .non _ s3 ?_ .non⟩
    rw [ev]
    exact (vis_same e1).trans e2⟩
theorem eg_pop {p : Addr} (ho : EV X B ρ O o (.rf p)) (hd : ds[ds.length - 1]? = some d) (hm : Put O p (.lst ds) (.lst ds.dropLast) O')
    (hbase : attributeBase o "pop" X.env (eval o X.env) = eval o X.env := by rfl) (hline : (apos.endLine == pos.line) = true := by rfl) :
    EG X B ρ O (.Call (.Attribute o "pop" apos) [] [] pos) d O' :=
  pe_imp (pe_bm0 PySem.F.plainAttrs_list PySem.F.slot_list_pop PySem.F.type_list_pop mt_pop ho hbase hline) fun σ H Q ⟨st, k⟩ => ⟨st, fun v H1 e1 r1 => by
    cases r1
    have s1 := st.same e1
    obtain ⟨vs, h1, h2⟩ := s1.m.mem _ _ hm.mem
    obtain ⟨w, hw, rw'⟩ := h2.get hd
    obtain ⟨s3, ev⟩ := s1.putP (o := .lst vs.dropLast) hm ⟨_, upd_same, h2.dropLast⟩
    refine ⟨.inl ⟨rfl, vs, .inl (.inl h1)⟩, p, vs, w, rfl, rfl, h1, by rw [h2.length]; exact hw, k w _ s3 ?_ ?_⟩
    · rw [ev]; exact vis_same e1
    · rw [ev]; exact rw'⟩
/-- xs[i] = e -/
theorem j_setIx {p : Addr} {i : Int} {j : Nat} (ho : EV X B ρ O o (.rf p)) (hi : EV X B ρ O c (.int i)) (he : EV X B ρ O e d) (hm : Put O p (.lst ds) (.lst (ds.set j d)) O') (hj : ixN ds.length i = some j) (h : A.nx ρ O')
    (ha : ∀ v, assign (.Subscript o c pos') X.env v = (do
      let ov ← holding [v] (eval o X.env)
      let iv ← holding [v, ov] (eval c X.env)
      standAt pos'
      holding [v, ov, iv] (setItem ov iv v)
      release [v, ov, iv] []) := by intro _; rfl)
    (hs : swapsWithSole [.Subscript o c pos'] e pos.line X.env = pure false := by rfl) (hw : swappedStores [.Subscript o c pos'] e X.env = pure none := by rfl)
    (h1 : (assignEach [.Subscript o c pos'] X.env).map (·.2) = [assign (.Subscript o c pos') X.env] := by rfl) : J1 X B (.Assign [.Subscript o c pos'] e pos) ρ O A :=
  ps_imp (ps_asg he (pg_sub ho hi set_list ha) hs hw h1) fun Dn σ H ⟨st, pp⟩ => ⟨st, fun v H1 e1 r1 => ⟨st.same e1, fun u H2 e2 r2 => ⟨(st.same e1).same e2, fun w H3 e3 r3 => by
    cases r2
    cases r3
    have s3 := ((st.same e1).same e2).same e3
    obtain ⟨vs, h2, h4⟩ := s3.m.mem _ _ hm.mem
    obtain ⟨s4, ev⟩ := s3.putP (o := .lst (vs.set j v)) hm ⟨_, upd_same, h4.set (r1.mono (vis_same (e2.trans e3))) j⟩
    refine ⟨p, vs, i, j, rfl, rfl, h2, by rw [h4.length]; exact hj, pp.nx ρ _ σ _ h s4 ?_⟩
    rw [ev]
    exact vis_same ((e1.trans e2).trans e3)⟩⟩⟩
/-- xs + ys -/
theorem SqL.mutable {K : PySem.W.Frag} {H : Hp} {p : Addr} {xs : List V} (h : H p = some (.lst xs)) : SqL K H p xs := .inl (.inl h)
end
end DL

set_option Elab.async false
set_option linter.all false
set_option maxRecDepth 100000
set_option maxHeartbeats 2000000
namespace DL
open PySem PySem.Spec PyProof.Rows L2

/-! ### what is handed back: mutables become values -/
mutual
inductive Frz (O : Om) : D → D → Prop where
  | refl (d : D) : Frz O d d
  | mlst {p : Addr} {ds ds' : List D} : (p, M.lst ds) ∈ O → FrzL O ds ds' → Frz O (.rf p) (.lst ds')
  | mins {p C : Addr} {ns : List Str} {ds ds' : List D} : (p, M.ins C ns ds) ∈ O → FrzL O ds ds' → Frz O (.rf p) (.obj C ns ds')
  | tup {ds ds' : List D} : FrzL O ds ds' → Frz O (.tup ds) (.tup ds')
  | lst {ds ds' : List D} : FrzL O ds ds' → Frz O (.lst ds) (.lst ds')
inductive FrzL (O : Om) : List D → List D → Prop where
  | refl (ds : List D) : FrzL O ds ds
  | cons {d d' : D} {ds ds' : List D} : Frz O d d' → FrzL O ds ds' → FrzL O (d :: ds) (d' :: ds')
end
section
variable {K : PySem.W.Frag} {B : Gd} {O : Om} {H : Hp}
theorem vis_all : Same (vis B.F O H) (vis B.F [] H) := fun a o h => by
  obtain ⟨h1, h2, h3⟩ := vis_some.mp h
  exact vis_some.mpr ⟨h1, rfl, h3⟩
theorem MOk.visM (m : MOk K B O H) {p : Addr} {o : HO} (hp : has O p = true) (e : H p = some o) : vis B.F [] H p = some o := by
  refine vis_some.mpr ⟨?_, rfl, e⟩
  cases q : B.F p with
  | false => rfl
  | true =>
    obtain ⟨u, e'⟩ := B.ok p q
    have := (m.base p u e').2
    rw [hp] at this; cases this
mutual
theorem Rp.frz {Hv Hv' : Hp} (e : Same Hv Hv') (hm : ∀ p m, (p, m) ∈ O → MRp K Hv Hv' p m) : ∀ {v : V} {d d' : D}, Frz O d d' → Rp K Hv v d → Rp K Hv' v d'
  | _, _, _, .refl d, r => r.mono e
  | _, _, _, .mlst h f, r => by
    cases r
    obtain ⟨vs, h1, h2⟩ := hm _ _ h
    exact .lst h1 (RpL.frz e hm f h2)
  | _, _, _, .mins h f, r => by
    cases r
    obtain ⟨dx, fv, h1, h2, h3⟩ := hm _ _ h
    exact .obj h1 h2 (RpL.frz e hm f h3)
  | _, _, _, .tup f, r => by
    cases r with
    | tup hq r => exact .tup (same_t e hq) (RpL.frz e hm f r)
  | _, _, _, .lst f, r => by
    cases r with
    | lst hq r => exact .lst (e _ _ hq) (RpL.frz e hm f r)
theorem RpL.frz {Hv Hv' : Hp} (e : Same Hv Hv') (hm : ∀ p m, (p, m) ∈ O → MRp K Hv Hv' p m) : ∀ {vs : List V} {ds ds' : List D}, FrzL O ds ds' → RpL K Hv vs ds → RpL K Hv' vs ds'
  | _, _, _, .refl ds, r => r.mono e
  | _, _, _, .cons f g, r => by
    cases r with
    | cons h r => exact .cons (Rp.frz e hm f h) (RpL.frz e hm g r)
end
theorem MOk.frz (m : MOk K B O H) : ∀ p mm, (p, mm) ∈ O → MRp K (vis B.F O H) (vis B.F [] H) p mm := fun p mm h =>
  (m.mem p mm h).mono (Same.refl _) fun o q => m.visM (has_mem.mpr ⟨_, h⟩) q
end

/-! ### contracts -/
/-- what a callee finds: F hidden, the mutables L of the caller readable -/
structure Bor (K : PySem.W.Frag) (F : Addr → Bool) (L O : Om) (H : Hp) : Prop where
  ok : ∀ a, F a = true → ∃ o, H a = some o
  lF : ∀ a m, (a, m) ∈ L → F a = true
  lent : ∀ a m, (a, m) ∈ L → MRp K (vis F O H) H a m
/-- values in, a value out, nothing changed -/
def spP (K : PySem.W.Frag) (Ar : Om → List D → D → Prop) : Sp := fun vs H Q _ => ∃ (F : Addr → Bool) (L : Om) (ds : List D) (d : D), Bor K F L [] H ∧ RpL K (vis F [] H) vs ds ∧ Ar L ds d ∧
  ∀ v H', Same H H' → Rp K (vis F [] H') v d → Q v H'
/-- a new list out, that nobody else holds -/
def spN (K : PySem.W.Frag) (Ar : Om → List D → List D → Prop) : Sp := fun vs H Q _ => ∃ (F : Addr → Bool) (L : Om) (ds es : List D), Bor K F L [] H ∧ RpL K (vis F [] H) vs ds ∧ Ar L ds es ∧
  ∀ p H' ws, H p = none → Same H H' → H' p = some (.lst ws) → RpL K (vis F [(p, .lst es)] H') ws es → Q (.ref p) H'
/-- an __init__: the fields of the new instance -/
def spI (K : PySem.W.Frag) (C : Addr) (Ar : Om → List D → List Str → List D → Prop) : Sp := fun vs H Q _ => ∃ (F : Addr → Bool) (L : Om) (x dx : Addr) (us : List V) (ds : List D) (ns : List Str) (fs : List D), vs = .ref x :: us ∧ Bor K F L [(x, .ins C [] [])] H ∧ F x = false ∧
  H x = some (.ins C dx []) ∧ RpL K (vis F [(x, .ins C [] [])] H) us ds ∧ Ar L ds ns fs ∧
  ∀ H' dx' fv, (∀ a o, a ≠ x → H a = some o → H' a = some o) → H' x = some (.ins C dx' fv) → fv.map (·.1) = ns → RpL K (vis F [(x, .ins C [] [])] H') (fv.map (·.2)) fs → Q .non H'
/-- a def that keeps a promise, with what its call needs -/
structure Fok (P : Program) (w : World) (K : PySem.W.Frag) (mg : Str → Option Value) (base : Heap) (CX : CXT) (k : Nat) (f : Addr) (sp : Sp) : Prop where
  ex : ∃ fd ps, FnOk P w K mg base CX k f fd ps sp ∧ Binds K fd ps []
  kp : PySem.W.keepIn K (.ref f) = true
theorem Fok.raw {P : Program} {w : World} {K : PySem.W.Frag} {mg : Str → Option Value} {base : Heap} {CX : CXT} {k : Nat} {f : Addr} {sp : Sp} (F : Fok P w K mg base CX k f sp) : FnR P w K mg base CX k f sp := by
  obtain ⟨fd, ps, G, b⟩ := F.ex
  have h := G.raw b .nil
  exact h.imp fun vs H Q E q => by rw [List.append_nil]; exact q
/-- .. by its name -/
structure Cal (P : Program) (w : World) (K : PySem.W.Frag) (mg : Str → Option Value) (base : Heap) (CX : CXT) (k : Nat) (x : Str) (sp : Sp) : Prop where
  ex : ∃ f, Fok P w K mg base CX k f sp ∧ mg x = some (.ref f)
theorem pe_callR {X : Cx} {CX : CXT} {k : Nat} {f : Addr} {sp : Sp} {E : XK} {x : Str} {e : Expr} {es : List Expr} {t : TA} {p pos : Pos} (F : FnR X.prog X.w X.K X.mg X.base CX k f sp) (hr : Room k X.A) (hg : Gl X x) (hm : X.mg x = some (.ref f)) (hk : PySem.W.keepIn X.K (.ref f) = true) (hx : Passes CX X E)
    (ha : PA X (e :: es) t) (hdb : (x == ("__debug__" : Str)) = false := by decide) (he : starEach (e :: es) X.env = (false, eval e X.env) :: starEach es X.env := by rfl) (hpl : (backTo pos (starEach es X.env)).any (·.1) = false := by rfl) :
    PE X (.Call (.Name x p) (e :: es) [] pos) (fun σ H Q => t σ H fun vs H1 => sp vs H1 Q E) := by
  refine ⟨fun pins s σ H Q I h => ?_⟩
  refine wpAny_Call_Name_kw (ld_glob I hg hm ?_ hdb)
  refine PySem.W.callWith_K (h₀ := X.base) I.ok.mod.kin hk (thn (ha.run pos pins s σ H _ I h) fun us s1 ⟨vs, H1, I1, r, q⟩ => ⟨I1.kIn, ?_⟩) he hpl
  exact wpAny_call (run_fnR F hr hx I1 r q)

section
variable {X : Cx} {B : Gd} {ρ ρ' : List (Option D)} {O O' O1 O2 : Om} {A : AE} {a b c e o : Expr} {es : List Expr} {d d1 d2 d3 : D} {ds : List D} {pos pos' p apos : Pos} {b1 b2 : Bool} {st : Stmt} {ss rest : List Stmt} {x : Str} {k : Nat} {C : Addr}
/-- the caller's frame for a callee -/
def frF (B : Gd) (O : Om) : Addr → Bool := fun a => B.F a || has O a
theorem vis_fr {H : Hp} : vis (frF B O) [] H = vis B.F O H := by
  funext a
  unfold vis frF
  show (if (B.F a || has O a || false) = true then none else H a) = _
  rw [Bool.or_false]
theorem vis_fr1 {H : Hp} {q : Addr} {m : M} : vis (frF B O) [(q, m)] H = vis B.F ((q, m) :: O) H := by
  funext a
  unfold vis frF
  rw [has_cons, has_cons]
  show (if (B.F a || has O a || (q == a || false)) = true then none else H a) = _
  rw [Bool.or_false, Bool.or_assoc, Bool.or_comm (has O a)]
theorem fr_ok {K : PySem.W.Frag} {H : Hp} (m : MOk K B O H) : ∀ a, frF B O a = true → ∃ o, H a = some o := fun a h => by
  unfold frF at h
  rw [Bool.or_eq_true] at h
  rcases h with h | h
  · obtain ⟨o, e⟩ := B.ok a h
    exact ⟨o, (m.base a o e).1⟩
  · obtain ⟨mm, e⟩ := has_mem.mp h
    exact (m.mem a mm e).some
theorem bor_of {K : PySem.W.Frag} {H : Hp} (m : MOk K B O H) : Bor K (frF B O) (B.L ++ O) [] H :=
  ⟨fr_ok m, fun a mm h => by
    unfold frF
    rcases List.mem_append.mp h with h | h
    · rw [B.lF a mm h]; rfl
    · rw [has_mem.mpr ⟨mm, h⟩, Bool.or_true], fun a mm h => by
    rw [vis_fr]
    exact (List.mem_append.mp h).elim (m.lent a mm) (m.mem a mm)⟩
theorem spP_use {K : PySem.W.Frag} {Ar : Om → List D → D → Prop} {H : Hp} {Q : VK} {E : XK} {vs : List V} (m : MOk K B O H) (r : RpL K (vis B.F O H) vs ds) (h : Ar (B.L ++ O) ds d) (k : ∀ v H', Same H H' → Rp K (vis B.F O H') v d → Q v H') : spP K Ar vs H Q E :=
  ⟨frF B O, B.L ++ O, ds, d, bor_of m, by rw [vis_fr]; exact r, h, fun v H' e r' => k v H' e (by rw [vis_fr] at r'; exact r')⟩
theorem spN_use {K : PySem.W.Frag} {Ar : Om → List D → List D → Prop} {H : Hp} {Q : VK} {E : XK} {vs : List V} {fs : List D} (m : MOk K B O H) (r : RpL K (vis B.F O H) vs ds) (h : Ar (B.L ++ O) ds fs) (k : ∀ p H' ws, H p = none → Same H H' → H' p = some (.lst ws) → RpL K (vis B.F ((p, .lst fs) :: O) H') ws fs → Q (.ref p) H') : spN K Ar vs H Q E :=
  ⟨frF B O, B.L ++ O, ds, fs, bor_of m, by rw [vis_fr]; exact r, h, fun p H' ws hp e hv r' => k p H' ws hp e hv (by rw [vis_fr1] at r'; exact r')⟩
/-- f(..) -/
theorem ev_call {Ar : Om → List D → D → Prop} (c : Cal X.prog X.w X.K X.mg X.base CX0 k x (spP X.K Ar)) (hr : Room k X.A) (hg : Gl X x) (ha : EA X B ρ O (e :: es) ds) (h : Ar (B.L ++ O) ds d) (hdb : (x == ("__debug__" : Str)) = false := by decide)
    (he : starEach (e :: es) X.env = (false, eval e X.env) :: starEach es X.env := by rfl) (hpl : (backTo pos (starEach es X.env)).any (·.1) = false := by rfl) : EV X B ρ O (.Call (.Name x p) (e :: es) [] pos) d := by
  obtain ⟨f, F, hm⟩ := c.ex
  exact pe_imp (pe_callR (E := E0) F.raw hr hg hm F.kp pass0 ha hdb he hpl) fun σ H Q ⟨st, k⟩ => ⟨st, fun vs H1 e1 r1 => spP_use (st.same e1).m r1 h fun v H2 e2 r2 => k v H2 (e1.trans e2) r2⟩
theorem eg_call {Ar : Om → List D → D → Prop} (c : Cal X.prog X.w X.K X.mg X.base CX0 k x (spP X.K Ar)) (hr : Room k X.A) (hg : Gl X x) (ha : EGA X B ρ O (e :: es) ds O') (h : Ar (B.L ++ O') ds d) (hdb : (x == ("__debug__" : Str)) = false := by decide)
    (he : starEach (e :: es) X.env = (false, eval e X.env) :: starEach es X.env := by rfl) (hpl : (backTo pos (starEach es X.env)).any (·.1) = false := by rfl) : EG X B ρ O (.Call (.Name x p) (e :: es) [] pos) d O' := by
  obtain ⟨f, F, hm⟩ := c.ex
  exact pe_imp (pe_callR (E := E0) F.raw hr hg hm F.kp pass0 ha hdb he hpl) fun σ H Q ⟨st, k⟩ => ⟨st, fun vs H1 s1 e1 r1 => spP_use s1.m r1 h fun v H2 e2 r2 => k v H2 (s1.same e2) (e1.trans (vis_same e2)) r2⟩
theorem en_call {Ar : Om → List D → List D → Prop} {fs : List D} (c : Cal X.prog X.w X.K X.mg X.base CX0 k x (spN X.K Ar)) (hr : Room k X.A) (hg : Gl X x) (ha : EA X B ρ O (e :: es) ds) (h : Ar (B.L ++ O) ds fs) (hdb : (x == ("__debug__" : Str)) = false := by decide)
    (he : starEach (e :: es) X.env = (false, eval e X.env) :: starEach es X.env := by rfl) (hpl : (backTo pos (starEach es X.env)).any (·.1) = false := by rfl) : EN X B ρ O (.Call (.Name x p) (e :: es) [] pos) fs := by
  obtain ⟨f, F, hm⟩ := c.ex
  exact pe_imp (pe_callR (E := E0) F.raw hr hg hm F.kp pass0 ha hdb he hpl) fun σ H Q ⟨st, k⟩ => ⟨st, fun vs H1 e1 r1 => spN_use (st.same e1).m r1 h fun p H2 ws hp e2 hv r2 => k p H2 ws (e1.free hp) (e1.trans e2) hv r2⟩

/-! ### fields -/
theorem look_at : ∀ {fv : List (Str × V)} {ns : List Str} {f : Str} {i : Nat} {v : V}, fv.map (·.1) = ns → ns.idxOf? f = some i → (fv.map (·.2))[i]? = some v → fv.lookup f = some v
  | [], _, _, _, _, rfl, h, _ => by simp at h
  | (g, u) :: fv, _, f, i, v, rfl, h, hv => by
    rw [List.map_cons, List.idxOf?_cons] at h
    by_cases e : g = f
    · subst e
      simp at h
      subst h
      simp at hv
      subst hv
      simp [List.lookup]
    · have e1 : (g == f) = false := beq_eq_false_iff_ne.mpr e
      have e2 : (f == g) = false := beq_eq_false_iff_ne.mpr (Ne.symm e)
      rw [e1] at h
      simp only [Bool.false_eq_true, if_false, Option.map_eq_some_iff] at h
      obtain ⟨j, hj, rfl⟩ := h
      rw [List.lookup_cons, e2]
      exact look_at rfl hj (by simpa using hv)
theorem look_no : ∀ {fv : List (Str × V)} {ns : List Str} {f : Str}, fv.map (·.1) = ns → ns.idxOf? f = none → fv.lookup f = none
  | [], _, _, rfl, _ => rfl
  | (g, u) :: fv, _, f, rfl, h => by
    rw [List.map_cons, List.idxOf?_cons] at h
    by_cases e : g = f
    · subst e; simp at h
    · have e1 : (g == f) = false := beq_eq_false_iff_ne.mpr e
      have e2 : (f == g) = false := beq_eq_false_iff_ne.mpr (Ne.symm e)
      rw [e1] at h
      simp only [Bool.false_eq_true, if_false, Option.map_eq_none_iff] at h
      rw [List.lookup_cons, e2]
      exact look_no rfl h
/-- an instance: one that stays, or a mutable -/
def Vo (O : Om) (d : D) (C : Addr) (ns : List Str) (ds : List D) : Prop := d = .obj C ns ds ∨ ∃ a, d = .rf a ∧ (a, M.ins C ns ds) ∈ O
theorem Vo.at {K : PySem.W.Frag} {H : Hp} {v : V} {ns : List Str} (w : Vo (B.L ++ O) d C ns ds) (m : MOk K B O H) (r : Rp K (vis B.F O H) v d) : ∃ a dx fv, v = .ref a ∧ H a = some (.ins C dx fv) ∧ fv.map (·.1) = ns ∧ RpL K (vis B.F O H) (fv.map (·.2)) ds := by
  rcases w with rfl | ⟨a, rfl, h⟩
  · cases r with
    | obj h1 h2 h3 => exact ⟨_, _, _, rfl, vis_le _ _ h1, h2, h3⟩
  · cases r
    obtain ⟨dx, fv, h1, h2, h3⟩ := (List.mem_append.mp h).elim (m.lent _ _) (m.mem _ _)
    exact ⟨_, dx, fv, rfl, h1, h2, h3⟩
theorem ev_fld {ns : List Str} {f : Str} {i : Nat} (he : EV X B ρ O e d1) (w : Vo (B.L ++ O) d1 C ns ds) (c : Cls X.K C) (n : NoAttr X.K C f) (hi : ns.idxOf? f = some i) (hd : ds[i]? = some d) (hb : attributeBase e f X.env (eval e X.env) = eval e X.env := by rfl) :
    EV X B ρ O (.Attribute e f pos) d :=
  pe_imp (pe_fld he hb) fun σ H Q ⟨st, k⟩ => ⟨st, fun v H1 e1 r1 => by
    obtain ⟨a, dx, fv, ea, h1, h2, h3⟩ := w.at (st.same e1).m r1
    obtain ⟨u, hu, ru⟩ := h3.get hd
    exact ⟨a, C, dx, fv, u, ea, h1, c, n, look_at h2 hi hu, k u H1 e1 ru⟩⟩
/-- C.NAME -/
theorem ev_cval {f : Str} {mc : Value} {v : V} {u : Value} (he : EV X B ρ O e (.rf C)) (rd : ClX.CRead X.K C mc) (cv : ClX.CVal X.K C mc f v u) (rp : ∀ H, Rp X.K H v d) (hb : attributeBase e f X.env (eval e X.env) = eval e X.env := by rfl) : EV X B ρ O (.Attribute e f pos) d :=
  pe_imp (ClX.pe_cval he hb) fun σ H Q ⟨st, k⟩ => ⟨st, fun v H1 e1 r1 => by
    cases r1
    exact ⟨C, mc, _, _, rfl, rd, cv, k _ H1 e1 (rp _)⟩⟩
/-- self.f = e, a new field -/
theorem put_new : ∀ {fv : List (Str × V)} {f : Str} {v : V}, (fv.map (·.1)).idxOf? f = none → putF f v fv = fv ++ [(f, v)]
  | [], _, _, _ => rfl
  | (g, u) :: fv, f, v, h => by
    rw [List.map_cons, List.idxOf?_cons] at h
    by_cases e : g = f
    · subst e; simp at h
    · have e1 : (g == f) = false := beq_eq_false_iff_ne.mpr e
      rw [e1] at h
      simp only [Bool.false_eq_true, if_false, Option.map_eq_none_iff] at h
      show (if g = f then (g, v) :: fv else (g, u) :: putF f v fv) = _
      rw [if_neg e, put_new h]
      rfl
theorem put_at : ∀ {fv : List (Str × V)} {f : Str} {v : V} {i : Nat}, (fv.map (·.1)).idxOf? f = some i → (putF f v fv).map (·.1) = fv.map (·.1) ∧ (putF f v fv).map (·.2) = (fv.map (·.2)).set i v
  | [], _, _, _, h => by simp at h
  | (g, u) :: fv, f, v, i, h => by
    rw [List.map_cons, List.idxOf?_cons] at h
    by_cases e : g = f
    · subst e
      simp at h
      subst h
      have : putF g v ((g, u) :: fv) = (g, v) :: fv := by
        show (if g = g then (g, v) :: fv else (g, u) :: putF g v fv) = _
        rw [if_pos rfl]
      rw [this]
      exact ⟨rfl, rfl⟩
    · have e1 : (g == f) = false := beq_eq_false_iff_ne.mpr e
      rw [e1] at h
      simp only [Bool.false_eq_true, if_false, Option.map_eq_some_iff] at h
      obtain ⟨j, hj, rfl⟩ := h
      have : putF f v ((g, u) :: fv) = (g, u) :: putF f v fv := by
        show (if g = f then (g, v) :: fv else (g, u) :: putF f v fv) = _
        rw [if_neg e]
      obtain ⟨h1, h2⟩ := put_at (v := v) hj
      rw [this, List.map_cons, List.map_cons, List.map_cons, List.map_cons, h1, h2]
      exact ⟨rfl, rfl⟩
theorem j_fldNew {q : Addr} {ns : List Str} {f : Str} (ho : EV X B ρ O o (.rf q)) (he : EV X B ρ O e d) (c : Cls X.K C) (n : NoAttr X.K C f) (hm : Put O q (.ins C ns ds) (.ins C (ns ++ [f]) (ds ++ [d])) O') (hi : ns.idxOf? f = none) (hl : ns.length < 1000)
    (h : A.nx ρ O') (hs : swapsWith e (some (.Attribute o f pos')) pos.line X.env = pure false) : J1 X B (.Assign [.Attribute o f pos'] e pos) ρ O A :=
  ps_imp (ps_fld ho he hs) fun Dn σ H ⟨st, pp⟩ => ⟨st, fun v H1 e1 r1 => ⟨st.same e1, fun u H2 e2 r2 => by
    cases r2
    have s2 := (st.same e1).same e2
    obtain ⟨dx, fv, h1, h2, h3⟩ := s2.m.mem _ _ hm.mem
    have hp : putF f v fv = fv ++ [(f, v)] := put_new (by rw [h2]; exact hi)
    obtain ⟨s3, ev⟩ := s2.putP (o := .ins C dx (putF f v fv)) hm ⟨dx, _, upd_same, by rw [hp, List.map_append, h2]; rfl, by
      rw [hp, List.map_append]
      exact h3.append (.cons (r1.mono (vis_same e2)) .nil)⟩
    refine ⟨q, C, dx, fv, rfl, h1, c, n, by rw [← List.length_map (f := (·.1)) (as := fv), h2]; exact hl, pp.nx ρ _ σ _ h s3 ?_⟩
    rw [ev]
    exact vis_same (e1.trans e2)⟩⟩
theorem j_fldSet {q : Addr} {ns : List Str} {f : Str} {i : Nat} (ho : EV X B ρ O o (.rf q)) (he : EV X B ρ O e d) (c : Cls X.K C) (n : NoAttr X.K C f) (hm : Put O q (.ins C ns ds) (.ins C ns (ds.set i d)) O') (hi : ns.idxOf? f = some i) (hl : ns.length < 1000)
    (h : A.nx ρ O') (hs : swapsWith e (some (.Attribute o f pos')) pos.line X.env = pure false) : J1 X B (.Assign [.Attribute o f pos'] e pos) ρ O A :=
  ps_imp (ps_fld ho he hs) fun Dn σ H ⟨st, pp⟩ => ⟨st, fun v H1 e1 r1 => ⟨st.same e1, fun u H2 e2 r2 => by
    cases r2
    have s2 := (st.same e1).same e2
    obtain ⟨dx, fv, h1, h2, h3⟩ := s2.m.mem _ _ hm.mem
    obtain ⟨g1, g2⟩ := put_at (fv := fv) (v := v) (f := f) (i := i) (by rw [h2]; exact hi)
    obtain ⟨s3, ev⟩ := s2.putP (o := .ins C dx (putF f v fv)) hm ⟨dx, _, upd_same, by rw [g1, h2], by
      rw [g2]
      exact h3.set (r1.mono (vis_same e2)) i⟩
    refine ⟨q, C, dx, fv, rfl, h1, c, n, by rw [← List.length_map (f := (·.1)) (as := fv), h2]; exact hl, pp.nx ρ _ σ _ h s3 ?_⟩
    rw [ev]
    exact vis_same (e1.trans e2)⟩⟩

/-! ### methods, properties, instances called -/
/-- o.m(..), o a value -/
theorem ev_meth {Ar : Om → List D → D → Prop} {ns : List Str} {m : Str} {f : Addr} (he : EV X B ρ O o (.obj C ns ds)) (c : Cls X.K C) (hm : Meth X.K C m f) (F : Fok X.prog X.w X.K X.mg X.base CX0 k f (spP X.K Ar)) (hr : Room k X.A) (ha : EA X B ρ O (e :: es) es') (hn : ns.idxOf? m = none)
    (h : Ar (B.L ++ O) (.obj C ns ds :: es') d) (pl : Sem Bool)
    (hst : starEach (e :: es) X.env = (false, eval e X.env) :: starEach es X.env := by rfl) (hpl : (backTo pos (starEach es X.env)).any (·.1) = false := by rfl)
    (ht : eval (.Call (.Attribute o m apos) (e :: es) [] pos) X.env = (do
      let ov ← eval o X.env
      standAt apos.atName
      let (f, first) ← holding [ov] (getMethod ov m pl)
      callWith pos f first (backTo pos (starEach (e :: es) X.env)) (backToKw pos (keywordEach [] X.env))) := by rfl) :
    EV X B ρ O (.Call (.Attribute o m apos) (e :: es) [] pos) d :=
  pe_imp (pe_methR (E := E0) (pl := pl) he c hm F.raw hr pass0 ha hst hpl ht) fun σ H Q ⟨st, k⟩ => ⟨st, fun v H1 e1 r1 => by
    cases r1 with
    | obj h1 h2 h3 => exact ⟨_, _, _, rfl, vis_le _ _ h1, look_no h2 hn, st.same e1, fun vs H2 e2 r2 => spP_use ((st.same e1).same e2).m (.cons ((Rp.obj h1 h2 h3).mono (vis_same e2)) r2) h fun w H3 e3 r3 => k w H3 ((e1.trans e2).trans e3) r3⟩⟩
/-- o.f, a property -/
theorem ev_prop {Ar : Om → List D → D → Prop} {ns : List Str} {f : Str} {pp g : Addr} (he : EV X B ρ O o (.obj C ns ds)) (c : Cls X.K C) (hp : PropOf X.K C f pp g) (F : Fok X.prog X.w X.K X.mg X.base CX0 k g (spP X.K Ar)) (hr : Room (k + 1) X.A)
    (h : Ar (B.L ++ O) [.obj C ns ds] d) (hb : attributeBase o f X.env (eval o X.env) = eval o X.env := by rfl) : EV X B ρ O (.Attribute o f pos) d := by
  obtain ⟨fd, ps, G, b⟩ := F.ex
  exact pe_imp (pe_prop (E := E0) (dvs := []) he c hp G hr b .nil pass0 hb) fun σ H Q ⟨st, k⟩ => ⟨st, fun v H1 e1 r1 => by
    cases r1 with
    | obj h1 h2 h3 => exact ⟨_, _, _, rfl, vis_le _ _ h1, spP_use (st.same e1).m (.cons (Rp.obj h1 h2 h3) .nil) h fun w H3 e3 r3 => k w H3 (e1.trans e3) r3⟩⟩
/-- f(..), f an instance -/
theorem ev_callO {Ar : Om → List D → D → Prop} {ns : List Str} {g : Addr} {fe : Expr} {es' : List D} (hf : EV X B ρ O fe (.obj C ns ds)) (c : StX.CallO X.K C g) (F : Fok X.prog X.w X.K X.mg X.base CX0 k g (spP X.K Ar)) (hr : Room k X.A) (ha : EA X B ρ O (e :: es) es') (h : Ar (B.L ++ O) (.obj C ns ds :: es') d)
    (ht : eval (.Call fe (e :: es) [] pos) X.env = (do callWith pos (← eval fe X.env) [] (backTo pos (starEach (e :: es) X.env)) (backToKw pos (keywordEach [] X.env))) := by rfl)
    (he : starEach (e :: es) X.env = (false, eval e X.env) :: starEach es X.env := by rfl) (hpl : (backTo pos (starEach es X.env)).any (·.1) = false := by rfl) : EV X B ρ O (.Call fe (e :: es) [] pos) d :=
  pe_imp (StX.pe_callO (E := E0) hf c F.raw hr pass0 ha ht he hpl) fun σ H Q ⟨st, k⟩ => ⟨st, fun v H1 e1 r1 => by
    cases r1 with
    | obj h1 h2 h3 => exact ⟨_, rfl, st.same e1, fun vs H2 e2 r2 => ⟨.inr ⟨_, _, e2 _ _ (vis_le _ _ h1)⟩, spP_use ((st.same e1).same e2).m (.cons ((Rp.obj h1 h2 h3).mono (vis_same e2)) r2) h fun w H3 e3 r3 => k w H3 ((e1.trans e2).trans e3) r3⟩⟩⟩
/-- C.m(..), m a classmethod -/
theorem ev_cmeth {Ar : Om → List D → D → Prop} {m : Str} {mc : Value} {pp g : Addr} {es' : List D} (he : EV X B ρ O o (.rf C)) (rd : ClX.CRead X.K C mc) (c : ClX.CMet X.K C mc m pp g) (F : Fok X.prog X.w X.K X.mg X.base CX0 k g (spP X.K Ar)) (hr : Room k X.A) (ha : EA X B ρ O (e :: es) es')
    (h : Ar (B.L ++ O) (.rf C :: es') d) (pl : Sem Bool)
    (hst : starEach (e :: es) X.env = (false, eval e X.env) :: starEach es X.env := by rfl) (hpl : (backTo pos (starEach es X.env)).any (·.1) = false := by rfl)
    (ht : eval (.Call (.Attribute o m apos) (e :: es) [] pos) X.env = (do
      let ov ← eval o X.env
      standAt apos.atName
      let (f, first) ← holding [ov] (getMethod ov m pl)
      callWith pos f first (backTo pos (starEach (e :: es) X.env)) (backToKw pos (keywordEach [] X.env))) := by rfl) :
    EV X B ρ O (.Call (.Attribute o m apos) (e :: es) [] pos) d :=
  pe_imp (ClX.pe_cmeth (E := E0) (pl := pl) he rd c F.raw hr pass0 ha hst hpl ht) fun σ H Q ⟨st, k⟩ => ⟨st, fun v H1 e1 r1 => by
    cases r1
    exact ⟨rfl, st.same e1, fun vs H2 e2 r2 => spP_use ((st.same e1).same e2).m (.cons (.rf C) r2) h fun w H3 e3 r3 => k w H3 ((e1.trans e2).trans e3) r3⟩⟩
/-- C(..), a value -/
theorem made_use {K : PySem.W.Frag} {Ar : Om → List D → List Str → List D → Prop} {H : Hp} {Q : VK} {E : XK} {vs : List V} {ns : List Str} {fs : List D} (m : MOk K B O H) (r : RpL K (vis B.F O H) vs ds) (h : Ar (B.L ++ O) ds ns fs)
    (k : ∀ v H', Same H H' → Rp K (vis B.F O H') v (.obj C ns fs) → Q v H') (x dx : Addr) (hx : H x = none) (hdx : H dx = none) (ne : dx ≠ x) :
    spI K C Ar (V.ref x :: vs) (upd (upd H dx (.own x)) x (.ins C dx [])) (fun v H2 => v = .non ∧ Q (.ref x) H2) E := by
  have s1 : Same H (upd (upd H dx (.own x)) x (.ins C dx [])) := fun b o e => by
    rw [upd_ne (ne_of_none e hx), upd_ne (ne_of_none e hdx)]
    exact e
  have fx : frF B O x = false := by
    unfold frF
    rw [m.newF hx, m.newO hx]; rfl
  have v1 : Same (vis B.F O H) (vis (frF B O) [(x, .ins C [] [])] (upd (upd H dx (.own x)) x (.ins C dx []))) := fun a o q => by
    obtain ⟨h1, h2, h3⟩ := vis_some.mp q
    have na : a ≠ x := ne_of_none h3 hx
    refine vis_some.mpr ⟨by unfold frF; rw [h1, h2]; rfl, ?_, s1 _ _ h3⟩
    rw [has_cons]
    show (x == a || false) = false
    rw [Bool.or_false]
    exact beq_eq_false_iff_ne.mpr (Ne.symm na)
  have bo := bor_of m
  refine ⟨frF B O, B.L ++ O, x, dx, vs, ds, ns, fs, rfl, ⟨fun a h => let ⟨o, e⟩ := fr_ok m a h; ⟨o, s1 _ _ e⟩, bo.lF, fun a mm hm => (show MRp K (vis B.F O H) H a mm by rw [← vis_fr]; exact bo.lent a mm hm).mono v1 fun o q => s1 _ _ q⟩, fx, upd_same, r.mono v1, h, fun H' dx' fv hk hx' hns r' => ⟨rfl, ?_⟩⟩
  · have s2 : Same H H' := fun b o e => hk b o (ne_of_none e hx) (s1 b o e)
    refine k _ H' s2 (.obj (vis_some.mpr ⟨m.newF hx, m.newO hx, hx'⟩) hns (r'.mono fun a o q => ?_))
    obtain ⟨h1, h2, h3⟩ := vis_some.mp q
    unfold frF at h1
    rw [Bool.or_eq_false_iff] at h1
    exact vis_some.mpr ⟨h1.1, h1.2, h3⟩
theorem ev_make {Ar : Om → List D → List Str → List D → Prop} {f : Addr} {ns : List Str} {fs : List D} (Mk : Mk X.K C f) (F : Fok X.prog X.w X.K X.mg X.base CX0 k f (spI X.K C Ar)) (hr : Room (k + 1) X.A) (hg : Gl X x) (hm : X.mg x = some (.ref C)) (ha : EA X B ρ O (e :: es) ds) (h : Ar (B.L ++ O) ds ns fs) (hdb : (x == ("__debug__" : Str)) = false := by decide)
    (he : starEach (e :: es) X.env = (false, eval e X.env) :: starEach es X.env := by rfl) (hpl : (backTo pos (starEach es X.env)).any (·.1) = false := by rfl) : EV X B ρ O (.Call (.Name x p) (e :: es) [] pos) (.obj C ns fs) :=
  pe_imp (StX.pe_makeR (E := E0) Mk F.raw hr hg hm pass0 ha hdb he hpl) fun σ H Q ⟨st, k⟩ => ⟨st, fun vs H1 e1 r1 y dy hy hdy ne => made_use (st.same e1).m r1 h (fun v H2 e2 r2 => k v H2 (e1.trans e2) r2) y dy hy hdy ne⟩

/-! ### a def keeps its promise -/
end
section
variable {P : Program} {w : World} {K : PySem.W.Frag} {mg : Str → Option Value} {base : Heap}
def startD (N : List Str) (ds : List D) : List (Option D) := ds.map some ++ List.replicate (N.length - ds.length) none
theorem start_env {Hv : Hp} {N : List Str} {vs : List V} {ds : List D} (r : RpL K Hv vs ds) : EnvR K Hv (L2.start N vs) (startD N ds) := by
  have hl := r.length
  refine ⟨by simp [L2.start, startD, hl], fun i d e => ?_⟩
  unfold startD at e
  unfold L2.start
  by_cases hi : i < ds.length
  · rw [List.getElem?_append_left (by simpa using hi)] at e
    rw [List.getElem?_append_left (by rw [List.length_map, hl]; exact hi)]
    rw [List.getElem?_map] at e
    obtain ⟨d', h1, h2⟩ := Option.map_eq_some_iff.mp e
    cases h2
    obtain ⟨v, hv, rv⟩ := r.get h1
    exact ⟨v, by rw [List.getElem?_map, hv]; rfl, rv⟩
  · rw [List.getElem?_append_right (by simpa using hi)] at e
    obtain ⟨_, h⟩ := List.mem_replicate.mp (List.mem_of_getElem? e)
    cases h
theorem fn_pure {Ar : Om → List D → D → Prop} {x qual : Str} {st : Stmt} {f : Addr} {fd : FuncData} {N ps : List Str} {k : Nat} (F : Fun K x qual st f fd) (S : FnScope N ps (defScope st)) (len : ∀ L ds d, Ar L ds d → ds.length = ps.length)
    (h : ∀ (cdv : Value) (A : Around) (outer : List Env) (s : Shared) (H : Hp) (E : XK) (B : Gd) (ds : List D) (d : D), Room k (A.deeper (envOfC qual (defScope st) s.heap.objs.size f cdv)) → Ar B.L ds d →
      J (cxOf CX0 P w K mg base N qual (defScope st) f cdv A outer s H E).nox B (defBody st) (startD N ds) [] { nx := fun _ _ => d = .non, rt := fun d' O' => Frz O' d' d }) : FnOk P w K mg base CX0 (k + 1) f fd ps (spP K Ar) := by
  refine F.ok S (fun vs H Q E q => ?_) (fun cdv A outer s H vs Q E hr q => ?_)
  · obtain ⟨F', L, ds, d, _, r, ha, _⟩ := q
    rw [r.length]; exact len L ds d ha
  · obtain ⟨F', L, ds, d, bo, r, ha, kk⟩ := q
    refine ⟨_, h cdv A outer s H E ⟨F', H, fun c d _ H => E c d H, L, bo.ok, bo.lF⟩ ds d hr ha, ⟨⟨fun a o e => ⟨e, rfl⟩, (fun a m hm => nomatch hm), (by simp), bo.lent⟩, start_env r⟩, ?_, ?_, fun _ _ _ _ z => z.elim, fun _ _ _ _ z => z.elim, fun _ _ _ _ _ _ _ _ _ z => z.elim⟩
    · intro ρ O σ H' e s' _
      subst e
      exact kk _ H' (fun a o q => (s'.m.base a o q).1) .non
    · intro d' O' v H' fz m r'
      exact kk v H' (fun a o q => (m.base a o q).1) (Rp.frz vis_all m.frz fz r')
theorem fn_new {Ar : Om → List D → List D → Prop} {x qual : Str} {st : Stmt} {f : Addr} {fd : FuncData} {N ps : List Str} {k : Nat} (F : Fun K x qual st f fd) (S : FnScope N ps (defScope st)) (len : ∀ L ds d, Ar L ds d → ds.length = ps.length)
    (h : ∀ (cdv : Value) (A : Around) (outer : List Env) (s : Shared) (H : Hp) (E : XK) (B : Gd) (ds : List D) (es : List D), Room k (A.deeper (envOfC qual (defScope st) s.heap.objs.size f cdv)) → Ar B.L ds es →
      J (cxOf CX0 P w K mg base N qual (defScope st) f cdv A outer s H E).nox B (defBody st) (startD N ds) [] { nx := fun _ _ => False, rt := fun d' O' => ∃ p, d' = .rf p ∧ O' = [(p, .lst es)] }) : FnOk P w K mg base CX0 (k + 1) f fd ps (spN K Ar) := by
  refine F.ok S (fun vs H Q E q => ?_) (fun cdv A outer s H vs Q E hr q => ?_)
  · obtain ⟨F', L, ds, d, _, r, ha, _⟩ := q
    rw [r.length]; exact len L ds d ha
  · obtain ⟨F', L, ds, es, bo, r, ha, kk⟩ := q
    refine ⟨_, h cdv A outer s H E ⟨F', H, fun c d _ H => E c d H, L, bo.ok, bo.lF⟩ ds es hr ha, ⟨⟨fun a o e => ⟨e, rfl⟩, (fun a m hm => nomatch hm), (by simp), bo.lent⟩, start_env r⟩, fun _ _ _ _ z => z.elim, ?_, fun _ _ _ _ z => z.elim, fun _ _ _ _ z => z.elim, fun _ _ _ _ _ _ _ _ _ z => z.elim⟩
    rintro d' O' v H' ⟨p, rfl, rfl⟩ m r'
    cases r'
    obtain ⟨ws, h1, h2⟩ := m.mem p _ List.mem_cons_self
    refine kk p H' ws ?_ (fun a o q => (m.base a o q).1) h1 h2
    cases q : H p with
    | none => rfl
    | some o =>
      have := (m.base p o q).2
      simp [has] at this
theorem fn_init {C : Addr} {Ar : Om → List D → List Str → List D → Prop} {x qual : Str} {st : Stmt} {f : Addr} {fd : FuncData} {N ps : List Str} {k : Nat} (F : Fun K x qual st f fd) (S : FnScope N ps (defScope st)) (len : ∀ L ds ns fs, Ar L ds ns fs → ds.length + 1 = ps.length)
    (h : ∀ (cdv : Value) (A : Around) (outer : List Env) (s : Shared) (H : Hp) (E : XK) (B : Gd) (x : Addr) (ds : List D) (ns : List Str) (fs : List D), Room k (A.deeper (envOfC qual (defScope st) s.heap.objs.size f cdv)) → Ar B.L ds ns fs →
      J (cxOf CX0 P w K mg base N qual (defScope st) f cdv A outer s H E).nox B (defBody st) (startD N (.rf x :: ds)) [(x, .ins C [] [])] { nx := fun _ O' => ∃ fs' O1, O' = O1 ++ [(x, .ins C ns fs')] ∧ FrzL O1 fs' fs, rt := fun _ _ => False }) : FnOk P w K mg base CX0 (k + 1) f fd ps (spI K C Ar) := by
  refine F.ok S (fun vs H Q E q => ?_) (fun cdv A outer s H vs Q E hr q => ?_)
  · obtain ⟨F', L, x, dx, us, ds, ns, fs, rfl, _, _, _, r, ha, _⟩ := q
    rw [List.length_cons, r.length]; exact len L ds ns fs ha
  · obtain ⟨F', L, x, dx, us, ds, ns, fs, rfl, bo, fx, hx, r, ha, kk⟩ := q
    let Hb : Hp := fun a => if a = x then none else H a
    have hbx : ∀ a o, Hb a = some o → a ≠ x ∧ H a = some o := fun a o e => by
      have e' : (if a = x then none else H a) = some o := e
      by_cases q : a = x
      · rw [if_pos q] at e'; cases e'
      · rw [if_neg q] at e'; exact ⟨q, e'⟩
    have hF' : ∀ a, F' a = true → ∃ o, Hb a = some o := fun a h => by
      obtain ⟨o, e⟩ := bo.ok a h
      have ne : a ≠ x := fun z => by rw [z, fx] at h; cases h
      exact ⟨o, by show (if a = x then none else H a) = _; rw [if_neg ne]; exact e⟩
    refine ⟨_, h cdv A outer s H E ⟨F', Hb, fun c d _ H => E c d H, L, hF', bo.lF⟩ x ds ns fs hr ha, ⟨⟨fun a o e => ?_, fun a m hm => ?_, by simp, bo.lent⟩, start_env (.cons (.rf x) r)⟩, ?_, fun _ _ _ _ z => z.elim, fun _ _ _ _ z => z.elim, fun _ _ _ _ z => z.elim, fun _ _ _ _ _ _ _ _ _ z => z.elim⟩
    · obtain ⟨n, e⟩ := hbx a o e
      refine ⟨e, ?_⟩
      show (x == a || false) = false
      rw [Bool.or_false]
      exact beq_eq_false_iff_ne.mpr (Ne.symm n)
    · cases List.mem_singleton.mp hm
      exact ⟨dx, [], hx, rfl, .nil⟩
    · rintro ρ O' σ H' ⟨fs', O1, rfl, fz⟩ s' _
      obtain ⟨dx', fv, h1, h2, h3⟩ := s'.m.mem x _ (List.mem_append_right _ List.mem_cons_self)
      have nd := s'.m.nd
      rw [List.map_append, List.nodup_append] at nd
      have nx : ∀ p m, (p, m) ∈ O1 → p ≠ x := fun p m hp => nd.2.2 p (List.mem_map_of_mem (f := (·.1)) hp) x (by simp)
      have e1 : Same (vis F' (O1 ++ [(x, .ins C ns fs')]) H') (vis F' [(x, .ins C [] [])] H') := fun a o q => by
        obtain ⟨q1, q2, q3⟩ := vis_some.mp q
        refine vis_some.mpr ⟨q1, ?_, q3⟩
        unfold has at q2 ⊢
        rw [List.any_append, Bool.or_eq_false_iff] at q2
        exact q2.2
      refine kk H' dx' fv (fun a o na q => (s'.m.base a o (by show (if a = x then none else H a) = _; rw [if_neg na]; exact q)).1) h1 h2 (RpL.frz e1 (fun p m hp => ?_) fz h3)
      refine (s'.m.mem p m (List.mem_append_left _ hp)).mono (Same.refl _) fun o q => ?_
      have q' := s'.m.visM (has_mem.mpr ⟨m, List.mem_append_left _ hp⟩) q
      obtain ⟨g1, _, g3⟩ := vis_some.mp q'
      refine vis_some.mpr ⟨g1, ?_, g3⟩
      show (x == p || false) = false
      rw [Bool.or_false]
      exact beq_eq_false_iff_ne.mpr (Ne.symm (nx p m hp))
end
end DL
namespace DL
open PySem PySem.Spec PyProof.Rows L2
section
variable {X : Cx} {B : Gd} {ρ ρ1 : List (Option D)} {O O1 : Om} {A : AE} {st : Stmt} {rest : List Stmt}
theorem j_cut (ρ1 : List (Option D)) (O1 : Om) (h1 : J1 X B st ρ O { A with nx := fun ρ' O' => Wk ρ1 ρ' ∧ O' = O1 }) (h2 : J X B rest ρ1 O1 A) : J X B (st :: rest) ρ O A := by
  refine j_cons (ps_imp h1 fun Dn σ H ⟨st, p⟩ => ⟨st, fun ρ' O' σ' H' q s' e => ?_, p.rt, p.bk, p.ct, p.ex⟩)
  obtain ⟨w, rfl⟩ := q
  refine p.nx ρ' O' σ' H' ?_ s' e
  exact pss_imp h2 fun Dn σ H ⟨s2, p2⟩ => ⟨s2.weak w, p2⟩
theorem wk_refl : Wk ρ ρ := ⟨rfl, fun _ _ h => h⟩
theorem wk_nil : Wk [] [] := wk_refl
theorem wk_none {r r' : List (Option D)} {d : Option D} (h : Wk r r') : Wk (none :: r) (d :: r') := ⟨by simp [h.1], fun i e q => by
  cases i with
  | zero => simp at q
  | succ i => simpa using h.2 i e (by simpa using q)⟩
theorem wk_some {r r' : List (Option D)} {d d' : D} (e : d = d') (h : Wk r r') : Wk (some d :: r) (some d' :: r') := ⟨by simp [h.1], fun i e' q => by
  cases i with
  | zero => subst e; simpa using q
  | succ i => simpa using h.2 i e' (by simpa using q)⟩
end
end DL

set_option Elab.async false
set_option linter.all false
set_option maxRecDepth 100000
set_option maxHeartbeats 2000000
namespace DL
open PySem PySem.Spec PyProof.Rows L2
section
variable {X : Cx} {B : Gd} {ρ ρ' : List (Option D)} {O O' O1 O2 : Om} {A : AE} {a b c e o : Expr} {es : List Expr} {d d1 d2 d3 : D} {ds : List D} {pos pos' p apos : Pos} {b1 b2 : Bool} {st : Stmt} {ss rest : List Stmt} {x : Str} {k : Nat} {C : Addr}
/-! ### short forms, for a printed proof -/
theorem nm (i : Nat) (hd : ρ[i]? = some (some d)) (hN : X.N[i]? = some x := by rfl) (hv : Vis X.env.scope x := by first | exact Or.inl rfl | exact Or.inr (Or.inl rfl) | exact Or.inr (Or.inr rfl)) (h1 : (x == ("__debug__" : Str)) = false := by decide) (h2 : (x == ("__classdict__" : Str)) = false := by decide) :
    EV X B ρ O (.Name x pos) d := ev_name hN hv hd h1 h2
theorem sset (i : Nat) (nd : X.N.Nodup) (he : EV X B ρ O e d) (h : A.nx (ρ.set i (some d)) O) (hi : X.N[i]? = some x := by rfl) (hx : Loc X.env.scope x := by first | exact .inl rfl | exact .inr rfl) (hs : swapsWith e (some (.Name x pos')) pos.line X.env = pure false := by rfl)
    (hf : X.fn x = true ∨ X.env.scope.names.lookup x = some .local := by first | exact .inr rfl | exact .inl rfl) : J1 X B (.Assign [.Name x pos'] e pos) ρ O A := j_set nd hi hx he hs hf h
theorem ssetG (i : Nat) (nd : X.N.Nodup) (he : EG X B ρ O e d O') (h : A.nx (ρ.set i (some d)) O') (hi : X.N[i]? = some x := by rfl) (hx : Loc X.env.scope x := by first | exact .inl rfl | exact .inr rfl) (hs : swapsWith e (some (.Name x pos')) pos.line X.env = pure false := by rfl)
    (hf : X.fn x = true ∨ X.env.scope.names.lookup x = some .local := by first | exact .inr rfl | exact .inl rfl) : J1 X B (.Assign [.Name x pos'] e pos) ρ O A := j_setG nd hi hx he hs hf h
theorem ssetN (i : Nat) (nd : X.N.Nodup) (he : EN X B ρ O e ds) (h : ∀ p, has O p = false → A.nx (ρ.set i (some (.rf p))) ((p, .lst ds) :: O)) (hi : X.N[i]? = some x := by rfl) (hx : Loc X.env.scope x := by first | exact .inl rfl | exact .inr rfl) (hs : swapsWith e (some (.Name x pos')) pos.line X.env = pure false := by rfl)
    (hf : X.fn x = true ∨ X.env.scope.names.lookup x = some .local := by first | exact .inr rfl | exact .inl rfl) : J1 X B (.Assign [.Name x pos'] e pos) ρ O A := j_setN nd hi hx he hs hf h
theorem bnm (i : Nat) (nd : X.N.Nodup) (hi : X.N[i]? = some x := by rfl) (hx : Loc X.env.scope x := by first | exact .inl rfl | exact .inr rfl) (hf : X.fn x = true ∨ X.env.scope.names.lookup x = some .local := by first | exact .inr rfl | exact .inl rfl) : EB X (.Name x pos) (gName i) [i] (bName i) := eb_name nd hi hx hf
/-- a loop: what the turns do to the slots, to the mutables; what is true beside -/
theorem sfor {iter tg : Expr} {body : List Stmt} {wi : TI} {sl : List Nat} {f} {g : TG} {G : Om → Prop} (U : Nat → List (Option D) → List (Option D)) (V : Nat → Om → Om) (Z : Nat → Prop)
    (hp : PassesOwn (model X.prog X.w) X.A X.env X.xe) (hc : X.calm = true) (hi : EI X B ρ O tg iter wi G ds) (hg : EB X tg g sl f)
    (hv : ∀ i, G (V i O))
    (h0 : Wk (U 0 ρ) ρ ∧ O = V 0 O ∧ Z 0)
    (hs : ∀ i d, ds[i]? = some d → i < ds.length → Z i → ∃ ρ', f d (U i ρ) = some ρ' ∧ J X B body ρ' (V i O) { A with nx := fun ρ2 O2 => Wk (U (i + 1) ρ) ρ2 ∧ O2 = V (i + 1) O ∧ Z (i + 1), ct := fun ρ2 O2 => Wk (U (i + 1) ρ) ρ2 ∧ O2 = V (i + 1) O ∧ Z (i + 1), bk := A.nx })
    (hd : Z ds.length → A.nx (U ds.length ρ) (V ds.length O))
    (hfs : ∀ x, foldedSetIterable iter X.env x = pure x := by intro _; rfl) : J1 X B (.For tg iter body [] pos) ρ O A := by
  refine j_for (fun i ρ' O' => ρ' = U i ρ ∧ O' = V i O ∧ Z i) hp hc hi hg (fun i ρ' O' h => by rw [h.2.1]; exact hv i) ⟨_, h0.1, rfl, h0.2⟩ (fun i d ρ' O' hd' h => ?_) (fun ρ' O' h => ?_) hfs
  · obtain ⟨rfl, rfl, hz⟩ := h
    obtain ⟨ρ1, h1, h2⟩ := hs i d hd' (List.getElem?_eq_some_iff.mp hd').1 hz
    refine ⟨ρ1, h1, j_imp h2 (fun ρ O h => ⟨_, h.1, rfl, h.2⟩) (fun _ _ h => h) (fun _ _ h => h) (fun ρ O h => ⟨_, h.1, rfl, h.2⟩) (fun _ _ _ _ _ h => h)⟩
  · obtain ⟨rfl, rfl, hz⟩ := h
    exact hd hz

/-! ### more rules -/
theorem ev_ifI {x y : Int} (hc : ET X B ρ O c b1) (ha : b1 = true → EV X B ρ O a (.int x)) (hb : b1 = false → EV X B ρ O b (.int y)) : EV X B ρ O (.IfExp c a b pos) (.int (if b1 = true then x else y)) := by
  cases b1 with
  | true => exact ev_if hc ha (fun h => nomatch h)
  | false => exact ev_if hc (fun h => nomatch h) hb
theorem ev_ifS {x y : Str} (hc : ET X B ρ O c b1) (ha : b1 = true → EV X B ρ O a (.str x)) (hb : b1 = false → EV X B ρ O b (.str y)) : EV X B ρ O (.IfExp c a b pos) (.str (if b1 = true then x else y)) := by
  cases b1 with
  | true => exact ev_if hc ha (fun h => nomatch h)
  | false => exact ev_if hc (fun h => nomatch h) hb
theorem ev_ifB {x y : Bool} (hc : ET X B ρ O c b1) (ha : b1 = true → EV X B ρ O a (.bl x)) (hb : b1 = false → EV X B ρ O b (.bl y)) : EV X B ρ O (.IfExp c a b pos) (.bl (if b1 = true then x else y)) := by
  cases b1 with
  | true => exact ev_if hc ha (fun h => nomatch h)
  | false => exact ev_if hc (fun h => nomatch h) hb
theorem ev_conv {d' : D} (h : EV X B ρ O e d) (q : d = d') : EV X B ρ O e d' := q ▸ h
theorem en_conv {es' : List D} (h : EN X B ρ O e ds) (q : ds = es') : EN X B ρ O e es' := q ▸ h
theorem et_conv (h : ET X B ρ O e b1) (q : b1 = b2) : ET X B ρ O e b2 := q ▸ h
theorem rd_notinC {K : PySem.W.Frag} {c : Nat} {z : Str} : RD K B O (fun x y H Q => ∃ (c : Nat) (z : Str), x = .str ⟨#[c]⟩ ∧ y = .str z ∧ Q (.bl (!decide (c ∈ z.cps.toList))) H) (.str ⟨#[c]⟩) (.str z) (.bl (!decide (c ∈ z.cps.toList))) := fun x y H Q m r1 r2 k => by
  cases r1; cases r2
  exact ⟨c, z, rfl, rfl, k _ H (Same.refl H) (.bl _)⟩
def isNonD : D → Bool
  | .non => true
  | _ => false
theorem rd_isN {K : PySem.W.Frag} : RD K B O (fun x y H Q => y = .non ∧ Q (.bl (decide (x = .non))) H) d1 .non (.bl (isNonD d1)) := fun x y H Q m r1 r2 k => by
  cases r2
  refine ⟨rfl, ?_⟩
  have : decide (x = V.non) = isNonD d1 := by cases r1 <;> simp [isNonD]
  rw [this]
  exact k _ H (Same.refl H) (.bl _)
theorem rd_notN {K : PySem.W.Frag} : RD K B O (fun x y H Q => y = .non ∧ Q (.bl (!decide (x = .non))) H) d1 .non (.bl (!isNonD d1)) := fun x y H Q m r1 r2 k => by
  cases r2
  refine ⟨rfl, ?_⟩
  have : decide (x = V.non) = isNonD d1 := by cases r1 <;> simp [isNonD]
  rw [this]
  exact k _ H (Same.refl H) (.bl _)
theorem et_lst (h : EV X B ρ O e d) (w : Vw (B.L ++ O) d ds) (he : ∀ whole, isTrue e X.env whole = (do let v ← whole; standAt e.pos; holding [v] (truthy v)) := by intro _; rfl) : ET X B ρ O e (!ds.isEmpty) :=
  pt_imp (pt_truth h he) fun σ H Q ⟨st, k⟩ => ⟨st, fun v H1 e1 r1 => by
    obtain ⟨a, vs, rfl, q, rl⟩ := w.sql (st.same e1).m r1
    refine ⟨!vs.isEmpty, .inl ⟨vs, q, rfl⟩, ?_⟩
    have : vs.isEmpty = ds.isEmpty := by
      have := rl.length
      cases vs <;> cases ds <;> simp_all
    rw [this]
    exact k H1 e1⟩
/-- text * n -/
theorem op_rep_str : OpR X (binaryOp .Mult) (fun x y H Q => ∃ z n, x = .str z ∧ y = .int n ∧ MulOk z n ∧ Q (.str (Txt.mul z n)) H) := by
  intro pins s σ H x y v u Q I rx ry h
  obtain ⟨z, n, rfl, rfl, hz, q⟩ := h
  obtain ⟨t, rfl⟩ := rx
  obtain ⟨t', rfl⟩ := ry
  exact SB.mul hz fun t' tk => ⟨.str _, H, I.tok _, ⟨_, rfl⟩, q⟩
theorem rd_repS {K : PySem.W.Frag} {z : Str} {n : Int} (hz : MulOk z n) : RD K B O (fun x y H Q => ∃ z n, x = .str z ∧ y = .int n ∧ MulOk z n ∧ Q (.str (Txt.mul z n)) H) (.str z) (.int n) (.str (Txt.mul z n)) := fun x y H Q m r1 r2 k => by
  cases r1; cases r2
  exact ⟨z, n, rfl, rfl, hz, k _ H (Same.refl H) (.str _)⟩
/-- xs[::-1] -/
theorem en_rev {k : Nat} {p1 p2 p3 : Pos} (he : EV X B ρ O e d) (w : Vw (B.L ++ O) d ds) : EN X B ρ O (.Subscript e (.Slice none none (some (.UnaryOp .USub (.Constant (.int 1) k p1) p2)) p3) pos) ds.reverse :=
  pe_imp (pe_revL he) fun σ H Q ⟨st, kk⟩ => ⟨st, fun v H1 e1 r1 => by
    obtain ⟨a, vs, rfl, q, rl⟩ := w.sql (st.same e1).m r1
    exact ⟨a, vs, rfl, q, new_same (st.same e1).m rl.reverse fun p H' ws hp e2 hv r => kk p H' ws (e1.free hp) (e1.trans e2) hv r⟩⟩
/-- x[i] of a row, a tuple of ints -/
theorem atI_map {α : Type} {xs : List α} {f : α → D} (df : α) {i : Int} (h0 : 0 ≤ i) (h : i < (xs.length : Int)) : atI (xs.map f) i = some (f (xs.getD i.toNat df)) := by
  obtain ⟨j, rfl⟩ : ∃ j : Nat, i = (j : Int) := ⟨i.toNat, by omega⟩
  have hj : j < xs.length := by omega
  exact atI_nat (by simp [hj])
theorem atM {α : Type} {xs : List α} {f : α → D} (df : α) {i : Int} (h0 : 0 ≤ i) (h : i < (xs.length : Int)) : atI (xs.map fun x => f x) i = some (f (xs.getD i.toNat df)) := atI_map df h0 h
theorem atC {xs : List Nat} {i : Int} (h0 : 0 ≤ i) (h : i < (xs.length : Int)) : atI xs i = some (xs.getD i.toNat 0) := by
  obtain ⟨j, rfl⟩ : ∃ j : Nat, i = (j : Int) := ⟨i.toNat, by omega⟩
  have hj : j < xs.length := by omega
  exact atI_nat (by simp [hj])
theorem at2 {α : Type} (f : α → D) {a b : α} {i : Int} (h0 : 0 ≤ i) (h : i < 2) : atI [f a, f b] i = some (f ([a, b].getD i.toNat a)) := atI_map (xs := [a, b]) a h0 h
theorem at3 {α : Type} (f : α → D) {a b c : α} {i : Int} (h0 : 0 ≤ i) (h : i < 3) : atI [f a, f b, f c] i = some (f ([a, b, c].getD i.toNat a)) := atI_map (xs := [a, b, c]) a h0 h
theorem at4 {α : Type} (f : α → D) {a b c d : α} {i : Int} (h0 : 0 ≤ i) (h : i < 4) : atI [f a, f b, f c, f d] i = some (f ([a, b, c, d].getD i.toNat a)) := atI_map (xs := [a, b, c, d]) a h0 h
theorem at5 {α : Type} (f : α → D) {a b c d e : α} {i : Int} (h0 : 0 ≤ i) (h : i < 5) : atI [f a, f b, f c, f d, f e] i = some (f ([a, b, c, d, e].getD i.toNat a)) := atI_map (xs := [a, b, c, d, e]) a h0 h
theorem at6 {α : Type} (f : α → D) {a b c d e g : α} {i : Int} (h0 : 0 ≤ i) (h : i < 6) : atI [f a, f b, f c, f d, f e, f g] i = some (f ([a, b, c, d, e, g].getD i.toNat a)) := atI_map (xs := [a, b, c, d, e, g]) a h0 h
/-- in of a written dict: what it says of a text -/
structure KDi (K : PySem.W.Frag) (w : World) (a : Addr) (f : Str → Option D) : Prop where
  ex : ∃ es n, KDict K w a es n
  at_ : ∀ z : Str, ∃ r, PySem.W.nsIn K a z = some r ∧ (match f z, r with | none, none => True | some dv, some u => ∃ v, RelV v u ∧ ∀ H, Rp K H v dv | _, _ => False)
theorem ev_inD {f : Str → Option D} {q : Addr} {z : Str} (D : KDi X.K X.w q f) (ha : EV X B ρ O a (.str z)) (hb : EV X B ρ O b (.rf q)) (hm : behindInMarks .In b = false) : EV X B ρ O (.Compare a [.In] [b] pos) (.bl (f z).isSome) := by
  obtain ⟨es, n, kd⟩ := D.ex
  obtain ⟨r, h1, h2⟩ := D.at_ z
  have e : r.isSome = (f z).isSome := by cases hf : f z <;> cases r <;> simp_all
  refine ev_cmp (op_in_kd kd) (fun x y H Q m r1 r2 k => ?_) ha hb hm
  cases r1; cases r2
  exact ⟨z, r, rfl, rfl, h1, by rw [e]; exact k _ H (Same.refl H) (.bl _)⟩
theorem et_inD {f : Str → Option D} {q : Addr} {z : Str} (D : KDi X.K X.w q f) (ha : EV X B ρ O a (.str z)) (hb : EV X B ρ O b (.rf q)) (hm : behindInMarks .In b = false) : ET X B ρ O (.Compare a [.In] [b] pos) (f z).isSome := by
  obtain ⟨es, n, kd⟩ := D.ex
  obtain ⟨r, h1, h2⟩ := D.at_ z
  have e : r.isSome = (f z).isSome := by cases hf : f z <;> cases r <;> simp_all
  refine et_cmp (op_in_kd kd) (fun x y H Q m r1 r2 k => ?_) ha hb hm
  cases r1; cases r2
  exact ⟨z, r, rfl, rfl, h1, by rw [e]; exact k _ H (Same.refl H) (.bl _)⟩
theorem et_notinD {f : Str → Option D} {q : Addr} {z : Str} (D : KDi X.K X.w q f) (ha : EV X B ρ O a (.str z)) (hb : EV X B ρ O b (.rf q)) (hm : behindInMarks .NotIn b = false) : ET X B ρ O (.Compare a [.NotIn] [b] pos) (!(f z).isSome) := by
  obtain ⟨es, n, kd⟩ := D.ex
  obtain ⟨r, h1, h2⟩ := D.at_ z
  have e : r.isSome = (f z).isSome := by cases hf : f z <;> cases r <;> simp_all
  refine et_cmp (op_notIn_kd kd) (fun x y H Q m r1 r2 k => ?_) ha hb hm
  cases r1; cases r2
  exact ⟨z, r, rfl, rfl, h1, by rw [e]; exact k _ H (Same.refl H) (.bl _)⟩
/-- d[k], d written -/
theorem ev_itemD {f : Str → Option D} {q : Addr} {z : Str} (D : KDi X.K X.w q f) (ha : EV X B ρ O a (.rf q)) (hb : EV X B ρ O b (.str z)) (h : f z = some d) (hs : PlainIx b := by intro _ _; rfl) : EV X B ρ O (.Subscript a b pos) d := by
  obtain ⟨es, n, kd⟩ := D.ex
  obtain ⟨r, h1, h2⟩ := D.at_ z
  rw [h] at h2
  cases r with
  | none => exact h2.elim
  | some u =>
    obtain ⟨v, rv, rp⟩ := h2
    refine pe_imp (pe_ix ix_kdict ha hb hs) (two fun x y H Q m r1 r2 k => ?_)
    cases r1; cases r2
    exact ⟨q, z, v, rfl, rfl, ⟨es, n, u, kd.at_, kd.lit, h1, rv⟩, k v H (Same.refl H) (rp _)⟩
/-- d.get(k, x), d written -/
theorem pe_kget2 {K0 : Nat} {q : Addr} {es0 : Array DictEntry} {n0 : Nat} {to ty tx : TE} {e1 e2 : Expr} (kd : KDict X.K X.w q es0 n0) (ho : PE X o to) (he : PE X e1 ty) (hf : PE X e2 tx) (m : M2 X o "get" apos e1 e2 pos) :
    PE X (.Call (.Attribute o "get" apos) [e1, e2] [] pos) (fun σ H Q => to σ H fun x H1 => x = .ref q ∧ ty σ H1 fun y H2 => tx σ H2 fun z H3 => ∃ (k : Str) (r : Option Value), y = .str k ∧ PySem.W.nsIn X.K q k = some r ∧ ((r = none → Q z H3) ∧ ∀ u, r = some u → ∃ v, RelV v u ∧ Q v H3)) := by
  refine ⟨fun pins s σ H Q I h => ?_⟩
  refine wpAny_Call_method m.base m.few m.line PySem.F.plainAttrs_dict PySem.F.slot_dict_get PySem.F.type_dict_get (thn (ho.run pins s σ H _ I h) fun u s1 ⟨x, H1, I1, rx, ex, q1⟩ => ?_)
  subst ex
  obtain rfl : u = Value.ref q := rx
  have hq := I1.kIn _ _ kd.at_
  refine ⟨⟨_, hq, rfl⟩, fun b e => by cases e; exact ⟨_, hq, rfl⟩, ?_⟩
  rw [m.trees]
  refine Calls.callWith_builtin rfl (Calls.evalArgs_plain (Calls.spliced_cons (thn (he.run pins s1 σ H1 _ I1 q1) fun iv s2 ⟨y, H2, I2, ry, q2⟩ =>
    Calls.spliced_cons (thn (hf.run pins s2 σ H2 _ I2 q2) fun fv s3 ⟨z, H3, I3, rz, k, r, ey, e, q3⟩ => Calls.spliced_nil ?_))))
  subst ey
  obtain ⟨t, rfl⟩ := ry
  have hm := PySem.W.mapOf_K (prog := X.prog) (w := X.w) I3.kIn kd.at_ kd.lit
  refine call_meetsIn PySem.F.slot_dict_get hm.typeIs PySem.F.entry_dict_get (PySem.F.args_dict_get_3 _ _ _) (meets_dict_get_default (strKind X.prog X.w) q (strKind_is X.prog X.w k t) kd.low fv) ⟨_, hm, ?_⟩
  have hfk := PySem.W.find_K kd.at_ e
  show EP X pins σ Q (((findBy Value.isStrOf es0 k)).getD fv) _
  rw [hfk]
  cases r with
  | none => exact ⟨z, H3, I3.tok _, rz, q3.1 rfl⟩
  | some u =>
    obtain ⟨v, rv, qv⟩ := q3.2 u rfl
    exact ⟨v, H3, I3.tok _, rv, qv⟩
theorem ev_getD {f : Str → Option D} {q : Addr} {z : Str} {e1 e2 : Expr} (D : KDi X.K X.w q f) (ho : EV X B ρ O o (.rf q)) (he : EV X B ρ O e1 (.str z)) (hf : EV X B ρ O e2 d1) (m : M2 X o "get" apos e1 e2 pos := by exact ⟨rfl, rfl, rfl, rfl⟩) : EV X B ρ O (.Call (.Attribute o "get" apos) [e1, e2] [] pos) ((f z).getD d1) := by
  obtain ⟨es, n, kd⟩ := D.ex
  obtain ⟨r, h1, h2⟩ := D.at_ z
  refine pe_imp (pe_kget2 (K0 := 0) kd ho he hf m) fun σ H Q ⟨st, k⟩ => ⟨st, fun v H1 e1 r1 => ?_⟩
  cases r1
  refine ⟨rfl, st.same e1, fun v2 H2 e2 r2 => ?_⟩
  cases r2
  refine ⟨(st.same e1).same e2, fun v3 H3 e3 r3 => ⟨z, r, rfl, h1, fun hr => ?_, fun u hu => ?_⟩⟩
  · subst hr
    cases hz : f z with
    | some dv => rw [hz] at h2; exact h2.elim
    | none => exact k v3 H3 ((e1.trans e2).trans e3) (by rw [hz]; exact r3)
  · subst hu
    cases hz : f z with
    | none => rw [hz] at h2; exact h2.elim
    | some dv =>
      rw [hz] at h2
      obtain ⟨v, rv, rp⟩ := h2
      exact ⟨v, rv, k v H3 ((e1.trans e2).trans e3) (by rw [hz]; exact rp _)⟩
/-- cls(..), the class in a slot -/
theorem pe_makeL {i k : Nat} {f : Addr} {sp : Sp} {E : XK} {CX : CXT} {t : TA} (M : Mk X.K C f) (F : FnR X.prog X.w X.K X.mg X.base CX k f sp) (hr : Room (k + 1) X.A) (hN : X.N[i]? = some x) (hv : Vis X.env.scope x) (hx : Passes CX X E) (ha : PA X (e :: es) t)
    (hdb : (x == ("__debug__" : Str)) = false := by decide) (hcd : (x == ("__classdict__" : Str)) = false := by decide)
    (he : starEach (e :: es) X.env = (false, eval e X.env) :: starEach es X.env := by rfl) (hpl : (backTo pos (starEach es X.env)).any (·.1) = false := by rfl) : PE X (.Call (.Name x p) (e :: es) [] pos) (fun σ H Q => σ[i]? = some (some (.ref C)) ∧ StX.tMakeR C sp E t σ H Q) := by
  refine ⟨fun pins s σ H Q I h => ?_⟩
  obtain ⟨hs, ht⟩ := h
  refine wpAny_Call_Name_kw (thn ((pe_var (pos := p) hN hv hdb hcd).run pins s σ H (fun v H1 => v = .ref C ∧ H1 = H) I ⟨.ref C, hs, rfl, rfl⟩) fun u s1 ⟨v, H1, I1, r1, q1⟩ => ?_)
  obtain ⟨rfl, rfl⟩ := q1
  cases r1
  refine PySem.W.callWith_K (h₀ := X.base) I.ok.mod.kin M.kp (thn (ha.run pos pins s1 σ _ _ I1 ht) fun us s2 ⟨vs, H2, I2, r, q⟩ => ⟨I2.kIn, ?_⟩) he hpl
  exact StX.run_makeR M F hr hx I2 r q
theorem ev_makeL {Ar : Om → List D → List Str → List D → Prop} {f : Addr} {ns : List Str} {fs : List D} (i : Nat) (hd : ρ[i]? = some (some (.rf C))) (Mk : Mk X.K C f) (F : Fok X.prog X.w X.K X.mg X.base CX0 k f (spI X.K C Ar)) (hr : Room (k + 1) X.A) (ha : EA X B ρ O (e :: es) ds) (h : Ar (B.L ++ O) ds ns fs)
    (hN : X.N[i]? = some x := by rfl) (hv : Vis X.env.scope x := by first | exact Or.inl rfl | exact Or.inr (Or.inl rfl) | exact Or.inr (Or.inr rfl)) (hdb : (x == ("__debug__" : Str)) = false := by decide) (hcd : (x == ("__classdict__" : Str)) = false := by decide)
    (he : starEach (e :: es) X.env = (false, eval e X.env) :: starEach es X.env := by rfl) (hpl : (backTo pos (starEach es X.env)).any (·.1) = false := by rfl) : EV X B ρ O (.Call (.Name x p) (e :: es) [] pos) (.obj C ns fs) :=
  pe_imp (pe_makeL (E := E0) Mk F.raw hr hN hv pass0 ha hdb hcd he hpl) fun σ H Q ⟨st, k⟩ => by
    obtain ⟨v, hv, rv⟩ := st.env.2 i _ hd
    cases rv
    exact ⟨hv, st, fun vs H1 e1 r1 y dy hy hdy ne => made_use (st.same e1).m r1 h (fun v H2 e2 r2 => k v H2 (e1.trans e2) r2) y dy hy hdy ne⟩

/-! ### == of data -/
mutual
inductive PyR : D → PyData → Prop where
  | non : PyR .non .none
  | bl (b : Bool) : PyR (.bl b) (.bool b)
  | int (i : Int) : PyR (.int i) (.int i)
  | str (x : Str) : PyR (.str x) (.str x)
  | lst {ds : List D} {ps : List PyData} : PyRL ds ps → PyR (.lst ds) (.list ps)
  | tup {ds : List D} {ps : List PyData} : PyRL ds ps → PyR (.tup ds) (.tuple ps)
inductive PyRL : List D → List PyData → Prop where
  | nil : PyRL [] []
  | cons {d : D} {ds : List D} {p : PyData} {ps : List PyData} : PyR d p → PyRL ds ps → PyRL (d :: ds) (p :: ps)
end
section
variable {K : PySem.W.Frag} {Hv H : Hp} (e : Same Hv H)
mutual
theorem PyR.dp (e : Same Hv H) : ∀ {d : D} {p : PyData} {v : V}, PyR d p → Rp K Hv v d → Dp K H v p
  | _, _, _, .non, r => by cases r; exact .non
  | _, _, _, .bl b, r => by cases r; exact .bl b
  | _, _, _, .int b, r => by cases r; exact .int b
  | _, _, _, .str b, r => by cases r; exact .str b
  | _, _, _, .lst h, r => by cases r with | lst hq r => exact .lst (.inl (.inl (e _ _ hq))) (PyRL.dp e h r)
  | _, _, _, .tup h, r => by cases r with | tup hq r => exact .tup (same_t e hq) (PyRL.dp e h r)
theorem PyRL.dp (e : Same Hv H) : ∀ {ds : List D} {ps : List PyData} {vs : List V}, PyRL ds ps → RpL K Hv vs ds → DpAll K H vs ps
  | _, _, _, .nil, r => by cases r; exact .nil
  | _, _, _, .cons h g, r => by cases r with | cons q r => exact .cons (PyR.dp e h q) (PyRL.dp e g r)
end
end
/-- data of one shape whose == is Lean's -/
structure EqOk {α : Type} [DecidableEq α] (f : α → D) (P : α → Prop) (n : Nat) (g : α → PyData) : Prop where
  py : ∀ x, PyR (f x) (g x)
  lay : ∀ x, P x → (g x).canLay0 = true
  dep : ∀ x, (g x).depth ≤ n
  eqv : ∀ x y, PyData.eqv (g x) (g y) = decide (x = y)
theorem EqOk.int : EqOk D.int (fun _ => True) 0 PyData.int := ⟨fun x => .int x, fun x _ => by simp [PyData.canLay0], fun x => by simp [PyData.depth], fun x y => by rw [Bool.eq_iff_iff]; simp [PyData.eqv]⟩
theorem EqOk.str : EqOk D.str (fun x => PyData.strOk x = true) 0 PyData.str := ⟨fun x => .str x, fun x h => by simpa [PyData.canLay0] using h, fun x => by simp [PyData.depth], fun x y => by rw [Bool.eq_iff_iff]; simp [PyData.eqv]⟩
section
variable {α : Type} [DecidableEq α] {f : α → D} {P : α → Prop} {n : Nat} {g : α → PyData}
theorem EqOk.pyL (h : EqOk f P n g) : ∀ xs : List α, PyRL (xs.map f) (xs.map g)
  | [] => .nil
  | x :: xs => .cons (h.py x) (h.pyL xs)
theorem EqOk.layL (h : EqOk f P n g) : ∀ xs : List α, (∀ x ∈ xs, P x) → PyData.canLayAll0 (xs.map g) = true
  | [], _ => by simp [PyData.canLayAll0]
  | x :: xs, q => by
    simp only [List.map_cons, PyData.canLayAll0, h.lay x (q x List.mem_cons_self), h.layL xs fun y hy => q y (List.mem_cons_of_mem _ hy), Bool.and_self]
theorem EqOk.eqvL (h : EqOk f P n g) : ∀ xs ys : List α, PyData.eqvAll (xs.map g) (ys.map g) = decide (xs = ys)
  | [], [] => by simp [PyData.eqvAll]
  | [], y :: ys => by simp [PyData.eqvAll]
  | x :: xs, [] => by simp [PyData.eqvAll]
  | x :: xs, y :: ys => by
    simp only [List.map_cons, PyData.eqvAll, h.eqv x y, h.eqvL xs ys, List.cons.injEq]
    rw [Bool.eq_iff_iff]; simp
theorem EqOk.depL (h : EqOk f P n g) : ∀ xs : List α, PyData.depthAll (xs.map g) ≤ n
  | [] => by simp [PyData.depthAll]
  | x :: xs => by
    have h1 := h.dep x
    have h2 := h.depL xs
    simp only [List.map_cons, PyData.depthAll]
    omega
theorem EqOk.lst (h : EqOk f P n g) : EqOk (fun xs : List α => D.lst (xs.map f)) (fun xs => ∀ x ∈ xs, P x) (n + 1) (fun xs => PyData.list (xs.map g)) :=
  ⟨fun xs => .lst (h.pyL xs), fun xs q => by simpa [PyData.canLay0] using h.layL xs q, fun xs => by have := h.depL xs; simp only [PyData.depth]; omega, fun xs ys => by simpa [PyData.eqv] using h.eqvL xs ys⟩
theorem EqOk.tup (h : EqOk f P n g) : EqOk (fun xs : List α => D.tup (xs.map f)) (fun xs => ∀ x ∈ xs, P x) (n + 1) (fun xs => PyData.tuple (xs.map g)) :=
  ⟨fun xs => .tup (h.pyL xs), fun xs q => by simpa [PyData.canLay0] using h.layL xs q, fun xs => by have := h.depL xs; simp only [PyData.depth]; omega, fun xs ys => by simpa [PyData.eqv] using h.eqvL xs ys⟩
/-- == of two such: x, y as they stand, a mutable's content -/
def Vd (O : Om) (d d' : D) : Prop := d = d' ∨ ∃ a ds, d = .rf a ∧ (a, M.lst ds) ∈ O ∧ d' = .lst ds
theorem Vd.dp {K : PySem.W.Frag} {H : Hp} {v : V} {d' : D} {q : PyData} (w : Vd (B.L ++ O) d d') (m : MOk K B O H) (r : Rp K (vis B.F O H) v d) (h : PyR d' q) : Dp K H v q := by
  rcases w with rfl | ⟨a, ds, rfl, hm, rfl⟩
  · exact h.dp vis_le r
  · cases r
    obtain ⟨vs, h1, h2⟩ := (List.mem_append.mp hm).elim (m.lent _ _) (m.mem _ _)
    cases h with
    | lst h => exact .lst (.inl (.inl h1)) (h.dp vis_le h2)
theorem shaped_of {q : PyData} (h1 : q.canLay0 = true) (h2 : q.depth ≤ n) (hn : n ≤ 64) : SeqAt.shaped q = true := by
  unfold SeqAt.shaped
  rw [h1, Bool.true_and]
  exact decide_eq_true (by omega)
theorem rd_eqD {K : PySem.W.Frag} {x y : α} (h : EqOk f P n g) (hn : n ≤ 64) (w1 : Vd (B.L ++ O) d1 (f x)) (w2 : Vd (B.L ++ O) d2 (f y)) (h1 : P x) (h2 : P y) : RD K B O (rEqD K) d1 d2 (.bl (decide (x = y))) := fun u v H Q m r1 r2 k =>
  ⟨g x, g y, w1.dp m r1 (h.py x), w2.dp m r2 (h.py y), shaped_of (h.lay x h1) (h.dep x) hn, shaped_of (h.lay y h2) (h.dep y) hn, by rw [h.eqv]; exact k _ H (Same.refl H) (.bl _)⟩
theorem rd_neD {K : PySem.W.Frag} {x y : α} (h : EqOk f P n g) (hn : n ≤ 64) (w1 : Vd (B.L ++ O) d1 (f x)) (w2 : Vd (B.L ++ O) d2 (f y)) (h1 : P x) (h2 : P y) : RD K B O (rNeD K) d1 d2 (.bl (!decide (x = y))) := fun u v H Q m r1 r2 k =>
  ⟨g x, g y, w1.dp m r1 (h.py x), w2.dp m r2 (h.py y), shaped_of (h.lay x h1) (h.dep x) hn, shaped_of (h.lay y h2) (h.dep y) hn, by rw [h.eqv]; exact k _ H (Same.refl H) (.bl _)⟩
end
end
end DL
namespace DL
theorem rng_item {n : Nat} {i : Nat} {d : D} (h : (rngD 0 n)[i]? = some d) : i < n ∧ d = .int (i : Int) := by
  unfold rngD at h
  rw [List.getElem?_map] at h
  obtain ⟨j, h1, h2⟩ := Option.map_eq_some_iff.mp h
  obtain ⟨hi, e⟩ := List.getElem?_eq_some_iff.mp h1
  rw [List.getElem_range] at e
  subst e
  exact ⟨by simpa using hi, by rw [← h2, Int.zero_add]⟩
theorem map_item {α : Type} {xs : List α} {f : α → D} {i : Nat} {d : D} (h : (xs.map f)[i]? = some d) : ∃ x, xs[i]? = some x ∧ d = f x := by
  rw [List.getElem?_map] at h
  obtain ⟨x, h1, h2⟩ := Option.map_eq_some_iff.mp h
  exact ⟨x, h1, h2.symm⟩
theorem enum_item {α : Type} {xs : List α} {f : α → D} {i : Nat} {d : D} (h : (enumD (xs.map f))[i]? = some d) : ∃ x, xs[i]? = some x ∧ d = .tup [.int (i : Int), f x] := by
  unfold enumD at h
  rw [List.getElem?_map] at h
  obtain ⟨j, h1, h2⟩ := Option.map_eq_some_iff.mp h
  obtain ⟨hi, e⟩ := List.getElem?_eq_some_iff.mp h1
  rw [List.getElem_range] at e
  subst e
  have hi' : i < xs.length := by simpa using hi
  refine ⟨xs[i], by simp [hi'], ?_⟩
  rw [← h2]
  simp [hi']
theorem enum_len {ds : List D} : (enumD ds).length = ds.length := by simp [enumD]
theorem rng_len {lo : Int} {n : Nat} : (rngD lo n).length = n := by simp [rngD]
end DL

set_option Elab.async false
set_option linter.all false
set_option maxRecDepth 100000
set_option maxHeartbeats 2000000
namespace PySem
open PySem.Spec PyProof.Rows
theorem dl_enum_new {v : Value} {o : Obj} {H : Heap → Prop} (B : Begins v o H) :
    Meets (Builtin.«enumerate.__new__» ⟨[.type "enumerate", v], []⟩) (fun _ R s => H s.heap ∧
      R (.ok (.ret (.ref (s.heap.push o).objs.size))) { s with heap := (s.heap.push o).push { cls := .type "enumerate", data := .fields #[.none, .bool false, .ref s.heap.objs.size, rawInt 0, .none, .none] } }) :=
  .of_wp fun prog w A R s h => by
    obtain ⟨hp, g, d, tk, os⟩ := s; obtain ⟨h1, h⟩ := h
    have hsub := sub_enumerate
    have q1 : ∀ {A' : Around} {E : Value → Shared → Prop} {Q : Value → Shared → Prop}, Q (.ref hp.objs.size) ⟨hp.push o, g, d, tk, os⟩ → wpAny (model prog w) A' (pyIter v) Q E ⟨hp, g, d, tk, os⟩ :=
      fun q => B.iter prog w _ _ ⟨hp, g, d, tk, os⟩ _ h1 q
    wp_walk using q1
    refine wpAny_stack_any fun st => wpAny_pure ?_
    split
    · rename_i c _ _ _ _ _
      cases (c == Value.type "enumerate")
      · wp_walk using q1
        exact ⟨_, rfl, h⟩
      · wp_walk using q1
        exact ⟨_, rfl, h⟩
    · wp_walk using q1
      exact ⟨_, rfl, h⟩
theorem dl_enum_begins {prog : Program} {w : World} {A : Around} {E : Value → Shared → Prop} {s : Shared} {v : Value} {o : Obj} {H : Heap → Prop} {Q : Value → Shared → Prop} (B : Begins v o H) (h1 : H s.heap)
    (h : ∀ h', IsEnum h' (s.heap.objs.size + 1) s.heap.objs.size 0 .none → h'.get? s.heap.objs.size = some o → h'.objs.size = s.heap.objs.size + 2 →
      (∀ b o, s.heap.get? b = some o → h'.get? b = some o) → Q (.ref (s.heap.objs.size + 1)) { s with heap := h' }) :
    wpAny (model prog w) A (call (.type "enumerate") [v]) Q E s := by
  refine callType_new F.called_enumerate (by decide) (F.typeCall_enumerate_1 _) (F.newCall_enumerate_1 _) (fun obj => F.args_object_init_2 obj _) F.entry_enumerate_new
    (dl_enum_new B) ⟨h1, ?_⟩
  have hz : (s.heap.push o).objs.size = s.heap.objs.size + 1 := Heap.size_push ..
  show _ ∧ _
  rw [hz]
  have he : IsEnum ((s.heap.push o).push { cls := .type "enumerate", data := .fields #[.none, .bool false, .ref s.heap.objs.size, rawInt 0, .none, .none] }) (s.heap.objs.size + 1) s.heap.objs.size 0 .none := by
    have := Heap.get?_push_size (s.heap.push o) (o := { cls := .type "enumerate", data := .fields #[.none, .bool false, .ref s.heap.objs.size, rawInt 0, .none, .none] }) rfl
    rw [hz] at this; exact this
  refine ⟨⟨_, he, rfl⟩, h _ he (Heap.get?_push_of_some _ (Heap.get?_push_size _ B.free)) (by rw [Heap.size_push, hz]) fun b o x => Heap.get?_push_of_some _ (Heap.get?_push_of_some _ x)⟩
end PySem
namespace L2
open PySem PySem.Spec PyProof.Rows
/-! ### enumerate(tuple) -/
def Itet (K : PySem.W.Frag) (a : Addr) : It :=
  ⟨fun i H => ∃ (xs : List V) (x : V), SqT K H a xs ∧ xs[i]? = some x, fun i H v H' => ∃ T x, v = .ref T ∧ H T = none ∧ H' = upd H T (.tup [.int (i : Nat), x]) ∧ ∀ xs, SqT K H a xs → xs[i]? = some x, fun i H => ∃ xs : List V, SqT K H a xs ∧ xs.length ≤ i⟩
theorem enum_ne_tup {h : Heap} {e it t : Addr} {i : Int} {old : Value} {items : Array Value} (he : IsEnum h e it i old) (ht : h.IsTuple t items) : e ≠ t := by
  rintro rfl
  have e1 : h.get? e = _ := he
  obtain ⟨o, e2, hc, _⟩ := ht
  rw [e1] at e2
  cases e2
  have hc' : (Value.type "enumerate") = .type "tuple" := hc
  exact absurd hc' (by decide)
theorem iter_ne_tup {h : Heap} {it t a : Addr} {i : Nat} {items : Array Value} (he : h.IsTupleIter it a i) (ht : h.IsTuple t items) : t ≠ it := by
  rintro rfl
  obtain ⟨o, ho, hc, hd⟩ := he
  obtain ⟨o', e2, hc', _⟩ := ht
  rw [ho] at e2
  cases e2
  rw [hc] at hc'
  exact absurd hc' (by decide)
theorem turn_enumT {P : Program} {w : World} {K : PySem.W.Frag} {elts : List Expr} {kk : Nat} {tpos : Pos} (a e it : Addr) :
    Turn P w K (.Tuple elts kk tpos) (Itet K a) [e, it] e (fun i h => (∃ old, IsEnum h e it ((i : Nat) : Int) old) ∧ h.IsTupleIter it a i ∧ e ≠ it) where
  mem := by simp
  obj := fun i h st b hb => by
    obtain ⟨⟨old, he⟩, ⟨o, ho, hc, hd⟩, _⟩ := st
    have e' : b = e ∨ b = it := by simpa using hb
    rcases e' with z | z
    · rw [z]; exact ⟨_, he, fun v q => nomatch q⟩
    · rw [z]; exact ⟨o, ho, fun v q => by rw [hd] at q; cases q⟩
  keep := fun i h h' st k => let ⟨⟨old, he⟩, hi, hne⟩ := st; ⟨⟨old, k e (by simp) _ he⟩, hi.at fun o q => k it (by simp) o q, hne⟩
  item := by
    intro X hP hw hK hc i pins s σ H E I hf st hg
    subst hP hw hK
    obtain ⟨⟨old, he⟩, hit, hne⟩ := st
    obtain ⟨xs, x, hq, hx⟩ := hg
    obtain ⟨its, rv, p, hz⟩ := I.tuple hq
    have pt : s.heap.IsTuple a its.toArray := p
    obtain ⟨u, hu, ru⟩ := rv.get hx
    have hel : e < s.heap.objs.size := Heap.lt_size he
    have hil : it < s.heap.objs.size := by obtain ⟨_, q, _⟩ := hit; exact Heap.lt_size q
    have hea := enum_ne_tup he pt
    have hia := iter_ne_tup hit pt
    have hlt : i < its.toArray.size := by
      have := (List.getElem?_eq_some_iff.mp hu).1
      simpa using this
    refine wpAny_pyNext_enum_itemD (Draws.tuple (show X.A.in1.handled = none from I.ok.hd hc) it a hia its.toArray) he ⟨hit, pt⟩ hlt hne (by simp [hne, hea]) fun x' h' tk hx' ho st' hT hsz hk => ?_
    obtain rfl : x' = u := by
      have : its.toArray[i]? = some u := by simpa using hu
      rw [this] at hx'; exact (Option.some.inj hx').symm
    obtain ⟨hit', pt'⟩ := st'
    refine ⟨_, rfl, wpAny_letOwnedTupleGo_enum (s := { s with heap := h', toks := tk + 1 }) ho fun h'' he' sb => ?_⟩
    have hT2 : h''.get? s.heap.objs.size = some { cls := .type "tuple", data := .seq #[.int i tk, x'] } := (sb.2 _ (Nat.ne_of_gt hel)).trans hT
    have new : ObjOk X.prog X.w (upd H s.heap.objs.size (.tup [.int (i : Nat), x])) h'' s.heap.objs.size (.tup [.int (i : Nat), x]) :=
      ⟨by show 2 ≤ sizeLine; decide, [.int i tk, x'], .cons ⟨_, rfl⟩ (.cons ru .nil), ⟨_, hT2, rfl, _, rfl⟩⟩
    have I1 : Inv X pins σ (upd H s.heap.objs.size (.tup [.int (i : Nat), x])) { s with heap := h'', toks := tk + 1 } :=
      I.turnedNew (ch := [e, it]) (fun b ob hb q => (sb.2 b (fun z => hb (by simp [z]))).trans (hk b ob (fun z => hb (by simp [z])) (fun z => hb (by simp [z])) q)) hf (Nat.le_refl _) new
    refine ⟨.ref s.heap.objs.size, _, I1, rfl, ⟨_, x, rfl, I.hok.fresh (Nat.le_refl _), rfl, fun ys hy => by rw [I.tuple_inj hy hq]; exact hx⟩, ⟨⟨x', ?_⟩, hit'.at fun o q => (sb.2 it (Ne.symm hne)).trans q, hne⟩, fun b hb => ?_⟩
    · have e1 : ((i + 1 : Nat) : Int) = (i : Int) + 1 := by omega
      rw [e1]; exact he'
    · have hb' : b < s.heap.objs.size := by
        have e' : b = e ∨ b = it := by simpa using hb
        rcases e' with z | z
        · rw [z]; exact hel
        · rw [z]; exact hil
      rw [upd_ne (Nat.ne_of_lt hb')]
      exact (hf b hb).1
  done := by
    intro X hP hw hK hc i pins s σ H E I hf st hg
    subst hP hw hK
    obtain ⟨⟨old, he⟩, hit, hne⟩ := st
    obtain ⟨xs, hq, hx⟩ := hg
    obtain ⟨its, rv, p, hz⟩ := I.tuple hq
    have pt : s.heap.IsTuple a its.toArray := p
    obtain ⟨f0, f1, f2, f3, f4, f5⟩ := hf it (by simp)
    have hl := rv.length
    have hT : s.TypeIs (.ref e) "enumerate" := ⟨_, he, rfl⟩
    unfold pyNext
    refine wpAny_bind (wpAny_attempt (wpAny_callSpecial?_slot (name := Str.ofString "__next__") hT F.slot_enumerate_next
      (wpAny_call_entry F.slot_enumerate_next hT F.entry_enumerate_next ?_ (F.args_enumerate_next_1 _))))
    show wpAny _ _ (field (.ref e) 2 >>= _) _ _ _
    refine wpAny_bind (wpAny_field he rfl (x := .ref it) rfl ?_)
    refine wpAny_bind (wpAny_nextOf_tuple_end (show X.A.in1.in1.handled = none from I.ok.hd hc) hit pt (by simp; omega) fun h' x eb hx' => ?_)
    obtain ⟨o, ho, hcl⟩ := hx'
    refine wpAny_bind (wpAny_isInstance (T := "StopIteration") (b := true) ⟨o, ho, hcl⟩ isSubtype_stop ?_)
    exact wpAny_pure ⟨rfl, I.turned (t' := s.toks) (fun b o hb q => eb b o hb q) f0 f1 f3 f4 f5⟩
  self := fun A i s Q E st h => let ⟨⟨_, he⟩, _⟩ := st; wpAny_pyIter_enum he h
def iEnumT (K : PySem.W.Frag) (ta : TA) : TI := fun σ H R => ta σ H fun vs H1 => ∃ a xs, vs = [.ref a] ∧ ((SqL K H1 a xs ∧ R (Ite K a) H1) ∨ (SqT K H1 a xs ∧ R (Itet K a) H1))
theorem pi_enumT {X : Cx} {e : Expr} {ta : TA} {p pos tpos : Pos} {elts : List Expr} {kk : Nat} (hg : Gl X "enumerate") (hm : X.mg "enumerate" = none) (ha : PA X [e] ta) (hs : starEach [e] X.env = [(false, eval e X.env)] := by rfl) :
    PI X (.Tuple elts kk tpos) (.Call (.Name "enumerate" p) [e] [] pos) (iEnumT X.K ta) := by
  refine ⟨fun pins s σ H R I h => ?_⟩
  refine Call_ (ld_blt I hg hm boot_enumerate (PyProof.Rows.callWith_type1 (thn (ha.run pos pins s σ H _ I h) fun us s1 ⟨vs, H1, I1, r1, q1⟩ => ?_) hs rfl))
  obtain ⟨a, xs, ex, q⟩ := q1
  subst ex
  cases r1 with
  | cons r rr =>
    cases rr
    cases r
    rcases q with ⟨hq, q⟩ | ⟨hq, q⟩
    · obtain ⟨its, rv, p', hz⟩ := I1.list hq
      refine call_enumerate_list p'.isList fun h' he hit hsz hk => wpAny_pyIter_enum he ?_
      have I2 : Inv X pins σ H1 { s1 with heap := h' } := I1.kept (t' := s1.toks) hk
      refine ⟨s1.heap.objs.size + 1, [s1.heap.objs.size + 1, s1.heap.objs.size], _, _, H1, rfl, I2, turn_enum a (s1.heap.objs.size + 1) s1.heap.objs.size, ⟨⟨.none, he⟩, hit, Nat.succ_ne_self _⟩, fun b hb => ?_, q⟩
      have e' : b = s1.heap.objs.size + 1 ∨ b = s1.heap.objs.size := by simpa using hb
      have hle : s1.heap.objs.size ≤ b := by
        rcases e' with z | z
        · rw [z]; exact Nat.le_add_right _ _
        · rw [z]; exact Nat.le_refl _
      exact I1.fpOk hle (I1.hok.fresh hle)
    · obtain ⟨its, rv, p', hz⟩ := I1.tuple hq
      refine dl_enum_begins (begins_tuple a its.toArray) (show s1.heap.IsTuple a its.toArray from p') fun h' he hit hsz hk => wpAny_pyIter_enum he ?_
      have I2 : Inv X pins σ H1 { s1 with heap := h' } := I1.kept (t' := s1.toks) hk
      refine ⟨s1.heap.objs.size + 1, [s1.heap.objs.size + 1, s1.heap.objs.size], _, _, H1, rfl, I2, turn_enumT a (s1.heap.objs.size + 1) s1.heap.objs.size, ⟨⟨.none, he⟩, ⟨_, hit, rfl, rfl⟩, Nat.succ_ne_self _⟩, fun b hb => ?_, q⟩
      have e' : b = s1.heap.objs.size + 1 ∨ b = s1.heap.objs.size := by simpa using hb
      have hle : s1.heap.objs.size ≤ b := by
        rcases e' with z | z
        · rw [z]; exact Nat.le_add_right _ _
        · rw [z]; exact Nat.le_refl _
      exact I1.fpOk hle (I1.hok.fresh hle)
end L2
namespace DL
open PySem PySem.Spec PyProof.Rows L2
section
variable {X : Cx} {B : Gd} {ρ ρ' : List (Option D)} {O O' O1 O2 : Om} {A : AE} {a b c e o : Expr} {es : List Expr} {d d1 d2 d3 : D} {ds : List D} {pos pos' p apos : Pos} {b1 b2 : Bool} {st : Stmt} {ss rest : List Stmt} {x : Str} {k : Nat} {C : Addr}
theorem ei_enumQ {ea : Expr} {elts : List Expr} {kk : Nat} {p p' tpos : Pos} (hgl : Gl X "enumerate") (hm : X.mg "enumerate" = none) (hi : EA X B ρ O [ea] [d]) (w : Vq (B.L ++ O) d ds) (hse : starEach [ea] X.env = [(false, eval ea X.env)] := by rfl) :
    EI X B ρ O (.Tuple elts kk tpos) (.Call (.Name "enumerate" p) [ea] [] p') (iEnumT X.K (tA X.K B ρ O [d])) (fun O' => Vq (B.L ++ O') d ds) (enumD ds) :=
  ⟨pi_enumT hgl hm hi hse, fun σ H R st k => ⟨st, fun vs H1 e1 r1 => by
    have hl : (enumD ds).length = ds.length := by simp [enumD]
    cases r1 with
    | @cons v _ _ _ h r =>
    cases r
    rcases w with w | rfl
    · obtain ⟨a, vs, rfl, hq, rl⟩ := w.sql (st.same e1).m h
      have S := src_list w (st.same e1).m h rfl
      refine ⟨a, vs, rfl, .inl ⟨hq, k _ H1 e1 ⟨fun i B' O' H' eL hi m e g => ?_, fun B' O' H' eL m e g => ?_, fun i B' O' H' x H2 eL hi m e g y => ?_⟩⟩⟩
      · rw [hl] at hi
        have g' : Vw (B.L ++ O') d ds := by
          rcases g with g | g
          · exact g
          · subst g; rcases w with (w | ⟨a', w, _⟩) | w <;> cases w
        exact S.goes i B' O' H' eL hi m e g'
      · rw [hl]
        have g' : Vw (B.L ++ O') d ds := by
          rcases g with g | g
          · exact g
          · subst g; rcases w with (w | ⟨a', w, _⟩) | w <;> cases w
        exact S.stops B' O' H' eL m e g'
      · rw [hl] at hi
        have g' : Vw (B.L ++ O') d ds := by
          rcases g with g | g
          · exact g
          · subst g; rcases w with (w | ⟨a', w, _⟩) | w <;> cases w
        obtain ⟨T, x', ex, hT, e2, y⟩ := y
        subst e2 ex
        obtain ⟨_, d', hd', rd⟩ := S.yields i B' O' H' x' H' eL hi m e g' ⟨rfl, y⟩
        refine ⟨same_new hT, .tup [.int (i : Int), d'], ?_, .tup (.inl (.inl (m.visNew hT))) (.cons (.int _) (.cons (rd.mono (vis_same (same_new hT))) .nil))⟩
        unfold enumD; rw [List.getElem?_map, List.getElem?_range hi]; simp [hd']
    · cases h with
      | @tup a vs _ hq rl =>
      refine ⟨a, vs, rfl, .inr ⟨same_t vis_le hq, k _ H1 e1 ⟨fun i B' O' H' eL hi m e g => ?_, fun B' O' H' eL m e g => ?_, fun i B' O' H' x H2 eL hi m e g y => ?_⟩⟩⟩
      · rw [hl] at hi
        obtain ⟨v, hv, _⟩ := rl.get (i := i) (d := ds[i]) (by simp [hi])
        exact ⟨vs, v, same_t vis_le (same_t e hq), hv⟩
      · rw [hl]
        exact ⟨vs, same_t vis_le (same_t e hq), by rw [rl.length]; exact Nat.le_refl _⟩
      · rw [hl] at hi
        obtain ⟨T, x', ex, hT, e2, y⟩ := y
        subst e2 ex
        obtain ⟨v, hv, rv⟩ := rl.get (i := i) (d := ds[i]) (by simp [hi])
        have ex := y vs (same_t vis_le (same_t e hq))
        rw [hv] at ex
        cases ex
        refine ⟨same_new hT, .tup [.int (i : Int), ds[i]], ?_, .tup (.inl (.inl (m.visNew hT))) (.cons (.int _) (.cons ((rv.mono e).mono (vis_same (same_new hT))) .nil))⟩
        unfold enumD; rw [List.getElem?_map, List.getElem?_range hi]; simp [hi]⟩⟩
/-- a op b op' c of ints -/
theorem et_chainI {op op' : CmpOp} {g g' : Int → Int → Bool} {i j l : Int} (ho : OpR X (compareOp op) (rI0 fun i j => .bl (g i j))) (ho' : OpR X (compareOp op') (rI0 fun i j => .bl (g' i j))) (ha : EV X B ρ O a (.int i)) (hb : EV X B ρ O b (.int j)) (hc : EV X B ρ O c (.int l))
    (hm : lastMarks [op, op'] [b, c] = false := by with_unfolding_all rfl) : ET X B ρ O (.Compare a [op, op'] [b, c] pos) (g i j && g' j l) :=
  pt_imp (pt_chain ho ho' ha hb hc hm) fun σ H Q ⟨st, k⟩ => ⟨st, fun v H1 e1 r1 => by
    cases r1
    refine ⟨st.same e1, fun v H2 e2 r2 => ?_⟩
    cases r2
    refine ⟨i, j, rfl, rfl, g i j, rfl, ?_⟩
    cases h : g i j with
    | false => simp only [h, Bool.false_and] at k ⊢; exact ⟨false, rfl, k _ (e1.trans e2)⟩
    | true =>
      simp only [h, Bool.true_and, if_true] at k ⊢
      refine ⟨(st.same e1).same e2, fun v H3 e3 r3 => ?_⟩
      cases r3
      exact ⟨j, l, rfl, rfl, g' j l, rfl, k _ ((e1.trans e2).trans e3)⟩⟩
theorem atS {z : Str} {i : Int} (h0 : 0 ≤ i) (h : i < (z.length : Int)) : atI z.cps.toList i = some (z.cps.toList.getD i.toNat 0) := atC h0 (by rw [Array.length_toList]; exact h)
theorem vq_enum_item {α : Type} {xs : List α} {f : α → D} {i : Nat} {d : D} (h : (enumD (xs.map f))[i]? = some d) : ∃ x, xs[i]? = some x ∧ d = .tup [.int (i : Int), f x] := enum_item h
end
end DL

set_option Elab.async false
set_option linter.all false
set_option maxRecDepth 100000
set_option maxHeartbeats 2000000
namespace DL
open PySem PySem.Spec PyProof.Rows L2
/-! ### what a def computes, and when it may be asked -/
structure Cmp (α : Type) where
  ok : Prop
  val : α
namespace Cmp
variable {α β : Type}
abbrev ret (a : α) : Cmp α := ⟨True, a⟩
def req (p : Prop) (m : Cmp α) : Cmp α := ⟨p ∧ m.ok, m.val⟩
abbrev bnd (v : β) (f : β → Cmp α) : Cmp α := f v
def bind (m : Cmp β) (f : β → Cmp α) : Cmp α := ⟨m.ok ∧ (f m.val).ok, (f m.val).val⟩
def bad [Inhabited α] : Cmp α := ⟨False, default⟩
end Cmp
/-- an error: the place of its class in a table, what its field holds -/
structure Exn where
  c : Nat
  d : D
inductive Ctl (S L R : Type) where
  | nx (s : S) | rt (r : R) | bk (l : L) | ct (l : L) | ex (e : Exn)
section
variable {α S S2 L R : Type}
def forN (f : α → S → Cmp S) : List α → S → Cmp S
  | [], s => .ret s
  | x :: xs, s => (f x s).bind (forN f xs)
def Ctl.then_ (c : Ctl S L R) (k : S → Cmp (Ctl S2 L R)) : Cmp (Ctl S2 L R) :=
  match c with
  | .nx s => k s
  | .rt r => .ret (.rt r)
  | .bk l => .ret (.bk l)
  | .ct l => .ret (.ct l)
  | .ex e => .ret (.ex e)
def Cmp.bindC (m : Cmp (Ctl S L R)) (k : S → Cmp (Ctl S2 L R)) : Cmp (Ctl S2 L R) := m.bind fun c => c.then_ k
/-- .. to what is returned -/
def Ctl.thenR [Inhabited R] (c : Ctl S L R) (k : S → Cmp R) : Cmp R :=
  match c with
  | .nx s => k s
  | .rt r => .ret r
  | _ => .bad
def Cmp.bindR [Inhabited R] (m : Cmp (Ctl S L R)) (k : S → Cmp R) : Cmp R := m.bind fun c => c.thenR k
def Ctl.goOn (c : Ctl S S R) (k : S → Cmp (Ctl S L R)) : Cmp (Ctl S L R) :=
  match c with
  | .nx s => k s
  | .ct s => k s
  | .bk s => .ret (.nx s)
  | .rt r => .ret (.rt r)
  | .ex e => .ret (.ex e)
def forC (f : α → S → Cmp (Ctl S S R)) : List α → S → Cmp (Ctl S L R)
  | [], s => .ret (.nx s)
  | x :: xs, s => (f x s).bind fun c => c.goOn (forC f xs)
def whileN (c : S → Cmp Bool) (b : S → Cmp S) : Nat → S → Cmp S
  | 0, s => ⟨False, s⟩
  | n + 1, s => (c s).bind fun t => if t = true then (b s).bind (whileN c b n) else .ret s
end
/-! ### how a mirror stands over the text -/
def aN {S : Type} (st : S → List (Option D) → Om → Prop) (s : S) : AE := { nx := fun ρ O => ∃ ρ', Wk ρ' ρ ∧ st s ρ' O, rt := fun _ _ => False }
/-- .. a loop's turn -/
def aL {S : Type} (st : S → List (Option D) → Om → Prop) (s : S) : AE := { nx := fun ρ O => ∃ ρ', Wk ρ' ρ ∧ st s ρ' O, ct := fun ρ O => ∃ ρ', Wk ρ' ρ ∧ st s ρ' O, rt := fun _ _ => False }
/-- .. a def's end -/
def aR {R : Type} (rt : R → D → Om → Prop) (r : R) : AE := { nx := fun _ O => rt r .non O, rt := rt r }
def aC {S L R : Type} (st : S → List (Option D) → Om → Prop) (sl : L → List (Option D) → Om → Prop) (rt : R → D → Om → Prop) (ex : Exn → Addr → Str → D → List (Option D) → Om → Prop) : Ctl S L R → AE
  | .nx s => { nx := fun ρ O => ∃ ρ', Wk ρ' ρ ∧ st s ρ' O, rt := fun _ _ => False }
  | .rt r => { nx := fun _ _ => False, rt := rt r }
  | .bk l => { nx := fun _ _ => False, rt := fun _ _ => False, bk := fun ρ O => ∃ ρ', Wk ρ' ρ ∧ sl l ρ' O }
  | .ct l => { nx := fun _ _ => False, rt := fun _ _ => False, ct := fun ρ O => ∃ ρ', Wk ρ' ρ ∧ sl l ρ' O }
  | .ex e => { nx := fun _ _ => False, rt := fun _ _ => False, ex := ex e }
/-- a value handed back -/
abbrev rtP {R : Type} (e : R → D) : R → D → Om → Prop := fun r d O => Frz O d (e r)
/-- a new list handed back -/
abbrev rtN {α : Type} (e : α → D) : List α → D → Om → Prop := fun r d O => ∃ p, d = .rf p ∧ O = [(p, .lst (r.map e))]
abbrev noNx (A : AE) : AE := { A with nx := fun _ _ => False }
section
variable {X : Cx} {B : Gd} {ρ ρ' : List (Option D)} {O O' O1 O2 : Om} {a b c e o : Expr} {es : List Expr} {d d1 d2 d3 : D} {ds : List D} {pos pos' p apos : Pos} {b1 b2 : Bool} {st : Stmt} {ss rest s1 s2 body : List Stmt} {x : Str}
variable {α β S L R : Type} {A : α → AE}
abbrev JC (X : Cx) (B : Gd) (ss : List Stmt) (ρ : List (Option D)) (O : Om) (A : α → AE) (m : Cmp α) : Prop := m.ok → J X B ss ρ O (A m.val)
abbrev JC1 (X : Cx) (B : Gd) (s : Stmt) (ρ : List (Option D)) (O : Om) (A : α → AE) (m : Cmp α) : Prop := m.ok → J1 X B s ρ O (A m.val)
theorem jc_req {q : Prop} {m : Cmp α} (h : q → JC X B ss ρ O A m) : JC X B ss ρ O A (.req q m) := fun ok => h ok.1 ok.2
theorem jc1_req {q : Prop} {m : Cmp α} (h : q → JC1 X B st ρ O A m) : JC1 X B st ρ O A (.req q m) := fun ok => h ok.1 ok.2
theorem jc_one {m : Cmp α} (h : JC1 X B st ρ O A m) : JC X B [st] ρ O A m := fun ok => j_cons (ps_imp (h ok) fun Dn σ H ⟨s, p⟩ => ⟨s, fun ρ O σ H q => p.nx ρ O σ H (j_nil q), p.rt, p.bk, p.ct, p.ex⟩)
theorem jc_nil {v : α} (h : (A v).nx ρ O) : JC X B [] ρ O A (.ret v) := fun _ => j_nil h
theorem jc1_ite {m1 m2 : Cmp α} (hc : ET X B ρ O c b1) (h1 : b1 = true → JC X B s1 ρ O A m1) (h2 : b1 = false → JC X B s2 ρ O A m2) : JC1 X B (.If c s1 s2 pos) ρ O A (if b1 = true then m1 else m2) := fun ok => by
  cases b1 with
  | true => exact j_if hc (fun _ => h1 rfl ok) (fun h => nomatch h)
  | false => exact j_if hc (fun h => nomatch h) (fun _ => h2 rfl ok)
/-- the first branch leaves the block -/
theorem jc_ifr {m1 m2 : Cmp α} (hc : ET X B ρ O c b1) (h1 : b1 = true → JC X B s1 ρ O (fun v => noNx (A v)) m1) (h2 : b1 = false → JC X B rest ρ O A m2) : JC X B (.If c s1 [] pos :: rest) ρ O A (if b1 = true then m1 else m2) := fun ok => by
  cases b1 with
  | true => exact j_cons (j_if hc (fun _ => j_imp (h1 rfl ok) (fun _ _ z => z.elim) (fun _ _ z => z) (fun _ _ z => z) (fun _ _ z => z) (fun _ _ _ _ _ z => z)) (fun h => nomatch h))
  | false => exact j_cons (j_if hc (fun h => nomatch h) (fun _ => j_nil (h2 rfl ok)))
theorem jc_seqN {st1 : S → List (Option D) → Om → Prop} {m1 : Cmp S} {m2 : S → Cmp α} (h1 : JC1 X B st ρ O (aN st1) m1) (h2 : ∀ s ρ' O', st1 s ρ' O' → JC X B rest ρ' O' A (m2 s)) : JC X B (st :: rest) ρ O A (m1.bind m2) := fun ok =>
  j_cons (ps_imp (h1 ok.1) fun Dn σ H ⟨s, p⟩ => ⟨s, fun ρ' O' σ' H' ⟨ρ2, w, q⟩ s' e => p.nx ρ' O' σ' H' (pss_imp (h2 _ _ _ q ok.2) fun Dn σ H ⟨s, p⟩ => ⟨s.weak w, p⟩) s' e, fun _ _ _ _ z => z.elim, fun _ _ _ _ z => z.elim, fun _ _ _ _ z => z.elim, fun _ _ _ _ _ _ _ _ _ z => z.elim⟩)
theorem jc_seqC {S2 : Type} {st1 : S → List (Option D) → Om → Prop} {st2 : S2 → List (Option D) → Om → Prop} {sl : L → List (Option D) → Om → Prop} {rt : R → D → Om → Prop} {ex : Exn → Addr → Str → D → List (Option D) → Om → Prop} {m1 : Cmp (Ctl S L R)} {m2 : S → Cmp (Ctl S2 L R)}
    (h1 : JC1 X B st ρ O (aC st1 sl rt ex) m1) (h2 : ∀ s ρ' O', st1 s ρ' O' → JC X B rest ρ' O' (aC st2 sl rt ex) (m2 s)) : JC X B (st :: rest) ρ O (aC st2 sl rt ex) (m1.bindC m2) := fun ok => by
  obtain ⟨q, v⟩ := m1
  obtain ⟨ok1, ok2⟩ := ok
  have h := h1 ok1
  refine j_cons ?_
  cases v with
  | nx s => exact ps_imp h fun Dn σ H ⟨s, p⟩ => ⟨s, fun ρ' O' σ' H' ⟨ρ2, w, q⟩ s' e => p.nx ρ' O' σ' H' (pss_imp (h2 _ _ _ q ok2) fun Dn σ H ⟨s, p⟩ => ⟨s.weak w, p⟩) s' e, fun _ _ _ _ z => z.elim, fun _ _ _ _ z => z.elim, fun _ _ _ _ z => z.elim, fun _ _ _ _ _ _ _ _ _ z => z.elim⟩
  | rt r => exact ps_imp h fun Dn σ H ⟨s, p⟩ => ⟨s, fun _ _ _ _ z => z.elim, p.rt, fun _ _ _ _ z => z.elim, fun _ _ _ _ z => z.elim, fun _ _ _ _ _ _ _ _ _ z => z.elim⟩
  | bk r => exact ps_imp h fun Dn σ H ⟨s, p⟩ => ⟨s, fun _ _ _ _ z => z.elim, fun _ _ _ _ z => z.elim, p.bk, fun _ _ _ _ z => z.elim, fun _ _ _ _ _ _ _ _ _ z => z.elim⟩
  | ct r => exact ps_imp h fun Dn σ H ⟨s, p⟩ => ⟨s, fun _ _ _ _ z => z.elim, fun _ _ _ _ z => z.elim, fun _ _ _ _ z => z.elim, p.ct, fun _ _ _ _ _ _ _ _ _ z => z.elim⟩
  | ex r => exact ps_imp h fun Dn σ H ⟨s, p⟩ => ⟨s, fun _ _ _ _ z => z.elim, fun _ _ _ _ z => z.elim, fun _ _ _ _ z => z.elim, fun _ _ _ _ z => z.elim, p.ex⟩
theorem jc_seqR [Inhabited R] {st1 : S → List (Option D) → Om → Prop} {sl : L → List (Option D) → Om → Prop} {rt : R → D → Om → Prop} {ex : Exn → Addr → Str → D → List (Option D) → Om → Prop} {m1 : Cmp (Ctl S L R)} {m2 : S → Cmp R}
    (h1 : JC1 X B st ρ O (aC st1 sl rt ex) m1) (h2 : ∀ s ρ' O', st1 s ρ' O' → JC X B rest ρ' O' (aR rt) (m2 s)) : JC X B (st :: rest) ρ O (aR rt) (m1.bindR m2) := fun ok => by
  obtain ⟨q, v⟩ := m1
  obtain ⟨ok1, ok2⟩ := ok
  have h := h1 ok1
  refine j_cons ?_
  cases v with
  | nx s => exact ps_imp h fun Dn σ H ⟨s, p⟩ => ⟨s, fun ρ' O' σ' H' ⟨ρ2, w, q⟩ s' e => p.nx ρ' O' σ' H' (pss_imp (h2 _ _ _ q ok2) fun Dn σ H ⟨s, p⟩ => ⟨s.weak w, p⟩) s' e, fun _ _ _ _ z => z.elim, fun _ _ _ _ z => z.elim, fun _ _ _ _ z => z.elim, fun _ _ _ _ _ _ _ _ _ z => z.elim⟩
  | rt r => exact ps_imp h fun Dn σ H ⟨s, p⟩ => ⟨s, fun _ _ _ _ z => z.elim, p.rt, fun _ _ _ _ z => z.elim, fun _ _ _ _ z => z.elim, fun _ _ _ _ _ _ _ _ _ z => z.elim⟩
  | bk r => exact False.elim ok2
  | ct r => exact False.elim ok2
  | ex r => exact False.elim ok2
/-! ### plain statements -/
theorem jc_set (i : Nat) {v : β} {E : β → D} {m : β → Cmp α} (nd : X.N.Nodup) (he : EV X B ρ O e (E v)) (h : ∀ y, JC X B rest (ρ.set i (some (E y))) O A (m y)) (hi : X.N[i]? = some x := by rfl) (hx : Loc X.env.scope x := by first | exact .inl rfl | exact .inr rfl) (hs : swapsWith e (some (.Name x pos')) pos.line X.env = pure false := by rfl)
    (hf : X.fn x = true ∨ X.env.scope.names.lookup x = some .local := by first | exact .inr rfl | exact .inl rfl) : JC X B (.Assign [.Name x pos'] e pos :: rest) ρ O A (.bnd v m) := fun ok => j_cons (sset i nd he (h v ok) hi hx hs hf)
theorem jc_setN (i : Nat) {v : List β} {E : β → D} {m : List β → Cmp α} (nd : X.N.Nodup) (he : EN X B ρ O e (v.map E)) (h : ∀ q y, has O q = false → JC X B rest (ρ.set i (some (.rf q))) ((q, .lst (y.map E)) :: O) A (m y)) (hi : X.N[i]? = some x := by rfl) (hx : Loc X.env.scope x := by first | exact .inl rfl | exact .inr rfl) (hs : swapsWith e (some (.Name x pos')) pos.line X.env = pure false := by rfl)
    (hf : X.fn x = true ∨ X.env.scope.names.lookup x = some .local := by first | exact .inr rfl | exact .inl rfl) : JC X B (.Assign [.Name x pos'] e pos :: rest) ρ O A (.bnd v m) := fun ok => j_cons (ssetN i nd he (fun q hq => h q v hq ok) hi hx hs hf)
/-- (x, y) = e -/
theorem jc_asg {v : β} {E : β → D} {m : β → Cmp α} {tg : Expr} {g : TG} {sl : List Nat} {f} (he : EV X B ρ O e (E v)) (hg : EB X tg g sl f) (h : ∀ y, ∃ ρ', f (E y) ρ = some ρ' ∧ JC X B rest ρ' O A (m y)) (hs : swapsWithSole [tg] e pos.line X.env = pure false := by rfl) (hw : swappedStores [tg] e X.env = pure none := by rfl)
    (h1 : (assignEach [tg] X.env).map (·.2) = [assign tg X.env] := by rfl) : JC X B (.Assign [tg] e pos :: rest) ρ O A (.bnd v m) := fun ok => by
  obtain ⟨ρ', hf, hr⟩ := h v
  exact j_cons (j_asg he hg hf (hr ok) hs hw h1)
theorem jc_ret {v : α} (he : EV X B ρ O e d) (h : (A v).rt d O) : JC X B (.Return (some e) pos :: rest) ρ O A (.ret v) := fun _ => j_cons (j_ret he h)
theorem jc_retN {v : α} (h : (A v).rt .non O) : JC X B (.Return none pos :: rest) ρ O A (.ret v) := fun _ => j_cons (j_retN h)
theorem jc_pass {m : Cmp α} (h : JC X B rest ρ O A m) : JC X B (.Pass pos :: rest) ρ O A m := fun ok => j_cons (j_pass (h ok))
theorem jc_break {v : α} (h : (A v).bk ρ O) : JC X B (.Break pos :: rest) ρ O A (.ret v) := fun _ => j_cons (j_break h)
theorem jc_continue {v : α} (h : (A v).ct ρ O) : JC X B (.Continue pos :: rest) ρ O A (.ret v) := fun _ => j_cons (j_continue h)
theorem jc_expr {m : Cmp α} (he : EV X B ρ O e d) (h : JC X B rest ρ O A m) (hs : swapsWith e none pos.line X.env = pure false := by rfl) : JC X B (.Expr e pos :: rest) ρ O A m := fun ok => j_cons (j_expr (eg_of he) (h ok) hs)
theorem jc_append {q : Addr} {v : β} {xs : List β} {E : β → D} {m : List β → Cmp α} {O2 : List β → Om} (ho : EV X B ρ O o (.rf q)) (hm : (q, M.lst (xs.map E)) ∈ O) (he : EV X B ρ O e (E v)) (hp : ∀ ys : List β, Put O q (.lst (xs.map E)) (.lst (ys.map E)) (O2 ys)) (hz : xs.length < sizeLine) (h : ∀ ys, JC X B rest ρ (O2 ys) A (m ys))
    (hbase : attributeBase o "append" X.env (eval o X.env) = eval o X.env := by rfl)
    (hfew : ((backTo pos (starEach [e] X.env)).all (fun x => !x.1) && (backToKw pos (keywordEach [] X.env)).all (fun x => x.1.isSome)
      && decide ([e].length + ([] : List Keyword).length + (if ([] : List Keyword).isEmpty then 0 else 1) < 30)) = true := by rfl)
    (hline : (apos.endLine == pos.line) = true := by rfl) (hs : starEach [e] X.env = (false, eval e X.env) :: starEach [] X.env := by rfl) (hplain : (backTo pos (starEach [] X.env)).any (·.1) = false := by rfl)
    (hsw : swapsWith (.Call (.Attribute o "append" apos) [e] [] pos) none pos'.line X.env = pure false := by rfl) :
    JC X B (.Expr (.Call (.Attribute o "append" apos) [e] [] pos) pos' :: rest) ρ O A (.bnd (xs ++ [v]) m) := fun ok =>
  j_cons (j_expr (eg_append (d := E v) (ds := xs.map E) ho hm (eg_of he) (by have := hp (xs ++ [v]); rw [List.map_append] at this; exact this) (by rw [List.length_map]; exact hz) hbase hfew hline hs hplain) (h _ ok) hsw)
/-- xs[i] = e -/
theorem jc_setIx {q : Addr} {i : Int} {v : β} {xs : List β} {E : β → D} {m : List β → Cmp α} {O2 : List β → Om} (ho : EV X B ρ O o (.rf q)) (hi : EV X B ρ O c (.int i)) (he : EV X B ρ O e (E v)) (hp : ∀ ys : List β, Put O q (.lst (xs.map E)) (.lst (ys.map E)) (O2 ys)) (h0 : 0 ≤ i ∧ i < (xs.length : Int)) (h : ∀ ys, JC X B rest ρ (O2 ys) A (m ys))
    (ha : ∀ v, assign (.Subscript o c pos') X.env v = (do
      let ov ← holding [v] (eval o X.env)
      let iv ← holding [v, ov] (eval c X.env)
      standAt pos'
      holding [v, ov, iv] (setItem ov iv v)
      release [v, ov, iv] []) := by intro _; rfl)
    (hs : swapsWithSole [.Subscript o c pos'] e pos.line X.env = pure false := by rfl) (hw : swappedStores [.Subscript o c pos'] e X.env = pure none := by rfl)
    (h1 : (assignEach [.Subscript o c pos'] X.env).map (·.2) = [assign (.Subscript o c pos') X.env] := by rfl) :
    JC X B (.Assign [.Subscript o c pos'] e pos :: rest) ρ O A (.bnd (xs.set i.toNat v) m) := fun ok => by
  obtain ⟨j, rfl⟩ : ∃ j : Nat, i = (j : Int) := ⟨i.toNat, by omega⟩
  have hj : j < xs.length := by omega
  have e1 : ixN (xs.map E).length (j : Int) = some j := by
    unfold ixN
    rw [List.length_map, if_pos (by omega), if_pos (by omega)]
    simp
  refine j_cons (j_setIx ho hi he ?_ e1 (h (xs.set j v) ok) ha hs hw h1)
  have := hp (xs.set j v)
  rw [List.map_set] at this
  exact this
/-! ### loops -/
theorem jc1_for {xs : List α} {E : α → D} {iter tg : Expr} {wi : TI} {sl : List Nat} {bf} {g : TG} {G : Om → Prop} {f : α → S → Cmp S} {s0 : S} {st : S → List (Option D) → Om → Prop}
    (hp : PassesOwn (model X.prog X.w) X.A X.env X.xe) (hc : X.calm = true) (hi : EI X B ρ O tg iter wi G (xs.map E)) (hg : EB X tg g sl bf) (hv : ∀ s ρ O, st s ρ O → G O) (h0 : ∃ ρ0, Wk ρ0 ρ ∧ st s0 ρ0 O)
    (hb : ∀ y s ρ O, st s ρ O → ∃ ρ', bf (E y) ρ = some ρ' ∧ JC X B body ρ' O (aL st) (f y s))
    (hfs : ∀ x, foldedSetIterable iter X.env x = pure x := by intro _; rfl) : JC1 X B (.For tg iter body [] pos) ρ O (aN st) (forN f xs s0) := fun ok => by
  refine j_for (fun i ρ' O' => ∃ s, st s ρ' O' ∧ (forN f (xs.drop i) s).ok ∧ (forN f (xs.drop i) s).val = (forN f xs s0).val) hp hc hi hg (fun i ρ O ⟨s, q, _⟩ => hv s ρ O q) (by
    obtain ⟨ρ0, w, q⟩ := h0
    exact ⟨ρ0, w, s0, q, ok, rfl⟩) (fun i d ρ' O' hd ⟨s, q, k1, k2⟩ => ?_) (fun ρ' O' ⟨s, q, k1, k2⟩ => ?_) hfs
  · obtain ⟨y, hy, rfl⟩ := map_item hd
    obtain ⟨hl, ey⟩ := List.getElem?_eq_some_iff.mp hy
    have e1 : xs.drop i = y :: xs.drop (i + 1) := by rw [List.drop_eq_getElem_cons hl, ey]
    rw [e1] at k1 k2
    obtain ⟨ρ2, f1, j⟩ := hb y s ρ' O' q
    have fin : ∀ ρ3 O3, (∃ ρ'', Wk ρ'' ρ3 ∧ st (f y s).val ρ'' O3) → ∃ ρ4, Wk ρ4 ρ3 ∧ ∃ s, st s ρ4 O3 ∧ (forN f (xs.drop (i + 1)) s).ok ∧ (forN f (xs.drop (i + 1)) s).val = (forN f xs s0).val := fun ρ3 O3 ⟨ρ4, w, q4⟩ => ⟨ρ4, w, _, q4, k1.2, k2⟩
    exact ⟨ρ2, f1, j_imp (j k1.1) fin (fun _ _ z => z) (fun _ _ z => z.elim) fin (fun _ _ _ _ _ z => z.elim)⟩
  · rw [List.length_map, List.drop_length] at k2
    have k2' : s = (forN f xs s0).val := k2
    exact ⟨ρ', wk_refl, k2' ▸ q⟩
theorem jc1_forC {xs : List α} {E : α → D} {iter tg : Expr} {wi : TI} {sl : List Nat} {bf} {g : TG} {G : Om → Prop} {f : α → S → Cmp (Ctl S S R)} {s0 : S} {sl' : L → List (Option D) → Om → Prop} {rt : R → D → Om → Prop} {ex : Exn → Addr → Str → D → List (Option D) → Om → Prop} {st : S → List (Option D) → Om → Prop}
    (hp : PassesOwn (model X.prog X.w) X.A X.env X.xe) (hc : X.calm = true) (hi : EI X B ρ O tg iter wi G (xs.map E)) (hg : EB X tg g sl bf) (hv : ∀ s ρ O, st s ρ O → G O) (h0 : ∃ ρ0, Wk ρ0 ρ ∧ st s0 ρ0 O)
    (hb : ∀ y s ρ O, st s ρ O → ∃ ρ', bf (E y) ρ = some ρ' ∧ JC X B body ρ' O (aC st st rt ex) (f y s))
    (hfs : ∀ x, foldedSetIterable iter X.env x = pure x := by intro _; rfl) : JC1 X B (.For tg iter body [] pos) ρ O (aC st sl' rt ex) (forC f xs s0) := fun ok => by
  refine j_for (fun i ρ' O' => ∃ s, st s ρ' O' ∧ (forC (L := L) f (xs.drop i) s).ok ∧ (forC (L := L) f (xs.drop i) s).val = (forC f xs s0).val) hp hc hi hg (fun i ρ O ⟨s, q, _⟩ => hv s ρ O q) (by
    obtain ⟨ρ0, w, q⟩ := h0
    exact ⟨ρ0, w, s0, q, ok, rfl⟩) (fun i d ρ' O' hd ⟨s, q, k1, k2⟩ => ?_) (fun ρ' O' ⟨s, q, k1, k2⟩ => ?_) hfs
  · obtain ⟨y, hy, rfl⟩ := map_item hd
    obtain ⟨hl, ey⟩ := List.getElem?_eq_some_iff.mp hy
    have e1 : xs.drop i = y :: xs.drop (i + 1) := by rw [List.drop_eq_getElem_cons hl, ey]
    rw [e1] at k1 k2
    obtain ⟨ρ2, f1, j⟩ := hb y s ρ' O' q
    obtain ⟨ok1, ok2⟩ := k1
    have k2' : ((f y s).val.goOn (forC (L := L) f (xs.drop (i + 1)))).val = (forC f xs s0).val := k2
    have j' := j ok1
    refine ⟨ρ2, f1, ?_⟩
    cases hv' : (f y s).val with
    | nx s' =>
      rw [hv'] at ok2 k2' j'
      exact j_imp j' (fun ρ3 O3 ⟨ρ4, w, q4⟩ => ⟨ρ4, w, _, q4, ok2, k2'⟩) (fun _ _ z => z.elim) (fun _ _ z => z.elim) (fun _ _ z => z.elim) (fun _ _ _ _ _ z => z.elim)
    | ct s' =>
      rw [hv'] at ok2 k2' j'
      exact j_imp j' (fun _ _ z => z.elim) (fun _ _ z => z.elim) (fun _ _ z => z.elim) (fun ρ3 O3 ⟨ρ4, w, q4⟩ => ⟨ρ4, w, _, q4, ok2, k2'⟩) (fun _ _ _ _ _ z => z.elim)
    | bk s' =>
      rw [hv'] at ok2 k2' j'
      rw [← k2']
      exact j_imp j' (fun _ _ z => z.elim) (fun _ _ z => z.elim) (fun _ _ z => z) (fun _ _ z => z.elim) (fun _ _ _ _ _ z => z.elim)
    | rt r =>
      rw [hv'] at ok2 k2' j'
      rw [← k2']
      exact j_imp j' (fun _ _ z => z.elim) (fun _ _ z => z) (fun _ _ z => z.elim) (fun _ _ z => z.elim) (fun _ _ _ _ _ z => z.elim)
    | ex r =>
      rw [hv'] at ok2 k2' j'
      rw [← k2']
      exact j_imp j' (fun _ _ z => z.elim) (fun _ _ z => z.elim) (fun _ _ z => z.elim) (fun _ _ z => z.elim) (fun _ _ _ _ _ z => z)
  · rw [List.length_map, List.drop_length] at k2
    have k2' : Ctl.nx s = (forC f xs s0).val := k2
    rw [← k2']
    exact ⟨ρ', wk_refl, q⟩
theorem j_whileN {A : AE} {body : List Stmt} (Rl : Nat → List (Option D) → Om → Prop) (n : Nat) (hp : PassesOwn (model X.prog X.w) X.A X.env X.xe) (h0 : ∃ ρ0, Wk ρ0 ρ ∧ Rl n ρ0 O)
    (hs : ∀ m ρ O, Rl m ρ O → ∃ b, ET X B ρ O c b ∧ (b = true → J X B body ρ O { A with nx := fun ρ2 O2 => ∃ ρ3 k, Wk ρ3 ρ2 ∧ Rl k ρ3 O2 ∧ k < m, ct := fun ρ2 O2 => ∃ ρ3 k, Wk ρ3 ρ2 ∧ Rl k ρ3 O2 ∧ k < m, bk := A.nx }) ∧ (b = false → A.nx ρ O)) :
    J1 X B (.While c body [] pos) ρ O A := by
  refine ps_imp (ps_while hp (anyT_ok (B := B)) (any_ok (B := B))) fun Dn σ H ⟨st, p⟩ => ?_
  obtain ⟨ρ0, w0, h0⟩ := h0
  refine ⟨fun m σ' H' => ∃ ρ' O', Rl m ρ' O' ∧ StOk X.K B ρ' O' σ' H' ∧ Same (vis B.F O H) (vis B.F O' H'), ⟨_, ρ0, O, h0, st.weak w0, Same.refl _⟩, ?_⟩
  rintro m σ' H' ⟨ρ', O', hr, s', e'⟩
  obtain ⟨b, t, h1, h2⟩ := hs m ρ' O' hr
  refine ⟨ρ', O', b, t, s', fun H2 e2 => ?_⟩
  have s2 := s'.same e2
  have e3 := e'.trans (vis_same (F := B.F) (O := O') e2)
  cases b with
  | true =>
    refine iteT ⟨fun σ3 H3 => ∃ ρ3 O3 k, Rl k ρ3 O3 ∧ k < m ∧ StOk X.K B ρ3 O3 σ3 H3 ∧ Same (vis B.F O H) (vis B.F O3 H3), fun σ3 H3 ⟨ρ3, O3, k, q1, q2, q3, q4⟩ => ⟨_, q2, ρ3, O3, q1, q3, q4⟩, ρ', O', _, h1 rfl, s2, ?_⟩
    exact ⟨fun ρ3 O3 σ3 H3 ⟨ρ4, k, w, h4, l⟩ s3 e4 => ⟨ρ4, O3, k, h4, l, s3.weak w, e3.trans e4⟩, p.rt, fun ρ3 O3 σ3 H3 h3 s3 e4 => p.nx ρ3 O3 σ3 H3 h3 s3 (e3.trans e4), fun ρ3 O3 σ3 H3 ⟨ρ4, k, w, h4, l⟩ s3 e4 => ⟨ρ4, O3, k, h4, l, s3.weak w, e3.trans e4⟩, fun C f d ρ4 O3 σ3 H3 dx v h3 s3 e4 => p.ex C f d ρ4 O3 σ3 H3 dx v h3 s3 (e3.trans e4)⟩
  | false => exact iteF (p.nx ρ' O' σ' H2 (h2 rfl) s2 e3)
theorem jc1_while {cm : S → Cmp Bool} {f : S → Cmp S} {s0 : S} {n : Nat} {st : S → List (Option D) → Om → Prop} (hp : PassesOwn (model X.prog X.w) X.A X.env X.xe) (h0 : ∃ ρ0, Wk ρ0 ρ ∧ st s0 ρ0 O)
    (hb : ∀ s ρ O, st s ρ O → (cm s).ok → ET X B ρ O c (cm s).val ∧ ((cm s).val = true → JC X B body ρ O (aL st) (f s))) : JC1 X B (.While c body [] pos) ρ O (aN st) (whileN cm f n s0) := fun ok => by
  refine j_whileN (fun k ρ' O' => ∃ s, st s ρ' O' ∧ (whileN cm f k s).ok ∧ (whileN cm f k s).val = (whileN cm f n s0).val) n hp (by
    obtain ⟨ρ0, w, q⟩ := h0
    exact ⟨ρ0, w, s0, q, ok, rfl⟩) (fun k ρ' O' ⟨s, q, k1, k2⟩ => ?_)
  cases k with
  | zero => exact False.elim k1
  | succ k =>
    obtain ⟨o1, o2⟩ := k1
    obtain ⟨t, j⟩ := hb s ρ' O' q o1
    refine ⟨_, t, fun hv => ?_, fun hv => ?_⟩
    · have k2' : ((if (cm s).val = true then (f s).bind (whileN cm f k) else .ret s) : Cmp S).val = (whileN cm f n s0).val := k2
      rw [if_pos hv] at k2'
      have o2' : ((if (cm s).val = true then (f s).bind (whileN cm f k) else .ret s) : Cmp S).ok := o2
      rw [if_pos hv] at o2'
      have fin : ∀ ρ3 O3, (∃ ρ'', Wk ρ'' ρ3 ∧ st (f s).val ρ'' O3) → ∃ ρ4 k', Wk ρ4 ρ3 ∧ (∃ s, st s ρ4 O3 ∧ (whileN cm f k' s).ok ∧ (whileN cm f k' s).val = (whileN cm f n s0).val) ∧ k' < k + 1 := fun ρ3 O3 ⟨ρ4, w, q4⟩ => ⟨ρ4, k, w, ⟨_, q4, o2'.2, k2'⟩, Nat.lt_succ_self _⟩
      exact j_imp (j hv o2'.1) fin (fun _ _ z => z) (fun _ _ z => z.elim) fin (fun _ _ _ _ _ z => z.elim)
    · have k2' : ((if (cm s).val = true then (f s).bind (whileN cm f k) else .ret s) : Cmp S).val = (whileN cm f n s0).val := k2
      rw [if_neg (by rw [hv]; decide)] at k2'
      have k2'' : s = (whileN cm f n s0).val := k2'
      exact ⟨ρ', wk_refl, k2'' ▸ q⟩
/-! ### a mutable that goes -/
inductive Drp : Om → Addr → M → Om → Prop where
  | head {O : Om} {p : Addr} {m : M} : Drp ((p, m) :: O) p m O
  | tail {O O' : Om} {q : Addr × M} {p : Addr} {m : M} : Drp O p m O' → Drp (q :: O) p m (q :: O')
theorem Drp.mem {p : Addr} {m : M} : ∀ {O O' : Om}, Drp O p m O' → (p, m) ∈ O
  | _, _, .head => List.mem_cons_self
  | _, _, .tail h => List.mem_cons_of_mem _ h.mem
theorem Drp.sub {p : Addr} {m : M} : ∀ {O O' : Om}, Drp O p m O' → List.Sublist O' O
  | _, _, .head => List.sublist_cons_self _ _
  | _, _, .tail h => h.sub.cons₂ _
theorem Drp.no {p : Addr} {m : M} : ∀ {O O' : Om}, Drp O p m O' → (O.map (·.1)).Nodup → has O' p = false
  | _, _, .head (O := O) (p := p), nd => by
    rw [List.map_cons, List.nodup_cons] at nd
    cases q : has O p with
    | false => rfl
    | true =>
      obtain ⟨m', h⟩ := has_mem.mp q
      exact absurd (List.mem_map_of_mem (f := (·.1)) h) nd.1
  | _, _, .tail (q := q) (O' := O') (p := p) h, nd => by
    rw [List.map_cons, List.nodup_cons] at nd
    have h1 := h.no nd.2
    have h2 : q.1 ≠ p := fun z => nd.1 (z ▸ List.mem_map_of_mem (f := (·.1)) h.mem)
    show (q.1 == p || has O' p) = false
    rw [h1, Bool.or_false]
    exact beq_eq_false_iff_ne.mpr h2
theorem has_sub {O O' : Om} (h : ∀ q ∈ O', q ∈ O) {a : Addr} (e : has O a = false) : has O' a = false := by
  cases q : has O' a with
  | false => rfl
  | true =>
    obtain ⟨m, hm⟩ := has_mem.mp q
    have := has_mem.mpr ⟨m, h _ hm⟩
    rw [e] at this; cases this
theorem vis_sub {F : Addr → Bool} {O O' : Om} {H : Hp} (h : ∀ q ∈ O', q ∈ O) : Same (vis F O H) (vis F O' H) := fun a o q => by
  obtain ⟨h1, h2, h3⟩ := vis_some.mp q
  exact vis_some.mpr ⟨h1, has_sub h h2, h3⟩
theorem StOk.sub {K : PySem.W.Frag} {σ : L2.St} {H : Hp} (s : StOk K B ρ O σ H) (h : ∀ q ∈ O', q ∈ O) (nd : (O'.map (·.1)).Nodup) : StOk K B ρ O' σ H :=
  ⟨⟨fun a o q => ⟨(s.m.base a o q).1, has_sub h (s.m.base a o q).2⟩, fun a m q => (s.m.mem a m (h _ q)).mono (vis_sub h) (fun _ q => q), nd, fun a m q => (s.m.lent a m q).mono (vis_sub h) (fun _ q => q)⟩, s.env.mono (vis_sub h)⟩
theorem StOk.frz1 {K : PySem.W.Frag} {σ : L2.St} {H : Hp} {q : Addr} (s : StOk K B ρ O σ H) (h : Drp O q (.lst ds) O') (i : Nat) (hi : ρ[i]? = some (some (.rf q))) : StOk K B (ρ.set i (some (.lst ds))) O' σ H := by
  have s' := s.sub (fun q hq => h.sub.subset hq) (s.m.nd.sublist (h.sub.map _))
  refine ⟨s'.m, ?_⟩
  obtain ⟨v, e1, r1⟩ := s.env.2 i _ hi
  cases r1
  obtain ⟨vs, h1, h2⟩ := s.m.mem _ _ h.mem
  have hq : has O q = true := has_mem.mpr ⟨_, h.mem⟩
  obtain ⟨fq, _, _⟩ := vis_some.mp (s.m.visM hq h1)
  have r : Rp K (vis B.F O' H) (.ref q) (.lst ds) := .lst (vis_some.mpr ⟨fq, h.no s.m.nd, h1⟩) (h2.mono (vis_sub fun q hq => h.sub.subset hq))
  have := s'.env.set (i := i) r
  rwa [show σ.set i (some (V.ref q)) = σ from by
    apply List.ext_getElem?
    intro j
    by_cases hj : i = j
    · subst hj
      rw [e1]
      have hl := (List.getElem?_eq_some_iff.mp e1).1
      rw [List.getElem?_set_self hl]
    · rw [List.getElem?_set_ne hj]] at this
theorem jc_conv {m : Cmp α} (hc : ∀ (K : PySem.W.Frag) σ H, StOk K B ρ O σ H → StOk K B ρ' O' σ H ∧ Same (vis B.F O H) (vis B.F O' H)) (h : JC X B ss ρ' O' A m) : JC X B ss ρ O A m := fun ok =>
  pss_imp (h ok) fun Dn σ H ⟨s, p⟩ => ⟨(hc _ _ _ s).1, p.grow (hc _ _ _ s).2⟩
/-- the mutable in slot i is a value from here on -/
theorem jc_frz {q : Addr} {m : Cmp α} (i : Nat) (hd : Drp O q (.lst ds) O') (hi : ρ[i]? = some (some (.rf q))) (h : JC X B ss (ρ.set i (some (.lst ds))) O' A m) : JC X B ss ρ O A m :=
  jc_conv (fun K σ H s => ⟨s.frz1 hd i hi, vis_sub fun q hq => hd.sub.subset hq⟩) h
theorem jc_drp {q : Addr} {mm : M} {m : Cmp α} (hd : Drp O q mm O') (h : JC X B ss ρ O' A m) : JC X B ss ρ O A m :=
  jc_conv (fun K σ H s => ⟨s.sub (fun q hq => hd.sub.subset hq) (s.m.nd.sublist (hd.sub.map _)), vis_sub fun q hq => hd.sub.subset hq⟩) h
theorem jc_perm {m : Cmp α} (hp : List.Perm O O') (h : JC X B ss ρ O' A m) : JC X B ss ρ O A m :=
  jc_conv (fun K σ H s => ⟨s.sub (fun q hq => hp.mem_iff.mpr hq) ((hp.map _).nodup_iff.mp s.m.nd), vis_sub fun q hq => hp.mem_iff.mpr hq⟩) h
end
end DL

set_option Elab.async false
set_option linter.all false
set_option maxRecDepth 100000
set_option maxHeartbeats 2000000
namespace DL
open PySem PySem.Spec PyProof.Rows L2
instance : Inhabited Str := ⟨Str.empty⟩
abbrev cS (c : Nat) : Str := ⟨#[c]⟩
abbrev eC (c : Nat) : D := .str (cS c)
abbrev dL {α : Type} (E : α → D) (xs : List α) : D := .lst (xs.map E)
abbrev dU {α : Type} (E : α → D) (xs : List α) : D := .tup (xs.map E)
abbrev dP2 {α β : Type} (E : α → D) (F : β → D) (p : α × β) : D := .tup [E p.1, F p.2]
abbrev dP3 {α β γ : Type} (E : α → D) (F : β → D) (G : γ → D) (p : α × β × γ) : D := .tup [E p.1, F p.2.1, G p.2.2]
abbrev dP4 {α β γ δ : Type} (E : α → D) (F : β → D) (G : γ → D) (H : δ → D) (p : α × β × γ × δ) : D := .tup [E p.1, F p.2.1, G p.2.2.1, H p.2.2.2]
abbrev dUnit (_ : Unit) : D := .non
def dO {α : Type} (E : α → D) : Option α → D
  | none => .non
  | some x => E x
abbrev Row := Int × Int × Int
abbrev dRow (r : Row) : D := .tup [.int r.1, .int r.2.1, .int r.2.2]
def rowAt (r : Row) (i : Int) : Int := if i = 0 then r.1 else if i = 1 then r.2.1 else r.2.2
def ixL {α : Type} [Inhabited α] (xs : List α) (i : Int) : α := xs.getD i.toNat default
def ixS (z : Str) (i : Int) : Nat := z.cps.toList.getD i.toNat 0
def lastL {α : Type} [Inhabited α] (xs : List α) : α := xs.getLastD default
def cutL {α : Type} (xs : List α) (lo hi : Option Int) : List α := (xs.drop (HT.sIx xs.length 0 lo)).take (HT.sIx xs.length xs.length hi - HT.sIx xs.length 0 lo)
def rangeL (lo hi : Int) : List Int := (List.range (hi - lo).toNat).map fun i : Nat => lo + (i : Int)
def enumL {α : Type} (xs : List α) : List (Int × α) := xs.zipIdx.map fun p => ((p.2 : Int), p.1)
def zipL {α β : Type} (xs : List α) (ys : List β) : List (α × β) := xs.zip ys
abbrev charsL (z : Str) : List Nat := z.cps.toList
def intD (z : Str) : Int := (PySem.intText? z).getD 0
def IntOk (z : Str) : Prop := (PySem.intText? z).isSome = true ∧ z.length ≤ 640
theorem cutD_map {α : Type} {E : α → D} (xs : List α) (lo hi : Option Int) : cutD (xs.map E) lo hi = (cutL xs lo hi).map E := by
  unfold cutD cutL
  rw [List.length_map, List.map_take, List.map_drop]
theorem rng_eq (lo hi : Int) : rngD lo (hi - lo).toNat = (rangeL lo hi).map D.int := by
  unfold rngD rangeL
  rw [List.map_map]; rfl
theorem rng0_eq (hi : Int) : rngD 0 hi.toNat = (rangeL 0 hi).map D.int := by
  rw [← rng_eq, Int.sub_zero]
theorem enum_eq {α : Type} {E : α → D} (xs : List α) : enumD (xs.map E) = (enumL xs).map (dP2 D.int E) := by
  unfold enumD enumL
  refine List.ext_getElem (by simp) fun i h1 h2 => ?_
  have hi : i < xs.length := by simpa using h1
  simp [hi]
theorem zip_eq {α β : Type} {E : α → D} {F : β → D} (xs : List α) (ys : List β) : zipD (xs.map E) (ys.map F) = (zipL xs ys).map (dP2 E F) := by
  unfold zipD zipL
  refine List.ext_getElem (by simp) fun i h1 h2 => ?_
  have hi : i < min xs.length ys.length := by simpa using h1
  have h3 : i < xs.length := by omega
  have h4 : i < ys.length := by omega
  simp [h3, h4]
theorem atG {α : Type} [Inhabited α] {xs : List α} {E : α → D} {i : Int} (h : 0 ≤ i ∧ i < (xs.length : Int)) : atI (xs.map E) i = some (E (ixL xs i)) := atM default h.1 h.2
theorem atLast {α : Type} [Inhabited α] {xs : List α} {E : α → D} (h : 0 < xs.length) : atI (xs.map E) (-1) = some (E (lastL xs)) := by
  obtain ⟨ys, y, rfl⟩ : ∃ ys y, xs = ys ++ [y] := by
    rcases List.eq_nil_or_concat xs with e | ⟨ys, y, e⟩
    · subst e; simp at h
    · exact ⟨ys, y, by simpa using e⟩
  rw [List.map_append]
  unfold lastL
  rw [List.getLastD_concat]
  exact atI_last _ _
theorem atRow {r : Row} {i : Int} (h : 0 ≤ i ∧ i < 3) : atI [D.int r.1, D.int r.2.1, D.int r.2.2] i = some (.int (rowAt r i)) := by
  obtain ⟨h0, h1⟩ := h
  have : i = 0 ∨ i = 1 ∨ i = 2 := by omega
  rcases this with rfl | rfl | rfl <;> rfl
theorem mod_ix {a n : Int} {k : Nat} (h : 0 < n) (hk : n ≤ (k : Int)) : 0 ≤ a % n ∧ a % n < (k : Int) := ⟨Int.emod_nonneg _ (by omega), Int.lt_of_lt_of_le (Int.emod_lt_of_pos _ h) hk⟩
section
variable {X : Cx} {B : Gd} {ρ ρ' : List (Option D)} {O O' O1 O2 : Om} {a b c e o : Expr} {es : List Expr} {d d1 d2 d3 : D} {ds : List D} {pos pos' p apos : Pos} {b1 b2 : Bool} {st : Stmt} {ss rest s1 s2 body : List Stmt} {x : Str} {k kk : Nat}
variable {α β γ : Type} {E : α → D} {F : β → D}
/-! ### views -/
theorem vsM {q : Addr} (h : (q, M.lst ds) ∈ O) : Vs (B.L ++ O) (.rf q) ds := .inr ⟨q, rfl, List.mem_append_right _ h⟩
theorem vsI : Vs (B.L ++ O) (.lst ds) ds := .inl rfl
theorem vsL (h : Vs B.L d ds) : Vs (B.L ++ O) d ds := by
  rcases h with h | ⟨a, h, m⟩
  · exact .inl h
  · exact .inr ⟨a, h, List.mem_append_left _ m⟩
theorem vwL (h : Vw B.L d ds) : Vw (B.L ++ O) d ds := by
  rcases h with h | h
  · exact .inl (vsL h)
  · exact .inr h
theorem vqL (h : Vq B.L d ds) : Vq (B.L ++ O) d ds := by
  rcases h with h | h
  · exact .inl (vwL h)
  · exact .inr h
theorem Vs.vw {d : D} (h : Vs O d ds) : Vw O d ds := .inl h
theorem Vw.vq {d : D} (h : Vw O d ds) : Vq O d ds := .inl h
/-! ### walked things, typed -/
theorem ei_conv {wi : TI} {G : Om → Prop} {tg iter : Expr} {es : List D} (h : EI X B ρ O tg iter wi G ds) (e : ds = es) : EI X B ρ O tg iter wi G es := e ▸ h
theorem ei_rng1 {tg na : Expr} {p p' : Pos} {n : Int} (hgl : Gl X "range") (hm : X.mg "range" = none) (hi : EA X B ρ O [na] [.int n]) (hn : -(2 ^ 62) ≤ n ∧ n < 2 ^ 62) (hse : starEach [na] X.env = [(false, eval na X.env)] := by rfl) :
    EI X B ρ O tg (.Call (.Name "range" p) [na] [] p') (iRng1 (tA X.K B ρ O [.int n])) (fun _ => True) ((rangeL 0 n).map D.int) := ei_conv (ei_range1 hgl hm hi hn hse) (rng0_eq n)
theorem ei_rng2 {tg ma na : Expr} {p p' : Pos} {m n : Int} (hgl : Gl X "range") (hm : X.mg "range" = none) (hi : EA X B ρ O [ma, na] [.int m, .int n]) (hn : -(2 ^ 62) ≤ m ∧ m < 2 ^ 62 ∧ -(2 ^ 62) ≤ n ∧ n < 2 ^ 62)
    (hse : starEach [ma, na] X.env = [(false, eval ma X.env), (false, eval na X.env)] := by rfl) (hse2 : starEach [na] X.env = [(false, eval na X.env)] := by rfl) :
    EI X B ρ O tg (.Call (.Name "range" p) [ma, na] [] p') (iRng2 (tA X.K B ρ O [.int m, .int n])) (fun _ => True) ((rangeL m n).map D.int) := ei_conv (ei_range2 hgl hm hi hn hse hse2) (rng_eq m n)
theorem ei_enumT {xs : List α} {ea : Expr} {elts : List Expr} {kk : Nat} {p p' tpos : Pos} (hgl : Gl X "enumerate") (hm : X.mg "enumerate" = none) (hi : EA X B ρ O [ea] [d]) (w : Vq (B.L ++ O) d (xs.map E)) (hse : starEach [ea] X.env = [(false, eval ea X.env)] := by rfl) :
    EI X B ρ O (.Tuple elts kk tpos) (.Call (.Name "enumerate" p) [ea] [] p') (iEnumT X.K (tA X.K B ρ O [d])) (fun O' => Vq (B.L ++ O') d (xs.map E)) ((enumL xs).map (dP2 D.int E)) := ei_conv (ei_enumQ hgl hm hi w hse) (enum_eq xs)
theorem ei_zipT {xs : List α} {ys : List β} {ea eb : Expr} {elts : List Expr} {kk : Nat} {p p' tpos : Pos} (hgl : Gl X "zip") (hm : X.mg "zip" = none) (hi : EA X B ρ O [ea, eb] [d1, d2]) (w1 : Vw (B.L ++ O) d1 (xs.map E)) (w2 : Vw (B.L ++ O) d2 (ys.map F))
    (hse : starEach [ea, eb] X.env = (false, eval ea X.env) :: starEach [eb] X.env := by rfl) (hpl : (backTo p' (starEach [eb] X.env)).any (·.1) = false := by rfl) :
    EI X B ρ O (.Tuple elts kk tpos) (.Call (.Name "zip" p) [ea, eb] [] p') (iZip X.K (tA X.K B ρ O [d1, d2])) (fun O' => Vw (B.L ++ O') d1 (xs.map E) ∧ Vw (B.L ++ O') d2 (ys.map F)) ((zipL xs ys).map (dP2 E F)) := ei_conv (ei_zip hgl hm hi w1 w2 hse hpl) (zip_eq xs ys)
theorem ei_chars {tg iter : Expr} {z : Str} (hi : EV X B ρ O iter (.str z)) : EI X B ρ O tg iter (iStr (tD X.K B ρ O (.str z))) (fun _ => True) ((charsL z).map eC) := ei_str hi
/-- a row's values, walked -/
theorem ei_row {tg iter : Expr} {r : Row} (hi : EV X B ρ O iter (dRow r)) : EI X B ρ O tg iter (iTup X.K (tD X.K B ρ O (dRow r))) (fun _ => True) ([r.1, r.2.1, r.2.2].map D.int) := ei_tup hi
/-! ### comprehensions, typed -/
theorem en_lcT {xs : List α} {h : α → D} {pr : α → Bool} {el : α → β} {elt iter tg : Expr} {ifs : List Expr} {scope : Scope} (own : List (Str × Nat)) {wi : TI} {G : Om → Prop} {g : TG} {sl : List Nat} {f}
    (hc : X.calm = true) (hN : X.N.Nodup) (hi : EI X B ρ O tg iter wi G (xs.map h)) (hG : G O) (ok : BlkOk X.N X.env.scope scope own)
    (hg : ∀ X', Blk X scope X' → EB X' tg g sl f) (hsl : ∀ j ∈ sl, j ∈ own.map (·.2))
    (hb : ∀ x ∈ xs, ∃ ρ', f (h x) (wipeD ρ (own.map (·.2))) = some ρ' ∧ (∀ X' B', B'.L = B.L → Blk X scope X' → ETs X' B' ρ' O ifs (pr x)) ∧ (pr x = true → ∀ X' B', B'.L = B.L → Blk X scope X' → EV X' B' ρ' O elt (F (el x))))
    (hz : xs.length < sizeLine) (hs : ∀ x, foldedSetIterable iter X.env x = pure x := by intro _; rfl) :
    EN X B ρ O (.ListComp elt [⟨tg, iter, ifs, 0⟩] scope pos) (((xs.filter pr).map el).map F) := by
  have := en_lcW (el := fun x => F (el x)) hc hN hi hG ok hg hsl hb hz hs (pos := pos)
  rwa [List.map_map]
theorem jc_setLc {A : γ → AE} {m : List β → Cmp γ} {xs : List α} {h : α → D} {pr : α → Bool} {el : α → β} {elt iter tg : Expr} {ifs : List Expr} {scope : Scope} (own : List (Str × Nat)) {wi : TI} {G : Om → Prop} {g : TG} {sl : List Nat} {f}
    (hc : X.calm = true) (hN : X.N.Nodup) (hi : EI X B ρ O tg iter wi G (xs.map h)) (hG : G O) (ok : BlkOk X.N X.env.scope scope own)
    (hg : ∀ X', Blk X scope X' → EB X' tg g sl f) (hsl : ∀ j ∈ sl, j ∈ own.map (·.2))
    (hb : ∀ x ∈ xs, ∃ ρ', f (h x) (wipeD ρ (own.map (·.2))) = some ρ' ∧ (∀ X' B', B'.L = B.L → Blk X scope X' → ETs X' B' ρ' O ifs (pr x)) ∧ (pr x = true → ∀ X' B', B'.L = B.L → Blk X scope X' → EV X' B' ρ' O elt (F (el x))))
    (hz : xs.length < sizeLine) (i : Nat) {y : Str} {py : Pos} (hy : X.N[i]? = some y) (hyl : X.env.scope.names.lookup y = some .local) (hsw : swapsWith (.ListComp elt [⟨tg, iter, ifs, 0⟩] scope pos') (some (.Name y py)) pos.line X.env = pure true)
    (hr : ∀ es, JC X B rest (ρ.set i (some (.lst (es.map F)))) O A (m es)) (hs : ∀ x, foldedSetIterable iter X.env x = pure x := by intro _; rfl) :
    JC X B (.Assign [.Name y py] (.ListComp elt [⟨tg, iter, ifs, 0⟩] scope pos') pos :: rest) ρ O A (.bnd ((xs.filter pr).map el) m) := fun ok' =>
  j_cons (j_setLc (el := fun x => F (el x)) hc hN hi hG ok hg hsl hb hz hy hyl hsw (es := (((xs.filter pr).map el).map F)) (by rw [List.map_map]; rfl) (hr _ ok') hs)
/-- .. a list that will be changed -/
theorem jc_setLcN {A : γ → AE} {m : List β → Cmp γ} {xs : List α} {h : α → D} {pr : α → Bool} {el : α → β} {elt iter tg : Expr} {ifs : List Expr} {scope : Scope} (own : List (Str × Nat)) {wi : TI} {G : Om → Prop} {g : TG} {sl : List Nat} {f}
    (hc : X.calm = true) (hN : X.N.Nodup) (hi : EI X B ρ O tg iter wi G (xs.map h)) (hG : G O) (ok : BlkOk X.N X.env.scope scope own)
    (hg : ∀ X', Blk X scope X' → EB X' tg g sl f) (hsl : ∀ j ∈ sl, j ∈ own.map (·.2))
    (hb : ∀ x ∈ xs, ∃ ρ', f (h x) (wipeD ρ (own.map (·.2))) = some ρ' ∧ (∀ X' B', B'.L = B.L → Blk X scope X' → ETs X' B' ρ' O ifs (pr x)) ∧ (pr x = true → ∀ X' B', B'.L = B.L → Blk X scope X' → EV X' B' ρ' O elt (F (el x))))
    (hz : xs.length < sizeLine) (i : Nat) {y : Str} {py : Pos} (hy : X.N[i]? = some y) (hyl : X.env.scope.names.lookup y = some .local) (hsw : swapsWith (.ListComp elt [⟨tg, iter, ifs, 0⟩] scope pos') (some (.Name y py)) pos.line X.env = pure true)
    (hr : ∀ q es, has O q = false → JC X B rest (ρ.set i (some (.rf q))) ((q, .lst (es.map F)) :: O) A (m es)) (hs : ∀ x, foldedSetIterable iter X.env x = pure x := by intro _; rfl) :
    JC X B (.Assign [.Name y py] (.ListComp elt [⟨tg, iter, ifs, 0⟩] scope pos') pos :: rest) ρ O A (.bnd ((xs.filter pr).map el) m) := fun ok' => by
  refine j_cons ?_
  refine ps_imp (ps_setLc (own := own) (g := g) (tt := tAnyTs (Blk X scope) ifs) (te := tAnyE (Blk X scope) elt) hc hN hy hyl hsw hi.pi ok (fun s H C cl fp => (hg _ ⟨s, H, C, cl, fp, rfl⟩).pg) (fun s H C cl fp => anyTs_ok ⟨s, H, C, cl, fp, rfl⟩) (fun s H C cl fp => anyE_ok ⟨s, H, C, cl, fp, rfl⟩) hs) fun Dn σ H ⟨st, p⟩ => lcW_imp (el := fun x => F (el x)) hc hN hi hG ok hg hsl hb hz σ H _ ⟨st, fun q H1 vs hp e1 hv r => ?_⟩
  have op := st.m.newO hp
  have vs1 : Same (vis B.F O H) (vis B.F ((q, .lst (((xs.filter pr).map el).map F)) :: O) H1) := fun a o h => by
    obtain ⟨h1, h2, h3⟩ := vis_some.mp h
    have ne : a ≠ q := ne_of_none h3 hp
    exact vis_some.mpr ⟨h1, by rw [has_cons, h2, Bool.or_false]; exact beq_eq_false_iff_ne.mpr (Ne.symm ne), e1 _ _ h3⟩
  have r' : RpL X.K (vis B.F ((q, .lst (((xs.filter pr).map el).map F)) :: O) H1) vs (((xs.filter pr).map el).map F) := by
    rw [List.map_map] at *
    exact r
  refine p.nx _ _ _ H1 (hr q ((xs.filter pr).map el) op ok') ⟨⟨fun a o hb => ?_, fun a m hm => ?_, ?_, fun a m hm => (st.m.lent a m hm).mono vs1 fun o q => e1 _ _ q⟩, ?_⟩ vs1
  · have := st.m.base a o hb
    have ne : a ≠ q := ne_of_none this.1 hp
    exact ⟨e1 _ _ this.1, by rw [has_cons, this.2, Bool.or_false]; exact beq_eq_false_iff_ne.mpr (Ne.symm ne)⟩
  · rcases List.mem_cons.mp hm with z | z
    · cases z; exact ⟨vs, hv, r'⟩
    · exact (st.m.mem a m z).mono vs1 fun o q => e1 _ _ q
  · rw [List.map_cons, List.nodup_cons]
    refine ⟨fun z => ?_, st.m.nd⟩
    obtain ⟨⟨a, m⟩, hm, ea⟩ := List.mem_map.mp z
    have : has O q = true := has_mem.mpr ⟨m, by have z : a = q := ea; rw [← z]; exact hm⟩
    rw [op] at this; cases this
  · exact (st.env.mono vs1).set (.rf q)
/-! ### lists and tuples put together -/
theorem rdN {r : R2} {op : Operator} (ho : OpR X (binaryOp op) r) (ha : EV X B ρ O a d1) (hb : EV X B ρ O b d2)
    (hr : ∀ (x y : V) (H : Hp) (Q : VK), MOk X.K B O H → Rp X.K (vis B.F O H) x d1 → Rp X.K (vis B.F O H) y d2 → (∀ q H' vs, H q = none → Same H H' → H' q = some (.lst vs) → RpL X.K (vis B.F ((q, .lst ds) :: O) H') vs ds → Q (.ref q) H') → r x y H Q) :
    EN X B ρ O (.BinOp a op b pos) ds := pe_imp (pe_op ho ha hb) fun σ H Q ⟨st, k⟩ => ⟨st, fun x H1 e1 r1 => ⟨st.same e1, fun y H2 e2 r2 => hr x y H2 Q ((st.same e1).same e2).m (r1.mono (vis_same e2)) r2 fun q H3 vs hq e3 hv r => k q H3 vs (e1.free (e2.free hq)) ((e1.trans e2).trans e3) hv r⟩⟩
theorem en_cat {xs ys : List α} (ha : EV X B ρ O a d1) (hb : EV X B ρ O b d2) (w1 : Vs (B.L ++ O) d1 (xs.map E)) (w2 : Vs (B.L ++ O) d2 (ys.map E)) (hz : xs.length + ys.length ≤ sizeLine) : EN X B ρ O (.BinOp a .Add b pos) ((xs ++ ys).map E) :=
  rdN op_cat ha hb fun x y H Q m r1 r2 k => by
    obtain ⟨q1, v1, e1, h1, l1⟩ := w1.at m r1
    obtain ⟨q2, v2, e2, h2, l2⟩ := w2.at m r2
    have la := l1.length
    have lb := l2.length
    rw [List.length_map] at la lb
    refine ⟨q1, q2, v1, v2, e1, e2, h1, h2, by omega, ?_⟩
    rw [List.map_append] at k
    exact new_same m (l1.append l2) k
theorem flat_rep {K : PySem.W.Frag} {H : Hp} {vs : List V} {ds : List D} (r : RpL K H vs ds) : ∀ n : Nat, RpL K H (List.replicate n vs).flatten (List.replicate n ds).flatten
  | 0 => .nil
  | n + 1 => by
    rw [List.replicate_succ, List.replicate_succ, List.flatten_cons, List.flatten_cons]
    exact r.append (flat_rep r n)
theorem en_rep {xs : List α} {n : Int} (ha : EV X B ρ O a d1) (hb : EV X B ρ O b (.int n)) (w1 : Vs (B.L ++ O) d1 (xs.map E)) (h1 : -(2 ^ 63) ≤ n ∧ n < 2 ^ 63) (hz : xs.length * n.toNat ≤ sizeLine) : EN X B ρ O (.BinOp a .Mult b pos) ((List.replicate n.toNat xs).flatten.map E) :=
  rdN op_rep ha hb fun x y H Q m r1 r2 k => by
    obtain ⟨q1, v1, e1, hh, l1⟩ := w1.at m r1
    cases r2
    have la := l1.length
    rw [List.length_map] at la
    refine ⟨q1, n, v1, e1, rfl, hh, h1.1, h1.2, by rw [la]; exact hz, ?_⟩
    have e : (List.replicate n.toNat xs).flatten.map E = (List.replicate n.toNat (xs.map E)).flatten := by
      rw [List.map_flatten, List.map_replicate]
    rw [e] at k
    exact new_same m (flat_rep l1 _) k
theorem rd_catT {xs ys : List D} (hz : xs.length + ys.length ≤ sizeLine) : RD X.K B O (rCatA X.K) (.tup xs) (.tup ys) (.tup (xs ++ ys)) := fun x y H Q m r1 r2 k => by
  cases r1 with
  | @tup q1 v1 _ h1 l1 =>
  cases r2 with
  | @tup q2 v2 _ h2 l2 =>
  have la := l1.length
  have lb := l2.length
  refine ⟨q1, q2, v1, v2, rfl, rfl, same_t vis_le h1, same_t vis_le h2, by omega, fun hn => ?_, fun hn hm => ?_, fun hn hm q hq => ?_⟩
  · subst hn
    cases l1
    exact k _ H (Same.refl H) (.tup h2 l2)
  · subst hm
    cases l2
    rw [List.append_nil] at k
    exact k _ H (Same.refl H) (.tup h1 l1)
  · exact k _ _ (same_new hq) (.tup (.inl (.inl (m.visNew hq))) ((l1.append l2).mono (vis_same (same_new hq))))
theorem ev_catT {xs ys : List D} (ha : EV X B ρ O a (.tup xs)) (hb : EV X B ρ O b (.tup ys)) (hz : xs.length + ys.length ≤ sizeLine) : EV X B ρ O (.BinOp a .Add b pos) (.tup (xs ++ ys)) := ev_op op_catA (rd_catT hz) ha hb
theorem ev_catU {xs ys : List α} (ha : EV X B ρ O a (dU E xs)) (hb : EV X B ρ O b (dU E ys)) (hz : xs.length + ys.length ≤ sizeLine) : EV X B ρ O (.BinOp a .Add b pos) (dU E (xs ++ ys)) := by
  have := ev_catT (pos := pos) ha hb (by rw [List.length_map, List.length_map]; exact hz)
  rwa [← List.map_append] at this
/-! ### in, of data at any depth -/
theorem any_eqv [DecidableEq α] {P : α → Prop} {n : Nat} {g : α → PyData} (h : EqOk E P n g) (x : α) (xs : List α) : ((xs.map g).any fun z => PyData.eqv z (g x)) = decide (x ∈ xs) := by
  induction xs with
  | nil => rfl
  | cons y ys ih =>
    rw [List.map_cons, List.any_cons, ih, h.eqv, Bool.eq_iff_iff]
    simp only [Bool.or_eq_true, decide_eq_true_eq, List.mem_cons]
    exact or_congr ⟨Eq.symm, Eq.symm⟩ Iff.rfl
theorem rd_inG {K : PySem.W.Frag} [DecidableEq α] {P : α → Prop} {n : Nat} {g : α → PyData} {x : α} {xs : List α} (h : EqOk E P n g) (hn : n ≤ 63) (w2 : Vd (B.L ++ O) d2 (.lst (xs.map E))) (h1 : P x) (h2 : ∀ y ∈ xs, P y) : RD K B O (rInD K) (E x) d2 (.bl (decide (x ∈ xs))) := fun u v H Q m r1 r2 k =>
  ⟨g x, xs.map g, (h.py x).dp vis_le r1, w2.dp m r2 (.lst (h.pyL xs)), shaped_of (h.lay x h1) (h.dep x) (by omega), shaped_of (n := n + 1) (h.lst.lay xs h2) (h.lst.dep xs) (by omega), by rw [any_eqv h]; exact k _ H (Same.refl H) (.bl _)⟩
theorem rd_notinG {K : PySem.W.Frag} [DecidableEq α] {P : α → Prop} {n : Nat} {g : α → PyData} {x : α} {xs : List α} (h : EqOk E P n g) (hn : n ≤ 63) (w2 : Vd (B.L ++ O) d2 (.lst (xs.map E))) (h1 : P x) (h2 : ∀ y ∈ xs, P y) : RD K B O (rNotInD K) (E x) d2 (.bl (!decide (x ∈ xs))) := fun u v H Q m r1 r2 k =>
  ⟨g x, xs.map g, (h.py x).dp vis_le r1, w2.dp m r2 (.lst (h.pyL xs)), shaped_of (h.lay x h1) (h.dep x) (by omega), shaped_of (n := n + 1) (h.lst.lay xs h2) (h.lst.dep xs) (by omega), by rw [any_eqv h]; exact k _ H (Same.refl H) (.bl _)⟩
theorem vdI : Vd O d d := .inl rfl
theorem vdM {q : Addr} (h : (q, M.lst ds) ∈ O) : Vd (B.L ++ O) (.rf q) (.lst ds) := .inr ⟨q, ds, rfl, List.mem_append_right _ h, rfl⟩
theorem vdL (h : Vs B.L d ds) : Vd (B.L ++ O) d (.lst ds) := by
  rcases h with h | ⟨q, h, m⟩
  · exact .inl h
  · exact .inr ⟨q, ds, h, List.mem_append_left _ m, rfl⟩
theorem EqOk.bl : EqOk D.bl (fun _ => True) 0 PyData.bool := ⟨fun x => .bl x, fun x _ => by simp [PyData.canLay0], fun x => by simp [PyData.depth], fun x y => by rw [Bool.eq_iff_iff]; simp [PyData.eqv]⟩
theorem EqOk.p2 [DecidableEq α] [DecidableEq β] {P : α → Prop} {P' : β → Prop} {n n' : Nat} {g : α → PyData} {g' : β → PyData} (h : EqOk E P n g) (h' : EqOk F P' n' g') : EqOk (dP2 E F) (fun p => P p.1 ∧ P' p.2) (max n n' + 1) (fun p => PyData.tuple [g p.1, g' p.2]) :=
  ⟨fun p => .tup (.cons (h.py _) (.cons (h'.py _) .nil)), fun p q => by simp only [PyData.canLay0, PyData.canLayAll0, h.lay _ q.1, h'.lay _ q.2, Bool.and_self], fun p => by
    have h1 := h.dep p.1
    have h2 := h'.dep p.2
    simp only [PyData.depth, PyData.depthAll]
    omega, fun p q => by
    simp only [PyData.eqv, PyData.eqvAll, h.eqv, h'.eqv]
    rw [Bool.eq_iff_iff]
    simp only [Bool.and_eq_true, decide_eq_true_eq, and_true]
    exact Prod.ext_iff.symm⟩
theorem EqOk.p3 {γ : Type} {G : γ → D} [DecidableEq α] [DecidableEq β] [DecidableEq γ] {P : α → Prop} {P' : β → Prop} {P'' : γ → Prop} {n n' n'' : Nat} {g : α → PyData} {g' : β → PyData} {g'' : γ → PyData} (h : EqOk E P n g) (h' : EqOk F P' n' g') (h'' : EqOk G P'' n'' g'') :
    EqOk (dP3 E F G) (fun p => P p.1 ∧ P' p.2.1 ∧ P'' p.2.2) (max n (max n' n'') + 1) (fun p => PyData.tuple [g p.1, g' p.2.1, g'' p.2.2]) :=
  ⟨fun p => .tup (.cons (h.py _) (.cons (h'.py _) (.cons (h''.py _) .nil))), fun p q => by simp only [PyData.canLay0, PyData.canLayAll0, h.lay _ q.1, h'.lay _ q.2.1, h''.lay _ q.2.2, Bool.and_self], fun p => by
    have h1 := h.dep p.1
    have h2 := h'.dep p.2.1
    have h3 := h''.dep p.2.2
    simp only [PyData.depth, PyData.depthAll]
    omega, fun p q => by
    simp only [PyData.eqv, PyData.eqvAll, h.eqv, h'.eqv, h''.eqv]
    rw [Bool.eq_iff_iff]
    simp only [Bool.and_eq_true, decide_eq_true_eq, and_true]
    rw [Prod.ext_iff, Prod.ext_iff]⟩
abbrev okRow : Row → Prop := fun p => True ∧ True ∧ True
theorem EqOk.row : EqOk dRow okRow 1 (fun p : Row => PyData.tuple [.int p.1, .int p.2.1, .int p.2.2]) := EqOk.p3 EqOk.int EqOk.int EqOk.int
theorem okR (r : Row) : okRow r := ⟨trivial, trivial, trivial⟩
theorem okRs (rs : List Row) : ∀ r ∈ rs, okRow r := fun r _ => okR r
/-! ### an optional value -/
theorem ev_some [Inhabited α] {v : Option α} (h : EV X B ρ O e (dO E v)) (hs : v.isSome = true) : EV X B ρ O e (E (v.getD default)) := by
  cases v with
  | none => cases hs
  | some y => exact h
theorem isNon_dO {v : Option α} (hE : ∀ y, isNonD (E y) = false) : isNonD (dO E v) = v.isNone := by
  cases v with
  | none => rfl
  | some y => exact hE y
theorem et_isN {v : Option α} {j : Pos} (h : EV X B ρ O e (dO E v)) (hE : ∀ y, isNonD (E y) = false) : ET X B ρ O (.Compare e [.Is] [.Constant .none kk j] pos) v.isNone := et_conv (et_cmp op_isN rd_isN h ev_non (nomark _)) (isNon_dO hE)
theorem et_notN {v : Option α} {j : Pos} (h : EV X B ρ O e (dO E v)) (hE : ∀ y, isNonD (E y) = false) : ET X B ρ O (.Compare e [.IsNot] [.Constant .none kk j] pos) (!v.isNone) := et_conv (et_cmp op_notN rd_notN h ev_non (nomark _)) (by rw [isNon_dO hE])
theorem ev_isN {v : Option α} {j : Pos} (h : EV X B ρ O e (dO E v)) (hE : ∀ y, isNonD (E y) = false) : EV X B ρ O (.Compare e [.Is] [.Constant .none kk j] pos) (.bl v.isNone) := ev_conv (ev_cmp op_isN rd_isN h ev_non (nomark _)) (by rw [isNon_dO hE])
theorem ev_notN {v : Option α} {j : Pos} (h : EV X B ρ O e (dO E v)) (hE : ∀ y, isNonD (E y) = false) : EV X B ρ O (.Compare e [.IsNot] [.Constant .none kk j] pos) (.bl (!v.isNone)) := ev_conv (ev_cmp op_notN rd_notN h ev_non (nomark _)) (by rw [isNon_dO hE])
/-! ### texts -/
theorem rc_intD {z : Str} {K : PySem.W.Frag} (h : IntOk z) : RC K B O (fun xs H Q => ∃ a n, xs = [.str a] ∧ PySem.intText? a = some n ∧ a.length ≤ 640 ∧ Q (.int n) H) [.str z] (.int (intD z)) := by
  obtain ⟨h1, h2⟩ := h
  obtain ⟨n, hn⟩ := Option.isSome_iff_exists.mp h1
  have : intD z = n := by unfold intD; rw [hn]; rfl
  rw [this]
  exact rc_intS hn h2
theorem rd_inStr {K : PySem.W.Frag} {i j : Str} : RD K B O (fun x y H Q => ∃ i j, x = .str i ∧ y = .str j ∧ Q (.bl (!(Builtin.Str.occurrences j i 0 j.length 1).isEmpty)) H) (.str i) (.str j) (.bl (!(Builtin.Str.occurrences j i 0 j.length 1).isEmpty)) := fun x y H Q m r1 r2 k => by
  cases r1; cases r2
  exact ⟨i, j, rfl, rfl, k _ H (Same.refl H) (.bl _)⟩
theorem rd_notinStr {K : PySem.W.Frag} {i j : Str} : RD K B O (fun x y H Q => ∃ i j, x = .str i ∧ y = .str j ∧ Q (.bl (!(!(Builtin.Str.occurrences j i 0 j.length 1).isEmpty))) H) (.str i) (.str j) (.bl (!(!(Builtin.Str.occurrences j i 0 j.length 1).isEmpty))) := fun x y H Q m r1 r2 k => by
  cases r1; cases r2
  exact ⟨i, j, rfl, rfl, k _ H (Same.refl H) (.bl _)⟩
end
end DL

set_option Elab.async false
set_option linter.all false
set_option maxRecDepth 100000
set_option maxHeartbeats 2000000
namespace DL
open PySem PySem.Spec PyProof.Rows L2
section
variable {X : Cx} {B : Gd} {ρ ρ' : List (Option D)} {O O' O1 O2 : Om} {a b c e o : Expr} {es : List Expr} {d d1 d2 d3 : D} {ds : List D} {pos pos' p apos : Pos} {b1 b2 : Bool} {st : Stmt} {ss rest s1 s2 body : List Stmt} {x : Str} {k kk : Nat}
variable {α β γ : Type} {E : α → D} {F : β → D} {A : γ → AE}
theorem wk_nn {r r' : List (Option D)} (h : Wk r r') : Wk (none :: r) (none :: r') := wk_none h
theorem ev_ifG {x y : α} (hc : ET X B ρ O c b1) (ha : b1 = true → EV X B ρ O a (E x)) (hb : b1 = false → EV X B ρ O b (E y)) : EV X B ρ O (.IfExp c a b pos) (E (if b1 = true then x else y)) := by
  cases b1 with
  | true => exact ev_if hc ha (fun h => nomatch h)
  | false => exact ev_if hc (fun h => nomatch h) hb
theorem atS2 {z : Str} {i : Int} (h : 0 ≤ i ∧ i < (z.length : Int)) : atI z.cps.toList i = some (ixS z i) := atS h.1 h.2
theorem dt_vs (h : Vs (B.L ++ O) d ds) : DT (B.L ++ O) d "list" := by
  rcases h with rfl | ⟨a, rfl, h⟩
  · exact .lst
  · exact .mlst h
theorem rc_intB {b : Bool} {K : PySem.W.Frag} : RC K B O (fun xs H Q => (∃ i, xs = [.int i] ∧ Q (.int i) H) ∨ ∃ k, xs = [.bl k] ∧ Q (.int (if k then 1 else 0)) H) [.bl b] (.int (if b = true then 1 else 0)) := fun xs H Q m r k => by
  cases r with
  | cons h r => cases r; cases h; exact .inr ⟨b, rfl, k _ H (Same.refl H) (.int _)⟩
/-! ### written dicts, typed -/
theorem et_inDT {f : Str → Option α} {q : Addr} {z : Str} (D : KDi X.K X.w q (fun z => (f z).map E)) (ha : EV X B ρ O a (.str z)) (hb : EV X B ρ O b (.rf q)) (hm : behindInMarks .In b = false) : ET X B ρ O (.Compare a [.In] [b] pos) (f z).isSome := et_conv (et_inD D ha hb hm) (by simp)
theorem et_notinDT {f : Str → Option α} {q : Addr} {z : Str} (D : KDi X.K X.w q (fun z => (f z).map E)) (ha : EV X B ρ O a (.str z)) (hb : EV X B ρ O b (.rf q)) (hm : behindInMarks .NotIn b = false) : ET X B ρ O (.Compare a [.NotIn] [b] pos) (!(f z).isSome) := et_conv (et_notinD D ha hb hm) (by simp)
theorem ev_itemDT [Inhabited α] {f : Str → Option α} {q : Addr} {z : Str} (D : KDi X.K X.w q (fun z => (f z).map E)) (ha : EV X B ρ O a (.rf q)) (hb : EV X B ρ O b (.str z)) (h : (f z).isSome = true) (hs : PlainIx b := by intro _ _; rfl) : EV X B ρ O (.Subscript a b pos) (E ((f z).getD default)) := by
  refine ev_itemD D ha hb ?_ hs
  cases hf : f z with
  | none => rw [hf] at h; cases h
  | some y => simp
theorem ev_getDT {f : Str → Option α} {q : Addr} {z : Str} {e1 e2 : Expr} {y : α} (D : KDi X.K X.w q (fun z => (f z).map E)) (ho : EV X B ρ O o (.rf q)) (he : EV X B ρ O e1 (.str z)) (hf : EV X B ρ O e2 (E y)) (m : M2 X o "get" apos e1 e2 pos := by exact ⟨rfl, rfl, rfl, rfl⟩) : EV X B ρ O (.Call (.Attribute o "get" apos) [e1, e2] [] pos) (E ((f z).getD y)) :=
  ev_conv (ev_getD D ho he hf m) (by cases f z <;> rfl)
/-! ### pop -/
theorem map_lastL [Inhabited α] {xs : List α} (h : 0 < xs.length) : (xs.map E)[(xs.map E).length - 1]? = some (E (lastL xs)) := by
  obtain ⟨ys, y, rfl⟩ : ∃ ys y, xs = ys ++ [y] := by
    rcases List.eq_nil_or_concat xs with e | ⟨ys, y, e⟩
    · subst e; simp at h
    · exact ⟨ys, y, by simpa using e⟩
  unfold lastL
  rw [List.getLastD_concat, List.length_map, List.length_append, List.length_singleton, List.map_append, Nat.add_sub_cancel]
  rw [List.getElem?_append_right (by simp)]
  simp
theorem eg_popT [Inhabited α] {q : Addr} {xs : List α} {O2 : List α → Om} (ho : EV X B ρ O o (.rf q)) (h0 : 0 < xs.length) (hp : ∀ ys : List α, Put O q (.lst (xs.map E)) (.lst (ys.map E)) (O2 ys))
    (hbase : attributeBase o "pop" X.env (eval o X.env) = eval o X.env := by rfl) (hline : (apos.endLine == pos.line) = true := by rfl) : EG X B ρ O (.Call (.Attribute o "pop" apos) [] [] pos) (E (lastL xs)) (O2 xs.dropLast) :=
  eg_pop ho (map_lastL h0) (by have := hp xs.dropLast; rw [List.map_dropLast] at this; exact this) hbase hline
theorem jc_pop [Inhabited α] (i : Nat) {q : Addr} {xs : List α} {m : α → List α → Cmp γ} {O2 : List α → Om} (nd : X.N.Nodup) (ho : EV X B ρ O o (.rf q)) (hp : ∀ ys : List α, Put O q (.lst (xs.map E)) (.lst (ys.map E)) (O2 ys)) (h0 : 0 < xs.length)
    (h : ∀ y ys, JC X B rest (ρ.set i (some (E y))) (O2 ys) A (m y ys)) (hbase : attributeBase o "pop" X.env (eval o X.env) = eval o X.env := by rfl) (hline : (apos.endLine == pos.line) = true := by rfl)
    (hi : X.N[i]? = some x := by rfl) (hx : Loc X.env.scope x := by first | exact .inl rfl | exact .inr rfl) (hs : swapsWith (.Call (.Attribute o "pop" apos) [] [] pos) (some (.Name x pos')) p.line X.env = pure false := by rfl)
    (hf : X.fn x = true ∨ X.env.scope.names.lookup x = some .local := by first | exact .inr rfl | exact .inl rfl) : JC X B (.Assign [.Name x pos'] (.Call (.Attribute o "pop" apos) [] [] pos) p :: rest) ρ O A (.bnd (lastL xs) fun y => .bnd xs.dropLast fun ys => m y ys) := fun ok =>
  j_cons (ssetG i nd (eg_popT ho h0 hp hbase hline) (h _ _ ok) hi hx hs hf)
theorem jc_appendG {q : Addr} {v : α} {ys0 xs : List α} {m : List α → Cmp γ} {O1 : Om} {O2 : List α → Om} (ho : EV X B ρ O o (.rf q)) (hm : (q, M.lst (ys0.map E)) ∈ O) (he : EG X B ρ O e (E v) O1) (hp : ∀ ys : List α, Put O1 q (.lst (xs.map E)) (.lst (ys.map E)) (O2 ys)) (hz : xs.length < sizeLine) (h : ∀ ys, JC X B rest ρ (O2 ys) A (m ys))
    (hbase : attributeBase o "append" X.env (eval o X.env) = eval o X.env := by rfl)
    (hfew : ((backTo pos (starEach [e] X.env)).all (fun x => !x.1) && (backToKw pos (keywordEach [] X.env)).all (fun x => x.1.isSome)
      && decide ([e].length + ([] : List Keyword).length + (if ([] : List Keyword).isEmpty then 0 else 1) < 30)) = true := by rfl)
    (hline : (apos.endLine == pos.line) = true := by rfl) (hs : starEach [e] X.env = (false, eval e X.env) :: starEach [] X.env := by rfl) (hplain : (backTo pos (starEach [] X.env)).any (·.1) = false := by rfl)
    (hsw : swapsWith (.Call (.Attribute o "append" apos) [e] [] pos) none pos'.line X.env = pure false := by rfl) :
    JC X B (.Expr (.Call (.Attribute o "append" apos) [e] [] pos) pos' :: rest) ρ O A (.bnd (xs ++ [v]) m) := fun ok =>
  j_cons (j_expr (eg_append (d := E v) (ds := xs.map E) ho hm he (by have := hp (xs ++ [v]); rw [List.map_append] at this; exact this) (by rw [List.length_map]; exact hz) hbase hfew hline hs hplain) (h _ ok) hsw)
/-! ### self.f = e, in an __init__ -/
theorem jc_fldNew {C : Addr} {q : Addr} {ns : List Str} {f : Str} {v : α} {m : α → Cmp γ} {O2 : α → Om} (ho : EV X B ρ O o (.rf q)) (he : EV X B ρ O e (E v)) (c : Cls X.K C) (n : NoAttr X.K C f) (hp : ∀ y, Put O q (.ins C ns ds) (.ins C (ns ++ [f]) (ds ++ [E y])) (O2 y)) (hi : ns.idxOf? f = none) (hl : ns.length < 1000)
    (h : ∀ y, JC X B rest ρ (O2 y) A (m y)) (hs : swapsWith e (some (.Attribute o f pos')) pos.line X.env = pure false := by rfl) : JC X B (.Assign [.Attribute o f pos'] e pos :: rest) ρ O A (.bnd v m) := fun ok =>
  j_cons (j_fldNew ho he c n (hp v) hi hl (h v ok) hs)
theorem ev_globS {t : Str} (hg : Gl X x) (hm : ∃ tk, X.mg x = some (.str t tk)) (hd : (x == ("__debug__" : Str)) = false := by decide) : EV X B ρ O (.Name x pos) (.str t) := by
  obtain ⟨tk, hm⟩ := hm
  exact ev_glob (v := .str t) hg hm ⟨_, rfl⟩ (fun _ => .str _) hd
/-! ### a new list handed back -/
theorem j_retNew {A : AE} (he : EN X B ρ O e ds) (h : ∀ q, has O q = false → A.rt (.rf q) ((q, .lst ds) :: O)) : J1 X B (.Return (some e) pos) ρ O A :=
  ps_imp (ps_ret he) fun Dn σ H ⟨st, pp⟩ => ⟨st, fun q H1 vs hp e1 hv r => by
    have op := st.m.newO hp
    have vs1 : Same (vis B.F O H) (vis B.F ((q, .lst ds) :: O) H1) := fun a o h => by
      obtain ⟨h1, h2, h3⟩ := vis_some.mp h
      have ne : a ≠ q := ne_of_none h3 hp
      exact vis_some.mpr ⟨h1, by rw [has_cons, h2, Bool.or_false]; exact beq_eq_false_iff_ne.mpr (Ne.symm ne), e1 _ _ h3⟩
    refine pp.rt _ _ _ H1 (h q op) ⟨fun a o hb => ?_, fun a m hm => ?_, ?_, fun a m hm => (st.m.lent a m hm).mono vs1 fun o q => e1 _ _ q⟩ (.rf q)
    · have := st.m.base a o hb
      have ne : a ≠ q := ne_of_none this.1 hp
      exact ⟨e1 _ _ this.1, by rw [has_cons, this.2, Bool.or_false]; exact beq_eq_false_iff_ne.mpr (Ne.symm ne)⟩
    · rcases List.mem_cons.mp hm with z | z
      · cases z; exact ⟨vs, hv, r⟩
      · exact (st.m.mem a m z).mono vs1 fun o q => e1 _ _ q
    · rw [List.map_cons, List.nodup_cons]
      refine ⟨fun z => ?_, st.m.nd⟩
      obtain ⟨⟨a, m⟩, hm, ea⟩ := List.mem_map.mp z
      have : has O q = true := has_mem.mpr ⟨m, by have z : a = q := ea; rw [← z]; exact hm⟩
      rw [op] at this; cases this⟩
theorem jc_retEN {v : List α} {w : γ} (he : EN X B ρ O e (v.map E)) (h : ∀ q, (A w).rt (.rf q) ((q, .lst (v.map E)) :: O)) : JC X B (.Return (some e) pos :: rest) ρ O A (.ret w) := fun _ => j_cons (j_retNew he fun q _ => h q)
end
/-! ### a def keeps its promise -/
section
variable {P : Program} {w : World} {K : PySem.W.Frag} {mg : Str → Option Value} {base : Heap}
theorem fn_pureV {Ar : Om → List D → D → Prop} {x qual : Str} {st : Stmt} {f : Addr} {fd : FuncData} {N ps : List Str} {k : Nat} (F : Fun K x qual st f fd) (S : FnScope N ps (defScope st)) (len : ∀ L ds d, Ar L ds d → ds.length = ps.length)
    (h : ∀ (cdv : Value) (A : Around) (outer : List Env) (s : Shared) (H : Hp) (E : XK) (B : Gd) (ds : List D) (d : D), Room k (A.deeper (envOfC qual (defScope st) s.heap.objs.size f cdv)) → Ar B.L ds d →
      J (cxOf CX0 P w K mg base N qual (defScope st) f cdv A outer s H E).nox B (defBody st) (startD N ds) [] { nx := fun _ O' => Frz O' .non d, rt := fun d' O' => Frz O' d' d }) : FnOk P w K mg base CX0 (k + 1) f fd ps (spP K Ar) := by
  refine F.ok S (fun vs H Q E q => ?_) (fun cdv A outer s H vs Q E hr q => ?_)
  · obtain ⟨F', L, ds, d, _, r, ha, _⟩ := q
    rw [r.length]; exact len L ds d ha
  · obtain ⟨F', L, ds, d, bo, r, ha, kk⟩ := q
    refine ⟨_, h cdv A outer s H E ⟨F', H, fun c d _ H => E c d H, L, bo.ok, bo.lF⟩ ds d hr ha, ⟨⟨fun a o e => ⟨e, rfl⟩, (fun a m hm => nomatch hm), (by simp), bo.lent⟩, start_env r⟩, ?_, ?_, fun _ _ _ _ z => z.elim, fun _ _ _ _ z => z.elim, fun _ _ _ _ _ _ _ _ _ z => z.elim⟩
    · intro ρ O σ H' fz s' _
      exact kk _ H' (fun a o q => (s'.m.base a o q).1) (Rp.frz vis_all s'.m.frz fz .non)
    · intro d' O' v H' fz m r'
      exact kk v H' (fun a o q => (m.base a o q).1) (Rp.frz vis_all m.frz fz r')
theorem fn_newV {Ar : Om → List D → List D → Prop} {x qual : Str} {st : Stmt} {f : Addr} {fd : FuncData} {N ps : List Str} {k : Nat} (F : Fun K x qual st f fd) (S : FnScope N ps (defScope st)) (len : ∀ L ds d, Ar L ds d → ds.length = ps.length)
    (h : ∀ (cdv : Value) (A : Around) (outer : List Env) (s : Shared) (H : Hp) (E : XK) (B : Gd) (ds : List D) (es : List D), Room k (A.deeper (envOfC qual (defScope st) s.heap.objs.size f cdv)) → Ar B.L ds es →
      J (cxOf CX0 P w K mg base N qual (defScope st) f cdv A outer s H E).nox B (defBody st) (startD N ds) [] { nx := fun _ O' => ∃ p, D.non = .rf p ∧ O' = [(p, .lst es)], rt := fun d' O' => ∃ p, d' = .rf p ∧ O' = [(p, .lst es)] }) : FnOk P w K mg base CX0 (k + 1) f fd ps (spN K Ar) :=
  fn_new F S len fun cdv A outer s H E B ds es hr ha => j_imp (h cdv A outer s H E B ds es hr ha) (fun _ _ ⟨_, z, _⟩ => nomatch z) (fun _ _ z => z) (fun _ _ z => z) (fun _ _ z => z) (fun _ _ _ _ _ z => z)
end
end DL

set_option Elab.async false
set_option linter.all false
set_option maxRecDepth 100000
set_option maxHeartbeats 2000000
namespace PySem
namespace ErX
open PySem.W PySem.Calls PyProof.Rows PySem.HandSPX
/-! ### the text of an error's __init__: super().__init__("..") and one field -/
def iArgs (n : Str) (p1 p2 : Pos) : Arguments := { posonlyargs := [], args := [{ arg := "self", annotation := none, pos := p1 }, { arg := n, annotation := none, pos := p2 }], vararg := none, kwonlyargs := [], kw_defaults := [], kwarg := none, defaults := [] }
def iBody (n msg : Str) (k : Nat) (q1 q2 q3 q4 q5 q6 q7 q8 q9 q10 : Pos) : List Stmt :=
  [.Expr (.Call (.Attribute (.Call (.Name "super" q1) [] [] q2) "__init__" q3) [.Constant (.str msg) k q4] [] q5) q6, .Assign [.Attribute (.Name "self" q7) n q8] (.Name n q9) q10]
def iScope (n : Str) : Scope := { kind := .function, names := [("self", .local), (n, .local), ("__class__", .free), ("super", .globalImplicit)], isGenerator := false, isCoroutine := false, more := [] }
/-- a method's call goes the plain way (the places in the text decide) -/
def PlainM (o : Expr) (name : Str) (apos pos : Pos) (args : List Expr) : Prop := ∃ pl : Env → Sem Bool, ∀ env : Env, eval (.Call (.Attribute o name apos) args [] pos) env = (do
  let ov ← attributeBase o name env (eval o env)
  standAt apos.atName
  let (f, first) ← holding [ov] (getMethod ov name (pl env))
  callWith pos f first (backTo pos (starEach args env)) [])
/-- what the written part says of an error's class, at C, and of its __init__, at fI -/
structure ErrT (prog : Program) (K : Frag) (mg : Str → Option Value) (C fI : Addr) (n : Str) : Prop where
  cls : ∃ nm q N bs bm sn sub ab col dd k0 k1 k2 k3 k5, K.lookup C = some (excClassObj nm q C N bs bm true sn sub ab col dd k0 k1 k2 k3 k5 "ValueError.__new__") ∧ refsVE bm = true
  sa : findIn K (.ref C) "__setattr__" = some (some (.builtin "object.__setattr__"))
  ga : findIn K (.ref C) "__getattribute__" = some (some (.builtin "BaseException.__getattribute__"))
  gg : findIn K (.ref C) "__getattr__" = some none
  noN : findIn K (.ref C) n = some none
  iC : findIn K (.ref C) "__init__" = some (some (.ref fI))
  tC : typeIn K (.ref fI) = some (.type "function")
  kC : keepIn K (.ref C) = true
  exC : subIn K (.ref C) (.type "BaseException") = some true
  tyC : typeIn K (.ref C) = some (.type "type")
  hdC : hasDictIn K C = true
  subC : mroIn K C (.ref C) = some true
  sup : ks_superIn K C C "__init__" = some (some (.builtin "ValueError.__init__"))
  isB : subIn K (.ref C) (.type "ValueError") = some true
  stat : nsIn K cStatics "thirdparty.any" = some none
  gS : mg "super" = none
  top : (prog.main.scope.names.lookup ("super" : Str)).isSome = false
  lkS : (iScope n).names.lookup ("super" : Str) = some .globalImplicit
  lkC : (iScope n).names.lookup ("__class__" : Str) = some .free
  lkN : (iScope n).names.lookup n = some .local
  ndn : (n == ("__debug__" : Str)) = false
  nse : (n == ("self" : Str)) = false
  fn : ∃ (oc : Value) (od : Option Addr) (dV kV doc pm : Value) (an : Option Addr) (ct : Value) (osl : Array (Option Value)) (cda cc : Addr) (p1 p2 q1 q2 q3 q4 q5 q6 q7 q8 q9 q10 : Pos) (msg qual : Str) (k : Nat) (ccl cl : Value) (cdd cld : Option Addr) (vs ccs csl : Array (Option Value)) (fs : Array Value) (file : Str) (tf : Tok),
    K.lookup fI = some ⟨oc, od, .func (fnX "__init__" qual (iArgs n p1 p2) (iBody n msg k q1 q2 q3 q4 q5 q6 q7 q8 q9 q10) (iScope n) [("__class__", cc)] dV kV doc pm an (.ref cda) ct), osl⟩ ∧ codeIn K (.ref cda) qual = true ∧
    K.lookup cda = some ⟨ccl, cdd, .fields fs, ccs⟩ ∧ fs[2]? = some (.str file tf) ∧ ((prog.main.file : Str) == file) = true ∧ K.lookup cc = some ⟨cl, cld, .cell (some (.ref C)), csl⟩ ∧
    (∀ (s : Shared) (x v : Value), BindsTo s (fnX "__init__" qual (iArgs n p1 p2) (iBody n msg k q1 q2 q3 q4 q5 q6 q7 q8 q9 q10) (iScope n) [("__class__", cc)] dV kV doc pm an (.ref cda) ct) ⟨[x, v], []⟩ [("self", x), (n, v)]) ∧
    PlainM (.Call (.Name "super" q1) [] [] q2) "__init__" q3 q5 [.Constant (.str msg) k q4]
/-- what __init__ leaves of a fresh error at x -/
structure InitDone (h h' : Heap) (x C dx t1 : Addr) (n : Str) (v : Value) : Prop where
  keep : ∀ b o, b ≠ x → h.get? b = some o → h'.get? b = some o
  obj : h'.get? x = some { cls := .ref C, dict := some dx, data := .fields #[.ref t1, .none, .none, .none, .bool false, .none] }
  dbig : h.objs.size ≤ dx
  dne : dx ≠ x
  ns : h'.Ns1 dx (fun y => if y = n then some v else none)
structure ErrMade (h h' : Heap) (e C d : Addr) (n : Str) (v : Value) : Prop where
  keep : ∀ b o, h.get? b = some o → h'.get? b = some o
  new : h.objs.size ≤ e
  obj : ∃ oe vs, h'.get? e = some oe ∧ oe.cls = .ref C ∧ oe.dict = some d ∧ oe.data = .fields vs ∧ vs[1]? = some .none
  dbig : h.objs.size ≤ d
  dne : d ≠ e
  ns : h'.Ns1 d (fun y => if y = n then some v else none)
section
variable {prog : Program} {w : World} {A : Around} {E : Value → Shared → Prop} {R : Result → Shared → Prop} {s : Shared} {K : Frag} {mg : Str → Option Value} {C fI : Addr} {n : Str} {base : Heap}
theorem name_here {M : Model} {env : Env} {m : Str → Option Value} {y : Str} {pos : Pos} {v : Value} {Q : Value → Shared → Prop} (hn : s.heap.Ns env.locals m) (hv : m y = some v) (hk : env.scope.kind = .function) (hl : env.kindOf y = some .local) (hd : (y == ("__debug__" : Str)) = false) (h : Q v s) :
    wpAny M A (eval (.Name y pos) env) Q E s := wpAny_Name (wpAny_loadName_local hk hl hn hv h) hd
/-- the bound ValueError.__init__ is called: the args are laid anew -/
theorem call_mw {u e t0 : Addr} {rest : List Value} {nm q : Str} {N : Addr} {bs bm : List Value} {sn : List Str} {sub : List Value} {ab : Bool} {col : Option Bool} {dd : Option Addr} {k0 k1 k2 k3 k5 : Option Value} {Q : Value → Shared → Prop}
    (hC : s.heap.get? C = some (excClassObj nm q C N bs bm true sn sub ab col dd k0 k1 k2 k3 k5 "ValueError.__new__")) (hu : s.heap.get? u = some (kxs_mw "ValueError.__init__" e)) (he : s.heap.get? e = some (excO C t0)) (hz : rest.length ≤ sizeLine)
    (hq : ∀ h' t1, (∀ b o, b ≠ e → s.heap.get? b = some o → h'.get? b = some o) → h'.get? e = some (excO C t1) → Q .none { s with heap := h' }) : wpAny (model prog w) A (call (.ref u) rest) Q E s := by
  obtain ⟨hh, g, d, tk, os⟩ := s
  refine wpAny_call (codeAny_of_tree ?_)
  show wpAny _ A.in1 (callAny (.ref u) ⟨rest, []⟩) _ _ _
  simp only [callAny]
  refine wpAny_bind (wpAny_load hu ?_)
  have t1 : (Value.type "method-wrapper" == Value.type "method" || Value.type "method-wrapper" == Value.type "builtin_function_or_method" || Value.type "method-wrapper" == Value.type "method-wrapper") = true := by decide
  simp only [kxs_mw, t1, if_true]
  refine KFB.if_so (by decide) ?_
  refine wpAny_bind (check_bound_init F.excBase_ValueError.toExcCallFacts hC he rfl ?_)
  refine wpAny_bind (wpAny_pure (wpAny_pure ?_))
  refine ⟨plainId_quiet F.excBase_ValueError.init.plain _, codeAny_builtin F.excBase_ValueError.initEntry ?_⟩
  exact exc_init_tree (cls := .ref C) (t0 := t0) (dv := none) (c2 := .none) (c3 := .none) (b4 := .bool false) he hz fun h' k e' _ => hq h' _ k e'
theorem err_init (T : ErrT prog K mg C fI n) (MO : L2.Mod K mg base) (kb : ∀ b o, base.get? b = some o → s.heap.get? b = some o) {x t0 : Addr} {v : Value} (X : K.In s.heap) (hx : s.heap.get? x = some (excO C t0)) (hnx : K.lookup x = none) (hroom : A.depth < recursionLimit)
    (hq : ∀ h' tk dx t1, InitDone s.heap h' x C dx t1 n v → R (.ok (.ret .none)) { s with heap := h', toks := tk }) : codeAny (model prog w) A (.call (.ref fI) ⟨[.ref x, v], []⟩) R s := by
  obtain ⟨oc, od, dV, kV, doc, pm, an, ct, osl, cda, cc, p1, p2, q1, q2, q3, q4, q5, q6, q7, q8, q9, q10, msg, qual, k, ccl, cl, cdd, cld, vs, ccs, csl, fs, file, tf, ho, hcd, hcda, hfs, hfile, hcell, hbind, pl, hpl⟩ := T.fn
  obtain ⟨nm, q, N, bs, bm, sn, sub, ab, col, dd, k0, k1, k2, k3, k5, hC, hbm⟩ := T.cls
  have hcl : clsIn K C = some { name := nm, bases := bs, mro := .ref C :: bm, ns := N, qualname := q, hasDict := true, slotNames := sn, subclasses := sub, abstract := ab, collection := col, hasDel := false } := by unfold clsIn; rw [hC] <;> rfl
  have lim : s.heap.NoLimit := MO.nolimit.keeps kb
  have lkSelf : (iScope n).names.lookup ("self" : Str) = some .local := rfl
  refine ks_codeAny_call_defAt (binds := [("self", .ref x), (n, v)]) hroom (X _ _ ho) rfl lim (codeRec_of X hcd) rfl (hbind _ _ _) ?_ ?_ (fun h₁ hns hk => ?_) rfl rfl rfl
  · intro y hy
    have hy' : y ∈ [(("self" : Str), NameKind.local), (n, .local), ("__class__", .free), ("super", .globalImplicit)] := hy
    simp only [List.mem_cons, List.not_mem_nil, or_false] at hy'
    rcases hy' with rfl | rfl | rfl | rfl <;> (intro z; cases z)
  · intro y hy
    simp only [List.mem_cons, List.not_mem_nil, or_false] at hy
    rcases hy with rfl | rfl
    · exact lkSelf
    · exact T.lkN
  have X₁ : K.In h₁ := X.keeps hk
  have hx₁ := hk _ _ hx
  have hxL : s.heap.objs.size ≠ x := Nat.ne_of_gt (Heap.lt_size hx)
  have vS : (fun y : Str => List.lookup y [(("self" : Str), Value.ref x), (n, v)].reverse) "self" = some (.ref x) := by
    show List.lookup ("self" : Str) [(n, v), (("self" : Str), Value.ref x)] = _
    have : (("self" : Str) == n) = false := by rw [Bool.beq_comm]; exact T.nse
    rw [List.lookup_cons, this]
    rfl
  have vN : (fun y : Str => List.lookup y [(("self" : Str), Value.ref x), (n, v)].reverse) n = some v := by
    show List.lookup n [(n, v), (("self" : Str), Value.ref x)] = _
    rw [List.lookup_cons, beq_self_eq_true]
  obtain ⟨mb, hb1, hb2⟩ := MO.blt
  have hD2 : (excClassObj nm q C N bs bm true sn sub ab col dd k0 k1 k2 k3 k5 "ValueError.__new__").data = .cls { name := nm, bases := bs, mro := .ref C :: bm, ns := N, qualname := q, hasDict := true, slotNames := sn, subclasses := sub, abstract := ab, collection := col, hasDel := false } := rfl
  have I1 : InstAt h₁ x (excO C t0) C none := ⟨hx₁, rfl, rfl, trivial⟩
  show PySem.wpAt _ _ _ (execs (iBody n msg k q1 q2 q3 q4 q5 q6 q7 q8 q9 q10) _) _ _ _
  refine ks_wpAt_execs_cons (ks_wpAt_Expr_any (ks_wpAt_MethodCall (he := hpl _) (ks_wpAt_super_base T.lkS T.lkC rfl rfl (X₁ _ _ ho) rfl rfl rfl (X₁ _ _ hcda) rfl hfs hfile T.top ?_)))
  refine ks_loadName_global rfl T.lkS (loadGlobal_builtin (MO.glob.keeps fun b o e => hk b o (kb b o e)) T.gS (hb1.keeps fun b o e => hk b o (kb b o e)) ((hb2 _ (by decide +kernel)).trans (show bootBuiltins "super" = some (.type "super") by decide +kernel)) ⟨rfl, ?_⟩)
  refine wpAny_loadName_free rfl T.lkC rfl ⟨_, X₁ _ _ hcell, rfl⟩ ?_
  refine wpAny_loadName_local rfl lkSelf hns vS ?_
  refine ks_wpAny_isType_cls (X₁ _ _ hC) hD2 ⟨rfl, ?_⟩
  refine ks_wpAny_call_super (X₁ _ _ hC) hD2 hx₁ rfl (fun c z => by cases z) (looks_mroIn X₁ T.subC) (fun h₂ hso hk₂ => ?_)
  have X₂ : K.In h₂ := X₁.keeps hk₂
  have hsupm : (clsIn K C).bind (fun cd => alongIn K "__init__" ((cd.mro.dropWhile (· != .ref C)).drop 1)) = some (some (.builtin "ValueError.__init__")) := T.sup
  rw [hcl] at hsupm
  have I2 : InstAt h₂ x (excO C t0) C none := ⟨hk₂ _ _ hx₁, rfl, rfl, trivial⟩
  refine kxs_getMethod kxs_ValueError hso (looks_opaque X₂ T.stat) (l₀ := .ref C :: bm) (fun A Q E s k q => wpAny_bind ((looks_clsIn X₂ hcl) A _ E s k (wpAny_pure q))) rfl X₂ hsupm (I2.type.andThen (looks_subIn X₂ T.isB)) (ks_ne X₂ I2 hcl) rfl ?_
  refine kxs_callWith (i := "ValueError.__init__") (x := x) rfl (evalArgs_plain (spliced_cons (wpAny_Constant_str (k := k) (pos := q4) (spliced_nil ?_))))
  have hk3 : ∀ b o, h₂.get? b = some o → (h₂.push (kxs_mw "ValueError.__init__" x)).get? b = some o := fun b o e => Heap.get?_push_of_some _ e
  refine ⟨Heap.get?_push_at rfl rfl, call_mw (hk3 _ _ (X₂ _ _ hC)) (Heap.get?_push_at rfl rfl) (hk3 _ _ (hk₂ _ _ hx₁)) (by show 1 ≤ sizeLine; decide) fun h₄ t1 hk₄ hx₄ => ?_⟩
  have old : ∀ b o, b ≠ x → h₁.get? b = some o → h₄.get? b = some o := fun b o hb e => hk₄ b o hb (hk3 b o (hk₂ b o e))
  have X₄ : K.In h₄ := fun a o e => old a o (fun z => by rw [z, hnx] at e; cases e) (X₁ _ _ e)
  have hns₄ : h₄.Ns s.heap.objs.size (fun y => List.lookup y [(("self" : Str), Value.ref x), (n, v)].reverse) := by
    obtain ⟨oL, es, ep, hL, r⟩ := hns
    exact ⟨oL, es, ep, old _ _ hxL hL, r⟩
  refine wpAt_of_wpAny ?_
  show wpAny _ _ (execs [.Assign [.Attribute (.Name "self" q7) n q8] (.Name n q9) q10] _) _ _ _
  refine wpAny_execs_cons (plainObj_wpAny_Assign_Attribute ?_)
  refine name_here hns₄ vN rfl T.lkN T.ndn (name_here hns₄ vS rfl lkSelf rfl ?_)
  refine set_plain X₄ (ox := excO C t1) (od := none) ⟨hx₄, rfl, rfl, trivial⟩ T.sa ?_
  refine exc_osa X₄ hx₄ hcl (show refsVE (.ref C :: bm) = true from hbm) rfl T.noN (fun h₅ tk₅ dx k₅ dn dne hx₅ hn₅ => ?_)
  show wpAny _ _ (execs _ _) _ _ _
  have z4 : s.heap.objs.size ≤ h₄.objs.size := Nat.le_of_lt hns₄.lt
  exact wpAny_execs_nil (hq h₅ tk₅ dx t1 ⟨fun b o hb e => k₅ b o hb (old b o hb (hk b o e)), hx₅, Nat.le_trans z4 dn, dne, hn₅⟩)
theorem err_made (T : ErrT prog K mg C fI n) (MO : L2.Mod K mg base) (kb : ∀ b o, base.get? b = some o → s.heap.get? b = some o) {v : Value} (X : K.In s.heap) (hroom : A.depth + 1 < recursionLimit)
    (hq : ∀ h' tk e d, ErrMade s.heap h' e C d n v → R (.ok (.ret (.ref e))) { s with heap := h', toks := tk }) : codeAny (model prog w) A (.call (.ref C) ⟨[v], []⟩) R s := by
  obtain ⟨nm, q, N, bs, bm, sn, sub, ab, col, dd, k0, k1, k2, k3, k5, hC, hbm⟩ := T.cls
  obtain ⟨hp, g, dr, tk, os⟩ := s
  have kk : ∀ b o, hp.get? b = some o → ((hp.push (kdv_tup [v])).push (excO C hp.objs.size)).get? b = some o := fun b o e => Heap.get?_push_of_some _ (Heap.get?_push_of_some _ e)
  have hget : ((hp.push (kdv_tup [v])).push (excO C hp.objs.size)).get? (hp.objs.size + 1) = some (excO C hp.objs.size) := by heap_get
  have hnx : K.lookup (hp.objs.size + 1) = none := by
    cases e : K.lookup (hp.objs.size + 1) with
    | none => rfl
    | some o =>
      have z : hp.get? (hp.objs.size + 1) = some o := X _ _ e
      exact absurd (Nat.lt_of_succ_lt (Heap.lt_size z)) (Nat.lt_irrefl _)
  refine call_own F.excBase_ValueError (fun Y => refsVE_contains Y bm hbm) (X _ _ hC) (looks_findIn X T.iC) (fun self => bind_fn X self T.tC) (by show 1 ≤ sizeLine; decide) ?_
  refine err_init (s := ⟨(hp.push (kdv_tup [v])).push (excO C hp.objs.size), g, dr, tk, os⟩) T MO (fun b o e => kk b o (kb b o e)) (X.keeps kk) hget hnx hroom fun h' tk' dx t1 ⟨k', hx, dn, dne, hns⟩ => ?_
  have old : ∀ b o, hp.get? b = some o → h'.get? b = some o := fun b o e => k' b o (Nat.ne_of_lt (Nat.lt_succ_of_lt (Heap.lt_size e))) (kk b o e)
  have z : hp.objs.size ≤ dx := by
    have q : ((hp.push (kdv_tup [v])).push (excO C hp.objs.size)).objs.size ≤ dx := dn
    rw [Heap.size_push, Heap.size_push] at q
    exact Nat.le_trans (Nat.le_trans (Nat.le_succ _) (Nat.le_succ _)) q
  exact ⟨rfl, hq h' tk' (hp.objs.size + 1) dx ⟨old, Nat.le_succ _, ⟨_, _, hx, rfl, rfl, rfl, rfl⟩, z, dne, hns⟩⟩
end
end ErX
end PySem

set_option Elab.async false
set_option linter.all false
set_option maxRecDepth 100000
set_option maxHeartbeats 2000000
namespace DL
open PySem PySem.Spec PyProof.Rows L2
/-! ### the ends of a law -/
def lookS : List (Str × Int) → Str → Option Int
  | [], _ => none
  | (k, i) :: r, z => if k = z then some i else lookS r z
def keyVal (e : DictEntry) : Option (Str × Int) := match e.key, e.val with
  | .str k _, .int v _ => some (k, v)
  | _, _ => none
def opsL : List (Str × Int) := [("not", 1), ("flip", 1), ("and", 2), ("or", 2), ("else", 2), ("pareto", 2)]
theorem kdi_of {K : PySem.W.Frag} {w : World} {a : Addr} {es : Array DictEntry} {n : Nat} {kvs : List (Str × Int)} (hl : K.lookup a = some ⟨.type "dict", none, .dict es n, #[]⟩) (lit : PySem.W.KeysLit w.params es.toList) (low : (a == sysModules) = false)
    (h : es.toList.map keyVal = kvs.map some) {f : Str → Option D} (hf : ∀ z, f z = (lookS kvs z).map fun i => D.int i) : KDi K w a f := by
  refine ⟨⟨es, n, hl, lit, low⟩, fun z => ?_⟩
  have key : ∀ (l : List DictEntry) (kvs : List (Str × Int)), l.map keyVal = kvs.map some → (l.find? (·.key.isStr z) = none ∧ lookS kvs z = none ∧ l.any (·.refKey) = false) ∨ ∃ e i t, l.find? (·.key.isStr z) = some e ∧ e.val = .int i t ∧ lookS kvs z = some i := by
    intro l
    induction l with
    | nil => intro kvs h; cases kvs with
      | nil => exact .inl ⟨rfl, rfl, rfl⟩
      | cons _ _ => cases h
    | cons e l ih =>
      intro kvs h
      cases kvs with
      | nil => cases h
      | cons q kvs =>
        rw [List.map_cons, List.map_cons] at h
        injection h with h1 h2
        obtain ⟨k, i⟩ := q
        obtain ⟨hash, ek, ev⟩ := e
        unfold keyVal at h1
        cases ek with
        | str k' t' =>
          cases ev with
          | int i' t2 =>
            have h3 := Option.some.inj h1
            injection h3 with h4 h5
            subst h4 h5
            by_cases hk : k' = z
            · have e1 : (Value.str k' t').isStr z = true := by simp [Value.isStr, hk]
              have hfd : List.find? (fun x => x.key.isStr z) ((⟨hash, .str k' t', .int i' t2⟩ : DictEntry) :: l) = some ⟨hash, .str k' t', .int i' t2⟩ := by rw [List.find?_cons, e1]
              refine .inr ⟨_, i', t2, hfd, rfl, ?_⟩
              · show (if k' = z then _ else _) = _
                rw [if_pos hk]
            · have e1 : (Value.str k' t').isStr z = false := by simp [Value.isStr, hk]
              have e2 : lookS ((k', i') :: kvs) z = lookS kvs z := by show (if k' = z then _ else _) = _; rw [if_neg hk]
              rcases ih kvs h2 with ⟨a1, a2, a3⟩ | ⟨e, i, t, a1, a2, a3⟩
              · exact .inl ⟨by rw [List.find?_cons, e1]; exact a1, e2.trans a2, by rw [List.any_cons, a3]; rfl⟩
              · exact .inr ⟨e, i, t, by rw [List.find?_cons, e1]; exact a1, a2, e2.trans a3⟩
          | _ => cases h1
        | _ => cases h1
  have e0 : PySem.W.nsIn K a z = (match es.toList.find? (·.key.isStr z) with
      | some e => some (some e.val)
      | none => if es.toList.any (·.refKey) then none else some none) := by
    unfold PySem.W.nsIn; rw [hl]; rfl
  rcases key _ _ h with ⟨a1, a2, a3⟩ | ⟨e, i, t, a1, a2, a3⟩
  · refine ⟨none, by rw [e0, a1]; simp only [a3]; rfl, ?_⟩
    rw [hf, a2]; trivial
  · refine ⟨some e.val, by rw [e0, a1], ?_⟩
    rw [hf, a3]
    exact ⟨.int i, by rw [a2]; exact ⟨t, rfl⟩, fun H => .int i⟩
theorem kdi_ofT {K : PySem.W.Frag} {w : World} {a : Addr} {es : Array DictEntry} {n : Nat} {kvs : List (Str × Int)} (hl : K.lookup a = some ⟨.type "dict", none, .dict es n, #[]⟩) (lit : PySem.W.KeysLit w.params es.toList) (low : (a == sysModules) = false)
    (h : es.toList.map keyVal = kvs.map some) {f : Str → Option Int} (hf : ∀ z, f z = lookS kvs z) : KDi K w a (fun z => (f z).map D.int) := kdi_of hl lit low h fun z => by rw [hf]
/-- what is asked of a law: every script of at most 63 cells answers True -/
def arLaw (L : Om) (ds : List D) (d : D) : Prop := ∃ s : List Int, ds = [.frl (s.map D.int)] ∧ s.length ≤ 63 ∧ d = .bl true
theorem law_sp {K : PySem.W.Frag} {H : Hp} {a : Addr} {ns : List Int} {Q : VK} {E : XK} {Ar : Om → List D → D → Prop} (hA : Ar [] [.frl (ns.map D.int)] (.bl true)) (hS : SqL K H a (ns.map V.int)) (k : ∀ H', Q (.bl true) H') : spP K Ar [.ref a] H Q E := by
  have e : Same H (vis (fun _ => false) [] H) := fun a o h => vis_some.mpr ⟨rfl, rfl, h⟩
  exact ⟨fun _ => false, [], [.frl (ns.map D.int)], .bl true, ⟨fun a h => (by cases h), fun a m h => (by cases h), fun a m h => (by cases h)⟩, .cons (.frl (e.seq hS) (RpL.ofInts ns)) .nil, hA, fun v H' _ r => by cases r; exact k H'⟩
section
variable {P : Program} {w : World} {K : PySem.W.Frag} {mg : Str → Option Value} {base : Heap} {CX : CXT} {k : Nat} {f : Addr} {fd : FuncData} {ps : List Str}
theorem fn_law {Ar : Om → List D → D → Prop} (F : FnOk P w K mg base CX k f fd ps (spP K Ar)) (h : ∀ (L : Om) (s : List Int), s.length ≤ 63 → Ar L [.frl (s.map D.int)] (.bl true)) : FnOk P w K mg base CX k f fd ps (spP K arLaw) :=
  F.imp fun vs H Q E ⟨F', L, ds, d, bo, r, ⟨s, e1, e2, e3⟩, kk⟩ => ⟨F', L, ds, d, bo, r, by subst e1 e3; exact h L s e2, kk⟩
theorem fn_never {Ar : Om → List D → D → Prop} (h : ∀ L ds d, ¬ Ar L ds d) : FnOk P w K mg base CX k f fd ps (spP K Ar) :=
  ⟨fun vs H Q E ⟨_, _, _, _, _, _, ha, _⟩ => absurd ha (h _ _ _), fun A outer s H args us vs Q E _ _ _ _ ⟨_, _, _, _, _, _, ha, _⟩ => absurd ha (h _ _ _)⟩
end
/-! ### reasoning about mirrors -/
def Cmp.sat {α : Type} (m : Cmp α) (Q : α → Prop) : Prop := m.ok ∧ Q m.val
section
variable {α β S L R : Type} {Q : α → Prop}
theorem sat_ret {v : α} (h : Q v) : (Cmp.ret v).sat Q := ⟨trivial, h⟩
theorem sat_req {p : Prop} {m : Cmp α} (hp : p) (h : m.sat Q) : (Cmp.req p m).sat Q := ⟨⟨hp, h.1⟩, h.2⟩
theorem sat_bnd {v : β} {f : β → Cmp α} (h : (f v).sat Q) : (Cmp.bnd v f).sat Q := h
theorem sat_bind {m : Cmp β} {f : β → Cmp α} {P : β → Prop} (h : m.sat P) (k : ∀ b, P b → (f b).sat Q) : (m.bind f).sat Q := ⟨⟨h.1, (k _ h.2).1⟩, (k _ h.2).2⟩
theorem sat_ite {b : Bool} {m1 m2 : Cmp α} (h1 : b = true → m1.sat Q) (h2 : b = false → m2.sat Q) : (if b = true then m1 else m2).sat Q := by
  cases b with
  | true => exact h1 rfl
  | false => exact h2 rfl
theorem sat_mono {m : Cmp α} {P : α → Prop} (h : m.sat P) (k : ∀ a, P a → Q a) : m.sat Q := ⟨h.1, k _ h.2⟩
theorem sat_eq {m : Cmp α} {v : α} (h : m.sat fun a => a = v) : m.ok ∧ m.val = v := h
theorem sat_forN {xs : List β} {f : β → S → Cmp S} {s : S} (I : Nat → S → Prop) (h0 : I 0 s) (hs : ∀ i x s, xs[i]? = some x → I i s → (f x s).sat (I (i + 1))) : (forN f xs s).sat (I xs.length) := by
  induction xs generalizing s I with
  | nil => exact ⟨trivial, h0⟩
  | cons x xs ih =>
    have h1 := hs 0 x s rfl h0
    have h2 := ih (s := (f x s).val) (fun i s => I (i + 1) s) h1.2 fun i y s hy => hs (i + 1) y s (by simpa using hy)
    exact ⟨⟨h1.1, h2.1⟩, h2.2⟩
/-- .. over 0 .. n - 1 -/
theorem sat_forR {n : Int} {f : Int → S → Cmp S} {s : S} (I : Nat → S → Prop) (h0 : I 0 s) (hs : ∀ (i : Nat) s, (i : Int) < n → I i s → (f (i : Int) s).sat (I (i + 1))) : (forN f (rangeL 0 n) s).sat (I n.toNat) := by
  have hl : (rangeL 0 n).length = n.toNat := by simp [rangeL]
  have := sat_forN (xs := rangeL 0 n) (f := f) (s := s) I h0 fun i x s hx hi => by
    obtain ⟨hi', e⟩ := List.getElem?_eq_some_iff.mp hx
    rw [hl] at hi'
    have : x = (i : Int) := by rw [← e]; simp [rangeL]
    subst this
    exact hs i s (by omega) hi
  rwa [hl] at this
theorem sat_bindR [Inhabited R] {m : Cmp (Ctl S L R)} {k : S → Cmp R} {Q : R → Prop} {P : Ctl S L R → Prop} (h : m.sat P) (k' : ∀ c, P c → (c.thenR k).sat Q) : (m.bindR k).sat Q := sat_bind h k'
theorem sat_bindC {S2 : Type} {m : Cmp (Ctl S L R)} {k : S → Cmp (Ctl S2 L R)} {Q : Ctl S2 L R → Prop} {P : Ctl S L R → Prop} (h : m.sat P) (k' : ∀ c, P c → (c.then_ k).sat Q) : (m.bindC k).sat Q := sat_bind h k'
/-- a loop that never leaves -/
theorem sat_forC {xs : List β} {f : β → S → Cmp (Ctl S S R)} {s : S} (I : Nat → S → Prop) (h0 : I 0 s) (hs : ∀ i x s, xs[i]? = some x → I i s → (f x s).sat fun c => ∃ s', (c = .nx s' ∨ c = .ct s') ∧ I (i + 1) s') : (forC (L := L) f xs s).sat fun c => ∃ s', c = .nx s' ∧ I xs.length s' := by
  induction xs generalizing s I with
  | nil => exact ⟨trivial, s, rfl, h0⟩
  | cons x xs ih =>
    obtain ⟨o1, s', h1, h2⟩ := hs 0 x s rfl h0
    have h3 := ih (s := s') (fun i s => I (i + 1) s) h2 fun i y s hy => hs (i + 1) y s (by simpa using hy)
    unfold forC
    refine sat_bind (P := fun c => c = .nx s' ∨ c = .ct s') ⟨o1, h1⟩ fun c hc => ?_
    rcases hc with rfl | rfl <;> exact h3
/-- a loop that may hand back, or break: what holds at its end -/
theorem sat_forCx {xs : List β} {f : β → S → Cmp (Ctl S S R)} {s : S} (I : Nat → S → Prop) (J : Ctl S L R → Prop) (h0 : I 0 s) (hs : ∀ i x s, xs[i]? = some x → I i s → (f x s).sat fun c => match c with | .nx s' => I (i + 1) s' | .ct s' => I (i + 1) s' | .bk s' => J (.nx s') | .rt r => J (.rt r) | .ex e => J (.ex e))
    (he : ∀ s', I xs.length s' → J (.nx s')) : (forC (L := L) f xs s).sat J := by
  induction xs generalizing s I with
  | nil => exact ⟨trivial, he _ h0⟩
  | cons x xs ih =>
    have h1 := hs 0 x s rfl h0
    unfold forC
    refine sat_bind h1 fun c hc => ?_
    cases c with
    | nx s' => exact ih (fun i s => I (i + 1) s) hc (fun i y s hy => hs (i + 1) y s (by simpa using hy)) he
    | ct s' => exact ih (fun i s => I (i + 1) s) hc (fun i y s hy => hs (i + 1) y s (by simpa using hy)) he
    | bk s' => exact ⟨trivial, hc⟩
    | rt r => exact ⟨trivial, hc⟩
    | ex e => exact ⟨trivial, hc⟩
theorem sat_while {c : S → Cmp Bool} {f : S → Cmp S} {s : S} {n : Nat} {Q : S → Prop} (I : S → Prop) (μ : S → Nat) (h0 : I s) (hn : μ s < n) (hc : ∀ s, I s → (c s).sat fun b => (b = true → (f s).sat fun s' => I s' ∧ μ s' < μ s) ∧ (b = false → Q s)) : (whileN c f n s).sat Q := by
  induction n generalizing s with
  | zero => omega
  | succ n ih =>
    unfold whileN
    refine sat_bind (hc s h0) fun b hb => sat_ite (fun e => ?_) (fun e => ?_)
    · exact sat_bind (hb.1 e) fun s' h' => ih h'.1 (by omega)
    · exact ⟨trivial, hb.2 e⟩
end
end DL

set_option Elab.async false
set_option linter.all false
set_option maxRecDepth 100000
set_option maxHeartbeats 4000000
namespace DL
open PySem PySem.Spec PyProof.Rows L2 TL
/-! ### more built-ins -/
theorem un65 {k : Nat} {A : Around} (r : Room k A) : A.units + 65 < cLine := by have := r.un; omega
def ltS (a b : Str) : Bool := decide (a.cps.toList < b.cps.toList)
def sortI (xs : List Int) : List Int := xs.mergeSort (fun a b => decide (a ≤ b))
theorem sortI_perm (xs : List Int) : (sortI xs).Perm xs := List.mergeSort_perm _ _
theorem sortI_le (xs : List Int) : (sortI xs).Pairwise (· ≤ ·) := by
  have h := List.pairwise_mergeSort (le := fun (a b : Int) => decide (a ≤ b)) (fun a b c h1 h2 => by simp at *; omega) (fun a b => by simp; omega) xs
  exact h.imp fun h => of_decide_eq_true h
theorem sortI_eq {xs ys : List Int} (h : ys.Perm xs) (hp : ys.Pairwise (· ≤ ·)) : ys = sortI xs :=
  List.Perm.eq_of_pairwise (le := (· ≤ ·)) (fun a b _ _ h1 h2 => by omega) hp (sortI_le xs) (h.trans (sortI_perm xs).symm)
section
variable {X : Cx} {B : Gd} {ρ : List (Option D)} {O : Om} {d : D}
theorem rd_ltS {K : PySem.W.Frag} {i j : Str} : RD K B O (fun x y H Q => ∃ i j, x = .str i ∧ y = .str j ∧ Q (.bl (decide (i.cps.toList < j.cps.toList))) H) (.str i) (.str j) (.bl (ltS i j)) := fun x y H Q m r1 r2 k => by
  cases r1; cases r2
  exact ⟨i, j, rfl, rfl, k _ H (Same.refl H) (.bl _)⟩
theorem rp_ints {K : PySem.W.Frag} {H : Hp} (xs : List Int) : RpL K H (xs.map V.int) (xs.map D.int) := by
  induction xs with
  | nil => exact .nil
  | cons x xs ih => exact .cons (.int x) ih
theorem rcn_sorted {K : PySem.W.Frag} {xs : List Int} (w : Vw (B.L ++ O) d (xs.map D.int)) : RCN K B O (rSortedI K) [d] ((sortI xs).map D.int) := fun vs H Q m r k => by
  obtain ⟨a, ws, e, q, rl⟩ := vw_rp w m r
  have ev := rl.ints
  subst ev
  refine ⟨a, xs, e, q, fun ns' p h1 h2 hp => ?_⟩
  rw [sortI_eq h1 h2]
  exact new_same m (rp_ints (sortI xs)) k p hp
end
/-! ### in, however it is decided -/
section
variable {α : Type} {E : α → D} {B : Gd} {O : Om} {d2 : D}
theorem rd_inH {K : PySem.W.Frag} [DecidableEq α] {P : α → Prop} {n : Nat} {g : α → PyData} {x : α} {xs : List α} {i : Decidable (x ∈ xs)} (h : EqOk E P n g) (hn : n ≤ 63) (w2 : Vd (B.L ++ O) d2 (.lst (xs.map E))) (h1 : P x) (h2 : ∀ y ∈ xs, P y) : RD K B O (rInD K) (E x) d2 (.bl (@decide (x ∈ xs) i)) := by
  obtain rfl : i = List.instDecidableMemOfLawfulBEq x xs := Subsingleton.elim _ _
  exact rd_inG (K := K) h hn w2 h1 h2
theorem rd_notinH {K : PySem.W.Frag} [DecidableEq α] {P : α → Prop} {n : Nat} {g : α → PyData} {x : α} {xs : List α} {i : Decidable (x ∈ xs)} (h : EqOk E P n g) (hn : n ≤ 63) (w2 : Vd (B.L ++ O) d2 (.lst (xs.map E))) (h1 : P x) (h2 : ∀ y ∈ xs, P y) : RD K B O (rNotInD K) (E x) d2 (.bl (!@decide (x ∈ xs) i)) := by
  obtain rfl : i = List.instDecidableMemOfLawfulBEq x xs := Subsingleton.elim _ _
  exact rd_notinG (K := K) h hn w2 h1 h2
end
/-! ### properties and methods that give new lists -/
section
variable {X : Cx} {B : Gd} {ρ : List (Option D)} {O : Om} {d : D} {C : Addr} {ds fs es' : List D} {k : Nat} {o e : Expr} {es : List Expr} {pos apos : Pos}
theorem en_prop {Ar : Om → List D → List D → Prop} {ns : List Str} {f : Str} {pp g : Addr} (he : EV X B ρ O o (.obj C ns ds)) (c : Cls X.K C) (hp : PropOf X.K C f pp g) (F : Fok X.prog X.w X.K X.mg X.base CX0 k g (spN X.K Ar)) (hr : Room (k + 1) X.A)
    (h : Ar (B.L ++ O) [.obj C ns ds] fs) (hb : attributeBase o f X.env (eval o X.env) = eval o X.env := by rfl) : EN X B ρ O (.Attribute o f pos) fs := by
  obtain ⟨fd, ps, G, b⟩ := F.ex
  exact pe_imp (pe_prop (E := E0) (dvs := []) he c hp G hr b .nil pass0 hb) fun σ H Q ⟨st, k⟩ => ⟨st, fun v H1 e1 r1 => by
    cases r1 with
    | obj h1 h2 h3 => exact ⟨_, _, _, rfl, vis_le _ _ h1, spN_use (st.same e1).m (.cons (Rp.obj h1 h2 h3) .nil) h fun p H2 ws hp e2 hv r2 => k p H2 ws (e1.free hp) (e1.trans e2) hv r2⟩⟩
theorem en_meth {Ar : Om → List D → List D → Prop} {ns : List Str} {m : Str} {f : Addr} (he : EV X B ρ O o (.obj C ns ds)) (c : Cls X.K C) (hm : Meth X.K C m f) (F : Fok X.prog X.w X.K X.mg X.base CX0 k f (spN X.K Ar)) (hr : Room k X.A) (ha : EA X B ρ O (e :: es) es') (hn : ns.idxOf? m = none)
    (h : Ar (B.L ++ O) (.obj C ns ds :: es') fs) (pl : Sem Bool)
    (hst : starEach (e :: es) X.env = (false, eval e X.env) :: starEach es X.env := by rfl) (hpl : (backTo pos (starEach es X.env)).any (·.1) = false := by rfl)
    (ht : eval (.Call (.Attribute o m apos) (e :: es) [] pos) X.env = (do
      let ov ← eval o X.env
      standAt apos.atName
      let (f, first) ← holding [ov] (getMethod ov m pl)
      callWith pos f first (backTo pos (starEach (e :: es) X.env)) (backToKw pos (keywordEach [] X.env))) := by rfl) :
    EN X B ρ O (.Call (.Attribute o m apos) (e :: es) [] pos) fs :=
  pe_imp (pe_methR (E := E0) (pl := pl) he c hm F.raw hr pass0 ha hst hpl ht) fun σ H Q ⟨st, k⟩ => ⟨st, fun v H1 e1 r1 => by
    cases r1 with
    | obj h1 h2 h3 => exact ⟨_, _, _, rfl, vis_le _ _ h1, look_no h2 hn, st.same e1, fun vs H2 e2 r2 => spN_use ((st.same e1).same e2).m (.cons ((Rp.obj h1 h2 h3).mono (vis_same e2)) r2) h fun p H3 ws hp e3 hv r3 => k p H3 ws ((e1.trans e2).free hp) ((e1.trans e2).trans e3) hv r3⟩⟩
end
end DL

set_option Elab.async false
set_option linter.all false
set_option maxRecDepth 100000
set_option maxHeartbeats 4000000
namespace DL
open PySem PySem.Spec PyProof.Rows L2 TL
/-! ### trees: a word, or a tuple of a word and one or two trees -/
inductive Tr where
  | leaf (z : Str)
  | un (h : Str) (t : Tr)
  | bin (h : Str) (a b : Tr)
instance : Inhabited Tr := ⟨.leaf Str.empty⟩
def eTr : Tr → D
  | .leaf z => .str z
  | .un h t => .tup [.str h, eTr t]
  | .bin h a b => .tup [.str h, eTr a, eTr b]
namespace Tr
def isLeaf : Tr → Bool
  | .leaf _ => true
  | _ => false
def isBin : Tr → Bool
  | .bin _ _ _ => true
  | _ => false
def word : Tr → Str
  | .leaf z => z
  | _ => Str.empty
def head : Tr → Str
  | .leaf _ => Str.empty
  | .un h _ => h
  | .bin h _ _ => h
def c1 : Tr → Tr
  | .leaf z => .leaf z
  | .un _ t => t
  | .bin _ a _ => a
def c2 : Tr → Tr
  | .bin _ _ b => b
  | t => t
def kids : Tr → List Tr
  | .leaf _ => []
  | .un _ t => [t]
  | .bin _ a b => [a, b]
end Tr
section
variable {X : Cx} {B : Gd} {ρ : List (Option D)} {O : Om} {d : D} {ds : List D} {a b e : Expr} {pos p2 : Pos} {t : Tr}
theorem rc_isTr {K : PySem.W.Frag} : RC K B O (rIsi K) [eTr t, .ty "str"] (.bl t.isLeaf) := by
  cases t with
  | leaf z => exact rc_isi .str (by rfl)
  | un h t => exact rc_isi .tup (by rfl)
  | bin h a b => exact rc_isi .tup (by rfl)
theorem ev_trW (ha : EV X B ρ O a (eTr t)) (h : t.isLeaf = true) : EV X B ρ O a (.str t.word) := by
  cases t with
  | leaf z => exact ha
  | un h t => cases h
  | bin h a b => cases h
theorem ev_trH (ha : EV X B ρ O a (eTr t)) (hb : EV X B ρ O b (.int 0)) (h : t.isLeaf = false) (hs : PlainIx b := by intro _ _; rfl) : EV X B ρ O (.Subscript a b pos) (.str t.head) := by
  cases t with
  | leaf z => cases h
  | un h t => exact ev_ixT ha hb (by rfl) hs
  | bin h a b => exact ev_ixT ha hb (by rfl) hs
theorem ev_tr1 (ha : EV X B ρ O a (eTr t)) (hb : EV X B ρ O b (.int 1)) (h : t.isLeaf = false) (hs : PlainIx b := by intro _ _; rfl) : EV X B ρ O (.Subscript a b pos) (eTr t.c1) := by
  cases t with
  | leaf z => cases h
  | un h t => exact ev_ixT ha hb (by rfl) hs
  | bin h a b => exact ev_ixT ha hb (by rfl) hs
theorem ev_tr2 (ha : EV X B ρ O a (eTr t)) (hb : EV X B ρ O b (.int 2)) (h : t.isBin = true) (hs : PlainIx b := by intro _ _; rfl) : EV X B ρ O (.Subscript a b pos) (eTr t.c2) := by
  cases t with
  | leaf z => cases h
  | un h t => cases h
  | bin h a b => exact ev_ixT ha hb (by rfl) hs
theorem ev_sliceT {lo hi : Option Expr} {l h : Option Int} (ha : EV X B ρ O e (.tup ds)) (hl : EO X B ρ O lo l) (hh : EO X B ρ O hi h) : EV X B ρ O (.Subscript e (.Slice lo hi none p2) pos) (.tup (cutD ds l h)) :=
  pe_imp (pe_slice sl_tupA ha hl hh) fun σ H Q ⟨st, k⟩ => ⟨st, fun v H1 e1 r1 => ⟨st.same e1, fun H2 e2 => ⟨(st.same e1).same e2, fun H3 e3 => by
    have s3 := ((st.same e1).same e2).same e3
    have e13 := e2.trans e3
    cases r1 with
    | tup hq r =>
      have hq' := same_t (vis_le) (same_t (vis_same e13) hq)
      have r' := r.mono (vis_same e13)
      refine ⟨_, _, rfl, hq', fun hw => ?_, fun hw p hp => ?_⟩
      · have ec : cutD ds l h = ds := by
          unfold cutD
          rw [← r.length, hw.1, hw.2, List.drop_zero, Nat.sub_zero]
          exact List.take_of_length_le (by rw [r.length]; exact Nat.le_refl _)
        rw [ec] at k
        exact k _ H3 (e1.trans e13) (.tup (same_t (vis_same e13) hq) r')
      · exact k _ _ ((e1.trans e13).trans (same_new hp)) (.tup (.inl (.inl (s3.m.visNew hp))) ((r'.cut l h).mono (vis_same (same_new hp))))⟩⟩⟩
theorem ev_trK (ha : EV X B ρ O e (eTr t)) (hb : EV X B ρ O b (.int 1)) (h : t.isLeaf = false) : EV X B ρ O (.Subscript e (.Slice (some b) none none p2) pos) (dU eTr t.kids) := by
  cases t with
  | leaf z => cases h
  | un h t => exact ev_sliceT ha (eo_some hb) eo_none
  | bin h a b => exact ev_sliceT ha (eo_some hb) eo_none
end
end DL

set_option Elab.async false
set_option linter.all false
set_option maxRecDepth 100000
set_option maxHeartbeats 4000000
/-! ### operators of an own class -/
namespace PySem.W
open Lean Elab Tactic Meta PySem PySem.Calls PyProof.Rows
section
variable {prog : Program} {w : World} {M : Model} {A : Around} {E : Value → Shared → Prop} {s : Shared} {K : Frag} {x b C f : Addr} {ox ob : Obj} {od odb : Option Obj}
/-- both operands of one class -/
theorem dl_binI {op : Operator} {Q : Value → Shared → Prop} (X : K.In s.heap) (I : InstAt s.heap x ox C od) (Ib : InstAt s.heap b ob C odb) (hc : selfFirst K C = true)
    (hs : findIn K (.ref C) (PySem.dunder op.info.2) = some (some (.ref f))) (hf : isFn K (.ref f) = true)
    (h : wpAny (model prog w) A (call (.ref f) [.ref x, .ref b]) (CmpBack Q) E s) : wpAny (model prog w) A (binaryOp op (.ref x) (.ref b)) Q E s := by
  obtain ⟨cd, rest, hcd, hm⟩ := ksp_first hc
  rcases hi : op.info with ⟨sym, nm'⟩
  rw [hi] at hs
  dsimp only at hs
  have one := ksp_try X I hs hf h
  obtain ⟨hh, g, d, tt, os⟩ := s
  have L1 : Looks (model prog w) hh (typeOf (.ref x)) (.ref C) := I.type
  have L2 : Looks (model prog w) hh (typeOf (.ref b)) (.ref C) := Ib.type
  have L3 : Looks (model prog w) hh (fillsNumberSlot (.ref C) nm') true := fills_K X hcd hm hs
  have hne : (Value.ref C == Value.ref C) = true := beq_self_eq_true _
  simp only [binaryOp, hi]
  refine wpAny_holding (wpAny_bind ?_)
  unfold binaryOp1
  refine wpAny_bind (L1.at (wpAny_bind (L2.at (wpAny_bind (L3.at ?_)))))
  simp only [hne, if_true]
  ksp_lk
  refine wpAny_mono one (fun r s' hr' => ?_) fun _ _ e => e
  obtain ⟨v, rfl, hq⟩ := hr'
  ksp_lk
  exact hq
end
end PySem.W
namespace DL
open PySem PySem.Spec PyProof.Rows L2 TL
/-- an operator's method in a class -/
structure BinOf (K : PySem.W.Frag) (C : Addr) (nm : String) (f : Addr) : Prop where
  at_ : PySem.W.findIn K (.ref C) (PySem.dunder nm) = some (some (.ref f))
  fn : PySem.W.isFn K (.ref f) = true
  sf : PySem.W.selfFirst K C = true
section
variable {X : Cx} {B : Gd} {ρ : List (Option D)} {O : Om} {d : D} {C f : Addr} {ds ds' fs : List D} {k : Nat} {a b e : Expr} {pos : Pos}
def rOwn (X : Cx) (C : Addr) (sp : Sp) (E : XK) : R2 := fun x y H Q => ∃ p q, x = .ref p ∧ y = .ref q ∧ StX.InsC X H p C ∧ StX.InsC X H q C ∧ sp [.ref p, .ref q] H (fun v H' => (∃ p, v = .ref p) ∧ Q v H') E
theorem back_of {pins : List (Addr × Obj)} {σ : L2.St} {Q : VK} {v : Value} {s' : Shared} (h : EP X pins σ (fun v H' => (∃ p, v = V.ref p) ∧ Q v H') v s') : PySem.W.CmpBack (EP X pins σ Q) v s' := by
  obtain ⟨x, H', I, r, ⟨p, e⟩, q⟩ := h
  subst e
  cases r
  exact ⟨V.ref p, H', I, rfl, q⟩
theorem op_own {op : Operator} {CX : CXT} {sp : Sp} {E : XK} (bo : BinOf X.K C op.info.2 f) (F : FnR X.prog X.w X.K X.mg X.base CX k f sp) (hr : Room k X.A) (hx : Passes CX X E) : OpR X (binaryOp op) (rOwn X C sp E) := by
  intro pins s σ H x y v u Q I rx ry h
  obtain ⟨p, q, rfl, rfl, h1, h2, h3⟩ := h
  cases rx
  cases ry
  obtain ⟨ox, od, J, _⟩ := StX.insC_at I h1
  obtain ⟨ox2, od2, J2, _⟩ := StX.insC_at I h2
  refine PySem.W.dl_binI I.kIn J J2 bo.sf bo.at_ bo.fn ?_
  exact wpAny_mono (wpAny_call (run_fnR (us := [.ref p, .ref q]) (vs := [.ref p, .ref q]) F hr hx I (.cons rfl (.cons rfl .nil)) h3)) (fun v s' hv => back_of hv) fun _ _ e => e
theorem ev_binO {op : Operator} {Ar : Om → List D → D → Prop} {ns ns' ns2 : List Str} {C2 : Addr} (ha : EV X B ρ O a (.obj C ns ds)) (hb : EV X B ρ O b (.obj C ns' ds')) (bo : BinOf X.K C op.info.2 f) (F : Fok X.prog X.w X.K X.mg X.base CX0 k f (spP X.K Ar)) (hr : Room k X.A)
    (h : Ar (B.L ++ O) [.obj C ns ds, .obj C ns' ds'] (.obj C2 ns2 fs)) : EV X B ρ O (.BinOp a op b pos) (.obj C2 ns2 fs) :=
  pe_imp (pe_op (op_own (E := E0) bo F.raw hr pass0) ha hb) fun σ H Q ⟨st, k⟩ => ⟨st, fun v H1 e1 r1 => ⟨st.same e1, fun u H2 e2 r2 => by
    have r1' := r1.mono (vis_same e2)
    cases r1' with
    | obj h1 h2 h3 =>
      cases r2 with
      | obj g1 g2 g3 =>
        exact ⟨_, _, rfl, rfl, .inr ⟨_, _, vis_le _ _ h1⟩, .inr ⟨_, _, vis_le _ _ g1⟩, spP_use ((st.same e1).same e2).m (.cons (Rp.obj h1 h2 h3) (.cons (Rp.obj g1 g2 g3) .nil)) h fun w H3 e3 r3 => by
          have q := k w H3 ((e1.trans e2).trans e3) r3
          cases r3 with
          | obj _ _ _ => exact ⟨⟨_, rfl⟩, q⟩⟩⟩⟩
/-! one operand -/
def rOwn1 (X : Cx) (C : Addr) (sp : Sp) (E : XK) : V → Hp → VK → Prop := fun x H Q => ∃ p, x = .ref p ∧ StX.InsC X H p C ∧ sp [.ref p] H Q E
theorem un_neg {CX : CXT} {sp : Sp} {E : XK} (h1 : PySem.W.findIn X.K (.ref C) "__neg__" = some (some (.ref f))) (h2 : PySem.W.isFn X.K (.ref f) = true) (F : FnR X.prog X.w X.K X.mg X.base CX k f sp) (hr : Room k X.A) (hx : Passes CX X E) : UnR X (unaryOp .USub) (rOwn1 X C sp E) := by
  intro pins s σ H x v Q I rx h
  obtain ⟨p, rfl, g1, g3⟩ := h
  cases rx
  obtain ⟨ox, od, J, _⟩ := StX.insC_at I g1
  unfold unaryOp
  refine wpAny_holding (wpAny_bind (PySem.W.special_fn I.kIn J h1 (beq_iff_eq.mp h2) (wpAny_mono (wpAny_call (run_fnR (us := [.ref p]) (vs := [.ref p]) F hr hx I (.cons rfl .nil) g3)) (fun _ _ z => wpAny_pure z) fun _ _ z => z)))
theorem un_inv {CX : CXT} {sp : Sp} {E : XK} (h1 : PySem.W.findIn X.K (.ref C) "__invert__" = some (some (.ref f))) (h2 : PySem.W.isFn X.K (.ref f) = true) (F : FnR X.prog X.w X.K X.mg X.base CX k f sp) (hr : Room k X.A) (hx : Passes CX X E) : UnR X (unaryOp .Invert) (rOwn1 X C sp E) := by
  intro pins s σ H x v Q I rx h
  obtain ⟨p, rfl, g1, g3⟩ := h
  cases rx
  obtain ⟨ox, od, J, _⟩ := StX.insC_at I g1
  unfold unaryOp
  refine wpAny_holding (wpAny_bind (PySem.W.special_fn I.kIn J h1 (beq_iff_eq.mp h2) (wpAny_mono (wpAny_call (run_fnR (us := [.ref p]) (vs := [.ref p]) F hr hx I (.cons rfl .nil) g3)) (fun _ _ z => wpAny_pure z) fun _ _ z => z)))
theorem ev_unO {op : UnaryOp} {Ar : Om → List D → D → Prop} {ns : List Str} (ha : EV X B ρ O a (.obj C ns ds)) (ho : UnR X (unaryOp op) (rOwn1 X C (spP X.K Ar) E0))
    (h : Ar (B.L ++ O) [.obj C ns ds] d) : EV X B ρ O (.UnaryOp op a pos) d :=
  pe_imp (pe_un ho ha) fun σ H Q ⟨st, k⟩ => ⟨st, fun v H1 e1 r1 => by
    cases r1 with
    | obj h1 h2 h3 => exact ⟨_, rfl, .inr ⟨_, _, vis_le _ _ h1⟩, spP_use (st.same e1).m (.cons (Rp.obj h1 h2 h3) .nil) h fun w H3 e3 r3 => k w H3 (e1.trans e3) r3⟩⟩
end
end DL

set_option Elab.async false
set_option linter.all false
set_option maxRecDepth 100000
set_option maxHeartbeats 4000000
/-! ### what raises -/
namespace L2
open PySem PySem.Spec PyProof.Rows
theorem relO_err {v : V} {v' : Value} {n : Str} (r : RelV v v') (f : Str) : RelO (List.lookup f [(n, v)]) (if f = n then some v' else none) := by
  by_cases hw : f = n
  · subst hw
    rw [if_pos rfl]
    have q : List.lookup f [(f, v)] = some v := by simp [List.lookup]
    rw [q]
    exact r
  · rw [if_neg hw]
    have qw : (f == n) = false := by simpa using hw
    have q2 : List.lookup f [(n, v)] = none := by simp [List.lookup, qw]
    rw [q2]
    trivial
section
variable {X : Cx} {C fI : Addr} {n x : Str}
def tMkErr (C : Addr) (n : Str) (ta : TA) : St → Hp → XK → Prop := fun σ H Q => ta σ H fun vs H1 => ∃ v, vs = [v] ∧ ∀ d, H1 d = none → Q (.ref C) (some d) (upd H1 d (.xd [(n, v)]))
theorem pmk_err {a : Expr} {ta : TA} {p pos : Pos} {k : Nat} (T : PySem.ErX.ErrT X.prog X.K X.mg C fI n) (gC : X.mg x = some (.ref C)) (hr : Room k X.A) (ha : PA X [a] ta) (hg : Gl X x) (hdb : (x == ("__debug__" : Str)) = false := by decide)
    (he : starEach (a :: []) X.env = (false, eval a X.env) :: starEach [] X.env := by rfl) (hpl : (backTo pos (starEach [] X.env)).any (·.1) = false := by rfl) :
    PMk X (.Call (.Name x p) [a] [] pos) (tMkErr C n ta) := by
  intro pins s σ H Q I h
  refine wpAny_Call_Name_kw (ld_glob I hg gC ?_ hdb)
  refine PySem.W.callWith_K (h₀ := X.base) I.ok.mod.kin T.kC (thn (ha.run pos pins s σ H _ I h) fun us s1 hh => ?_) he hpl
  obtain ⟨vs, H1, I1, r1, v, ev, q1⟩ := hh
  subst ev
  refine ⟨I1.kIn, ?_⟩
  cases r1 with
  | cons rv rn =>
    rename_i v' us'
    cases rn
    show wpAny _ _ (call (.ref C) [v']) _ _ _
    have hbk := I1.bk
    have hmod := I1.ok.mod
    obtain ⟨hp, g, dr, tk, os⟩ := s1
    refine wpAny_call (PySem.ErX.err_made T hmod hbk I1.kIn (by have := hr.dp; omega) fun h' tk' e d M => ?_)
    show MkP X pins σ Q (.ref e) ⟨h', g, dr, tk', os⟩
    obtain ⟨oe, fv, hoe, hc, hd, hdat, h1⟩ := M.obj
    have hns := M.ns
    obtain ⟨G', g1, g2⟩ := restrict h' fun b => decide (b ≠ e)
    have gk : ∀ b, b ≠ e → G'.get? b = h'.get? b := fun b hb => g1 b (decide_eq_true hb)
    have ge : G'.get? e = none := g2 e (by simp)
    have old : ∀ b o, hp.get? b = some o → G'.get? b = some o := fun b o q => (gk b (Nat.ne_of_lt (Nat.lt_of_lt_of_le (Heap.lt_size q) M.new))).trans (M.keep b o q)
    have ob : ObjOk X.prog X.w (upd H1 d (.xd [(n, v)])) G' d (.xd [(n, v)]) :=
      ⟨_, hns.at (fun o q => (gk d M.dne).trans q), fun f => relO_err rv f⟩
    have J : Inv X pins σ (upd H1 d (.xd [(n, v)])) ⟨G', g, dr, tk', os⟩ := I1.laid (t' := tk') old M.dbig ob
    refine ⟨e, oe, fv, ⟨G', g, dr, tk', os⟩, _, .ref C, some d, rfl, J, fun b o q => ?_, ge, hoe, ⟨hc, hd⟩, hdat, h1, ?_, rfl, I1.bare, raises_own T.exC T.tyC, q1 d (I1.hok.fresh M.dbig)⟩
    · by_cases hb : b = e
      · have q' : G'.get? b = some o := q
        rw [hb, ge] at q'; cases q'
      · exact (gk b hb).symm.trans q
    · rw [upd_ne (Ne.symm M.dne)]
      exact I1.hok.fresh M.new
end
/-! calls whose exception finds the slots of the frame -/
section
variable {X : Cx} {CX : CXT} {k i : Nat} {f C : Addr} {sp : Sp} {x : Str} {e fe : Expr} {es : List Expr} {te tf : TE} {t : TA} {p pos : Pos}
theorem run_fnRS {pins : List (Addr × Obj)} {σ : L2.St} {H : Hp} {s : Shared} {Q : VK} {E : XK} {us : List Value} {vs : List V} (F : FnR X.prog X.w X.K X.mg X.base CX k f sp) (hr : Room k X.A) (hx : PassesAt CX X σ E) (I : Inv X pins σ H s) (r : Vals vs us) (h : sp vs H Q E) :
    codeAny (model X.prog X.w) X.A (.call (.ref f) ⟨us, []⟩) (fun r s' => match r with | .ok (.ret v) => EP X pins σ Q v s' | .ok _ => False | .error e => X.xe e s') s := by
  refine codeAny_mono (F X.A X.stack s H us vs Q E hr I.env0 r h) fun r s' hq => ?_
  cases r with
  | error e => exact hx pins H s e s' I hq
  | ok fl =>
    cases fl with
    | ret u => exact I.after hq
    | next => exact False.elim hq
    | brk => exact False.elim hq
    | cont => exact False.elim hq
theorem pe_callRS {E : St → XK} (F : FnR X.prog X.w X.K X.mg X.base CX k f sp) (hr : Room k X.A) (hg : Gl X x) (hm : X.mg x = some (.ref f)) (hk : PySem.W.keepIn X.K (.ref f) = true) (hx : ∀ σ, PassesAt CX X σ (E σ))
    (ha : PA X (e :: es) t) (hdb : (x == ("__debug__" : Str)) = false := by decide) (he : starEach (e :: es) X.env = (false, eval e X.env) :: starEach es X.env := by rfl) (hpl : (backTo pos (starEach es X.env)).any (·.1) = false := by rfl) :
    PE X (.Call (.Name x p) (e :: es) [] pos) (tCallS sp E t) := by
  refine ⟨fun pins s σ H Q I h => ?_⟩
  refine wpAny_Call_Name_kw (ld_glob I hg hm ?_ hdb)
  refine PySem.W.callWith_K (h₀ := X.base) I.ok.mod.kin hk (thn (ha.run pos pins s σ H _ I h) fun us s1 ⟨vs, H1, I1, r, q⟩ => ⟨I1.kIn, ?_⟩) he hpl
  exact wpAny_call (run_fnRS F hr (hx σ) I1 r q)
theorem run_makeRS {pins : List (Addr × Obj)} {σ : L2.St} {H : Hp} {s : Shared} {Q : VK} {E : XK} {us : List Value} {vs : List V} (M : Mk X.K C f) (F : FnR X.prog X.w X.K X.mg X.base CX k f sp) (hr : Room (k + 1) X.A) (hx : PassesAt CX X σ E) (I : Inv X pins σ H s) (r : Vals vs us)
    (h : ∀ x dx, H x = Option.none → H dx = Option.none → dx ≠ x → sp (V.ref x :: vs) (upd (upd H dx (.own x)) x (.ins C dx [])) (fun v H2 => v = .non ∧ Q (.ref x) H2) E) :
    wpAny (model X.prog X.w) X.A (call (.ref C) us) (EP X pins σ Q) X.xe s := by
  have hq := h (s.heap.objs.size + 1) s.heap.objs.size (I.hok.fresh (Nat.le_succ _)) (I.hok.fresh (Nat.le_refl _)) (Nat.ne_of_lt (Nat.lt_succ_self _))
  have I2 := Inv.made (C := C) I
  have r2 : Vals (V.ref (s.heap.objs.size + 1) :: vs) (Value.ref (s.heap.objs.size + 1) :: us) := .cons rfl r
  refine wpAny_call (make_map (f := f) I.kIn M.makes M.init (beq_iff_eq.mp M.fn) (codeAny_mono (F _ X.stack _ _ (Value.ref (s.heap.objs.size + 1) :: us) _ _ E (hr.make C us []) (I2.env0.make C us []) r2 hq) fun r s' hq' => ?_))
  cases r with
  | error e => exact hx pins _ _ e s' I2 hq'
  | ok fl =>
    cases fl with
    | ret u =>
      obtain ⟨v, H', I3, rv, ev, q3⟩ := I2.after hq'
      subst ev
      exact ⟨rv, ⟨V.ref (s.heap.objs.size + 1), H', I3, rfl, q3⟩⟩
    | next => exact False.elim hq'
    | brk => exact False.elim hq'
    | cont => exact False.elim hq'
theorem pe_makeRS {E : St → XK} (M : Mk X.K C f) (F : FnR X.prog X.w X.K X.mg X.base CX k f sp) (hr : Room (k + 1) X.A) (hg : Gl X x) (hm : X.mg x = some (.ref C)) (hx : ∀ σ, PassesAt CX X σ (E σ)) (ha : PA X (e :: es) t) (hdb : (x == ("__debug__" : Str)) = false := by decide)
    (he : starEach (e :: es) X.env = (false, eval e X.env) :: starEach es X.env := by rfl) (hpl : (backTo pos (starEach es X.env)).any (·.1) = false := by rfl) : PE X (.Call (.Name x p) (e :: es) [] pos)
      (fun σ H Q => t σ H fun vs H1 => ∀ x dx, H1 x = Option.none → H1 dx = Option.none → dx ≠ x → sp (V.ref x :: vs) (upd (upd H1 dx (.own x)) x (.ins C dx [])) (fun v H2 => v = .non ∧ Q (.ref x) H2) (E σ)) := by
  refine ⟨fun pins s σ H Q I h => ?_⟩
  refine wpAny_Call_Name_kw (ld_glob I hg hm ?_ hdb)
  refine PySem.W.callWith_K (h₀ := X.base) I.ok.mod.kin M.kp (thn (ha.run pos pins s σ H _ I h) fun us s1 ⟨vs, H1, I1, r, q⟩ => ⟨I1.kIn, ?_⟩) he hpl
  exact run_makeRS M F hr (hx σ) I1 r q
/-- an operation, told of the slots -/
theorem pe_opS {op : Operator} {r : St → R2} {a b : Expr} {ta tb : TE} (ho : ∀ (pins : List (Addr × Obj)) (s : Shared) (σ : St) (H : Hp) (x y : V) (v u : Value) (Q : VK), Inv X pins σ H s → RelV x v → RelV y u → r σ x y H Q → wpAny (model X.prog X.w) X.A (binaryOp op v u) (EP X pins σ Q) X.xe s)
    (ha : PE X a ta) (hb : PE X b tb) : PE X (.BinOp a op b pos) (fun σ H Q => ta σ H fun x H1 => tb σ H1 fun y H2 => r σ x y H2 Q) := by
  refine ⟨fun pins s σ H Q I h => ?_⟩
  exact wpAny_BinOp (binT ha hb I h fun v u s2 x y H2 I2 rx ry q => ho pins s2 σ H2 x y v u Q I2 rx ry q)
theorem pe_unS {op : UnaryOp} {r : St → V → Hp → VK → Prop} {a : Expr} {ta : TE} (ho : ∀ (pins : List (Addr × Obj)) (s : Shared) (σ : St) (H : Hp) (x : V) (v : Value) (Q : VK), Inv X pins σ H s → RelV x v → r σ x H Q → wpAny (model X.prog X.w) X.A (unaryOp op v) (EP X pins σ Q) X.xe s)
    (ha : PE X a ta) : PE X (.UnaryOp op a pos) (fun σ H Q => ta σ H fun x H1 => r σ x H1 Q) := by
  refine ⟨fun pins s σ H Q I h => ?_⟩
  exact UnaryOp_ (thn (ha.run pins s σ H _ I h) fun v s1 ⟨x, H1, I1, r1, q1⟩ => ho pins s1 σ H1 x v Q I1 r1 q1)
end
end L2
namespace DL
open PySem PySem.Spec PyProof.Rows L2 TL
/-! ### contracts -/
/-- an error of the class at C whose field n holds d goes out -/
def spR (K : PySem.W.Frag) (C : Addr) (n : Str) (Ar : Om → List D → D → Prop) : Sp := fun vs H _ E => ∃ (F : Addr → Bool) (L : Om) (ds : List D) (d : D), Bor K F L [] H ∧ RpL K (vis F [] H) vs ds ∧ Ar L ds d ∧
  ∀ dx v H', Same H H' → H' dx = some (.xd [(n, v)]) → Rp K (vis F [] H') v d → E (.ref C) (some dx) H'
def spRI (K : PySem.W.Frag) (C0 C : Addr) (n : Str) (Ar : Om → List D → D → Prop) : Sp := fun vs H _ E => ∃ (F : Addr → Bool) (L : Om) (x dx : Addr) (us : List V) (ds : List D) (d : D), vs = .ref x :: us ∧ Bor K F L [(x, .ins C0 [] [])] H ∧ F x = false ∧
  H x = some (.ins C0 dx []) ∧ RpL K (vis F [(x, .ins C0 [] [])] H) us ds ∧ Ar L ds d ∧
  ∀ ex v H', (∀ a o, a ≠ x → H a = some o → H' a = some o) → H' ex = some (.xd [(n, v)]) → Rp K (vis F [(x, .ins C0 [] [])] H') v d → E (.ref C) (some ex) H'
/-- the post of what raises -/
def aX (C : Addr) (n : Str) (d : D) : AE := { nx := fun _ _ => False, rt := fun _ _ => False, ex := fun C' n' d' _ _ => C' = C ∧ n' = n ∧ d' = d }
/-- an expression that raises -/
def tER (K : PySem.W.Frag) (B : Gd) (ρ : List (Option D)) (O : Om) (C : Addr) (n : Str) (d : D) : TE := fun σ H _ => StOk K B ρ O σ H ∧
  ∀ dx v H', Same H H' → H' dx = some (.xd [(n, v)]) → Rp K (vis B.F O H') v d → B.W (.ref C) (some dx) σ H'
abbrev ER (X : Cx) (B : Gd) (ρ : List (Option D)) (O : Om) (e : Expr) (C : Addr) (n : Str) (d : D) : Prop := PE X e (tER X.K B ρ O C n d)
section
variable {X : Cx} {B : Gd} {ρ : List (Option D)} {O : Om} {d : D} {C C0 f : Addr} {ds fs es' : List D} {k : Nat} {n x : Str} {o a b e : Expr} {es : List Expr} {pos pos2 p apos : Pos} {rest : List Stmt}
theorem has_xd {K : PySem.W.Frag} {H H' : Hp} {dx : Addr} {q : List (Str × V)} (m : MOk K B O H) (e : Same H H') (h : H' dx = some (.xd q)) : has O dx = false := by
  cases z : has O dx with
  | false => rfl
  | true =>
    obtain ⟨mm, hm⟩ := has_mem.mp z
    have r := m.mem dx mm hm
    cases mm with
    | lst ds => obtain ⟨vs, h1, _⟩ := r; rw [e _ _ h1] at h; cases h
    | ins C ns ds => obtain ⟨d', fv, h1, _⟩ := r; rw [e _ _ h1] at h; cases h
    | dk kvs => obtain ⟨kv, h1, _⟩ := r; rw [e _ _ h1] at h; cases h
    | dct ks => obtain ⟨_, _, _, _, h1, _⟩ := r; rw [e _ _ h1] at h; cases h
theorem spR_use {K : PySem.W.Frag} {Ar : Om → List D → D → Prop} {H : Hp} {Q : VK} {E : XK} {vs : List V} (m : MOk K B O H) (r : RpL K (vis B.F O H) vs ds) (h : Ar (B.L ++ O) ds d) (k : ∀ dx v H', Same H H' → H' dx = some (.xd [(n, v)]) → Rp K (vis B.F O H') v d → E (.ref C) (some dx) H') : spR K C n Ar vs H Q E :=
  ⟨frF B O, B.L ++ O, ds, d, bor_of m, by rw [vis_fr]; exact r, h, fun dx v H' e hx r' => k dx v H' e hx (by rw [vis_fr] at r'; exact r')⟩
theorem madeR_use {K : PySem.W.Frag} {Ar : Om → List D → D → Prop} {H : Hp} {Q : VK} {E : XK} {vs : List V} (m : MOk K B O H) (r : RpL K (vis B.F O H) vs ds) (h : Ar (B.L ++ O) ds d)
    (k : ∀ dx v H', Same H H' → H' dx = some (.xd [(n, v)]) → Rp K (vis B.F O H') v d → E (.ref C) (some dx) H') (x dx : Addr) (hx : H x = none) (hdx : H dx = none) (ne : dx ≠ x) :
    spRI K C0 C n Ar (V.ref x :: vs) (upd (upd H dx (.own x)) x (.ins C0 dx [])) Q E := by
  have s1 : Same H (upd (upd H dx (.own x)) x (.ins C0 dx [])) := fun b o e => by
    rw [upd_ne (ne_of_none e hx), upd_ne (ne_of_none e hdx)]
    exact e
  have fx : frF B O x = false := by
    unfold frF
    rw [m.newF hx, m.newO hx]; rfl
  have v1 : Same (vis B.F O H) (vis (frF B O) [(x, .ins C0 [] [])] (upd (upd H dx (.own x)) x (.ins C0 dx []))) := fun a o q => by
    obtain ⟨h1, h2, h3⟩ := vis_some.mp q
    have na : a ≠ x := ne_of_none h3 hx
    refine vis_some.mpr ⟨by unfold frF; rw [h1, h2]; rfl, ?_, s1 _ _ h3⟩
    rw [has_cons]
    show (x == a || false) = false
    rw [Bool.or_false]
    exact beq_eq_false_iff_ne.mpr (Ne.symm na)
  have bo := bor_of m
  refine ⟨frF B O, B.L ++ O, x, dx, vs, ds, d, rfl, ⟨fun a h => let ⟨o, e⟩ := fr_ok m a h; ⟨o, s1 _ _ e⟩, bo.lF, fun a mm hm => (show MRp K (vis B.F O H) H a mm by rw [← vis_fr]; exact bo.lent a mm hm).mono v1 fun o q => s1 _ _ q⟩, fx, upd_same, r.mono v1, h, fun ex v H' hk hex r' => ?_⟩
  have s2 : Same H H' := fun b o e => hk b o (ne_of_none e hx) (s1 b o e)
  refine k ex v H' s2 hex (r'.mono fun a o q => ?_)
  obtain ⟨h1, h2, h3⟩ := vis_some.mp q
  unfold frF at h1
  rw [Bool.or_eq_false_iff] at h1
  exact vis_some.mpr ⟨h1.1, h1.2, h3⟩
/-! ### calls that raise -/
theorem er_call {Ar : Om → List D → D → Prop} (c : Cal X.prog X.w X.K X.mg X.base (L2.CX X.prog X.w) k x (spR X.K C n Ar)) (hr : Room k X.A) (tk : Takes X B.W) (hg : Gl X x) (ha : EA X B ρ O (e :: es) ds) (h : Ar (B.L ++ O) ds d) (hdb : (x == ("__debug__" : Str)) = false := by decide)
    (he : starEach (e :: es) X.env = (false, eval e X.env) :: starEach es X.env := by rfl) (hpl : (backTo pos (starEach es X.env)).any (·.1) = false := by rfl) : ER X B ρ O (.Call (.Name x p) (e :: es) [] pos) C n d := by
  obtain ⟨f, F, hm⟩ := c.ex
  exact pe_imp (pe_callRS (E := WE B.W) F.raw hr hg hm F.kp (fun σ => passAt tk σ) ha hdb he hpl) fun σ H Q ⟨st, k⟩ => ⟨st, fun vs H1 e1 r1 => spR_use (st.same e1).m r1 h fun dx v H2 e2 hx r2 => k dx v H2 (e1.trans e2) hx r2⟩
theorem er_make {Ar : Om → List D → D → Prop} (Mk : Mk X.K C0 f) (F : Fok X.prog X.w X.K X.mg X.base (L2.CX X.prog X.w) k f (spRI X.K C0 C n Ar)) (hr : Room (k + 1) X.A) (tk : Takes X B.W) (hg : Gl X x) (hm : X.mg x = some (.ref C0)) (ha : EA X B ρ O (e :: es) ds) (h : Ar (B.L ++ O) ds d) (hdb : (x == ("__debug__" : Str)) = false := by decide)
    (he : starEach (e :: es) X.env = (false, eval e X.env) :: starEach es X.env := by rfl) (hpl : (backTo pos (starEach es X.env)).any (·.1) = false := by rfl) : ER X B ρ O (.Call (.Name x p) (e :: es) [] pos) C n d :=
  pe_imp (pe_makeRS (E := WE B.W) Mk F.raw hr hg hm (fun σ => passAt tk σ) ha hdb he hpl) fun σ H Q ⟨st, k⟩ => ⟨st, fun vs H1 e1 r1 y dy hy hdy ne => madeR_use (st.same e1).m r1 h (fun dx v H2 e2 hx r2 => k dx v H2 (e1.trans e2) hx r2) y dy hy hdy ne⟩
theorem backE {pins : List (Addr × Obj)} {σ : L2.St} {Q Q' : VK} {v : Value} {s' : Shared} (h : EP X pins σ Q v s') (k : ∀ x H, Q x H → False) : PySem.W.CmpBack (EP X pins σ Q') v s' := by
  obtain ⟨x, H', I, r, q⟩ := h
  exact (k _ _ q).elim
/-- .. by an operator -/
theorem er_binO {op : Operator} {Ar : Om → List D → D → Prop} {ns ns' : List Str} {ds' : List D} (ha : EV X B ρ O a (.obj C0 ns ds)) (hb : EV X B ρ O b (.obj C0 ns' ds')) (bo : BinOf X.K C0 op.info.2 f) (F : Fok X.prog X.w X.K X.mg X.base (L2.CX X.prog X.w) k f (spR X.K C n Ar)) (hr : Room k X.A) (tk : Takes X B.W)
    (h : Ar (B.L ++ O) [.obj C0 ns ds, .obj C0 ns' ds'] d) : ER X B ρ O (.BinOp a op b pos) C n d :=
  pe_imp (pe_opS (r := fun σ x y H _ => ∃ p q, x = .ref p ∧ y = .ref q ∧ StX.InsC X H p C0 ∧ StX.InsC X H q C0 ∧ spR X.K C n Ar [.ref p, .ref q] H (fun _ _ => False) (WE B.W σ)) (fun pins s σ H x y v u Q I rx ry h => by
    obtain ⟨p, q, rfl, rfl, h1, h2, h3⟩ := h
    cases rx
    cases ry
    obtain ⟨ox, od, J, _⟩ := StX.insC_at I h1
    obtain ⟨ox2, od2, J2, _⟩ := StX.insC_at I h2
    refine PySem.W.dl_binI I.kIn J J2 bo.sf bo.at_ bo.fn ?_
    exact wpAny_mono (wpAny_call (run_fnRS (us := [.ref p, .ref q]) (vs := [.ref p, .ref q]) F.raw hr (passAt tk σ) I (.cons rfl (.cons rfl .nil)) h3)) (fun v s' hv => backE hv fun _ _ z => z) fun _ _ e => e) ha hb) fun σ H Q ⟨st, k⟩ => ⟨st, fun v H1 e1 r1 => ⟨st.same e1, fun u H2 e2 r2 => by
    have r1' := r1.mono (vis_same e2)
    cases r1' with
    | obj h1 h2 h3 =>
      cases r2 with
      | obj g1 g2 g3 =>
        exact ⟨_, _, rfl, rfl, .inr ⟨_, _, vis_le _ _ h1⟩, .inr ⟨_, _, vis_le _ _ g1⟩, spR_use ((st.same e1).same e2).m (.cons (Rp.obj h1 h2 h3) (.cons (Rp.obj g1 g2 g3) .nil)) h fun dx w H3 e3 hx r3 => k dx w H3 ((e1.trans e2).trans e3) hx r3⟩⟩⟩
theorem er_unO {op : UnaryOp} {nm : Str} {Ar : Om → List D → D → Prop} {ns : List Str} (ho : (op = .USub ∧ nm = "__neg__") ∨ (op = .Invert ∧ nm = "__invert__")) (ha : EV X B ρ O a (.obj C0 ns ds)) (mt : Meth X.K C0 nm f) (F : Fok X.prog X.w X.K X.mg X.base (L2.CX X.prog X.w) k f (spR X.K C n Ar)) (hr : Room k X.A) (tk : Takes X B.W)
    (h : Ar (B.L ++ O) [.obj C0 ns ds] d) : ER X B ρ O (.UnaryOp op a pos) C n d :=
  pe_imp (pe_unS (r := fun σ x H _ => ∃ p, x = .ref p ∧ StX.InsC X H p C0 ∧ spR X.K C n Ar [.ref p] H (fun _ _ => False) (WE B.W σ)) (fun pins s σ H x v Q I rx h => by
    obtain ⟨p, rfl, g1, g3⟩ := h
    cases rx
    obtain ⟨ox, od, J, _⟩ := StX.insC_at I g1
    have run := wpAny_call (run_fnRS (us := [.ref p]) (vs := [.ref p]) F.raw hr (passAt tk σ) I (.cons rfl .nil) g3)
    rcases ho with ⟨rfl, rfl⟩ | ⟨rfl, rfl⟩
    · unfold unaryOp
      refine wpAny_holding (wpAny_bind (PySem.W.special_fn I.kIn J mt.at_ (beq_iff_eq.mp mt.fn) (wpAny_mono run (fun _ _ z => ?_) fun _ _ z => z)))
      obtain ⟨_, _, _, _, q⟩ := z; exact q.elim
    · unfold unaryOp
      refine wpAny_holding (wpAny_bind (PySem.W.special_fn I.kIn J mt.at_ (beq_iff_eq.mp mt.fn) (wpAny_mono run (fun _ _ z => ?_) fun _ _ z => z)))
      obtain ⟨_, _, _, _, q⟩ := z; exact q.elim) ha) fun σ H Q ⟨st, k⟩ => ⟨st, fun v H1 e1 r1 => by
    cases r1 with
    | obj h1 h2 h3 => exact ⟨_, rfl, .inr ⟨_, _, vis_le _ _ h1⟩, spR_use (st.same e1).m (.cons (Rp.obj h1 h2 h3) .nil) h fun dx w H3 e3 hx r3 => k dx w H3 (e1.trans e3) hx r3⟩⟩
/-- .. by a classmethod -/
theorem er_cmeth {Ar : Om → List D → D → Prop} {m : Str} {mc : Value} {pp g : Addr} {es' : List D} (he : EV X B ρ O o (.rf C0)) (rd : ClX.CRead X.K C0 mc) (c : ClX.CMet X.K C0 mc m pp g) (F : Fok X.prog X.w X.K X.mg X.base (L2.CX X.prog X.w) k g (spR X.K C n Ar)) (hr : Room k X.A) (tk : Takes X B.W) (ha : EA X B ρ O (e :: es) es')
    (h : Ar (B.L ++ O) (.rf C0 :: es') d) (pl : Sem Bool)
    (hst : starEach (e :: es) X.env = (false, eval e X.env) :: starEach es X.env := by rfl) (hpl : (backTo pos (starEach es X.env)).any (·.1) = false := by rfl)
    (ht : eval (.Call (.Attribute o m apos) (e :: es) [] pos) X.env = (do
      let ov ← eval o X.env
      standAt apos.atName
      let (f, first) ← holding [ov] (getMethod ov m pl)
      callWith pos f first (backTo pos (starEach (e :: es) X.env)) (backToKw pos (keywordEach [] X.env))) := by rfl) :
    ER X B ρ O (.Call (.Attribute o m apos) (e :: es) [] pos) C n d := by
  have z : PE X (.Call (.Attribute o m apos) (e :: es) [] pos) (fun σ H Q => tD X.K B ρ O (.rf C0) σ H fun x H1 => x = .ref C0 ∧ tA X.K B ρ O es' σ H1 fun vs H2 => spR X.K C n Ar (.ref C0 :: vs) H2 Q (WE B.W σ)) := by
    refine ⟨fun pins s σ H Q I h => ?_⟩
    refine PySem.W.methodCall_KW (pl := pl) (thn (he.run pins s σ H _ I h) fun u s1 ⟨x, H1, I1, rx, ex, q⟩ => ?_) ht
    subst ex
    obtain rfl : u = Value.ref C0 := rx
    refine ClX.getmethcm_ok I1 rd c fun s2 I2 => ?_
    refine ClX.callwith_cm I2 (ClX.base_none I1 (Nat.le_refl _)) c.fi (thn (ha.run pos _ s2 σ H1 _ I2 q) fun us s3 ⟨vs, H2, I3, rv, q2⟩ => ⟨⟨ClX.pin_at I3, I3.kIn⟩, ?_⟩) hst hpl
    exact thn (wpAny_call (PySem.W.method_call (ClX.pin_at I3) (run_fnRS (us := .ref C0 :: us) (vs := .ref C0 :: vs) F.raw hr (passAt tk σ) I3 (.cons rfl rv) q2))) fun _ _ y => ClX.unpinE y
  exact pe_imp z fun σ H Q ⟨st, k⟩ => ⟨st, fun v H1 e1 r1 => by
    cases r1
    exact ⟨rfl, st.same e1, fun vs H2 e2 r2 => spR_use ((st.same e1).same e2).m (.cons (.rf C0) r2) h fun dx w H3 e3 hx r3 => k dx w H3 ((e1.trans e2).trans e3) hx r3⟩⟩
/-! ### statements that raise -/
theorem j_raise {A : AE} {x : Str} {a : Expr} {fI : Addr} (hc : X.calm = true) (T : PySem.ErX.ErrT X.prog X.K X.mg C fI n) (gC : X.mg x = some (.ref C)) (hr : Room k X.A) (tk : Takes X B.W) (hg : Gl X x) (ha : EV X B ρ O a d) (hdb : (x == ("__debug__" : Str)) = false := by decide)
    (he : starEach (a :: []) X.env = (false, eval a X.env) :: starEach [] X.env := by rfl) (hpl : (backTo pos (starEach [] X.env)).any (·.1) = false := by rfl) (h : A.ex C n d ρ O) : J1 X B (.Raise (some (.Call (.Name x p) [a] [] pos)) none pos2) ρ O A :=
  ps_imp (ps_raise hc tk (pmk_err T gC hr (ea_cons ha ea_nil he) hg hdb he hpl)) fun Dn σ H ⟨st, pp⟩ => ⟨st, fun vs H1 e1 r1 => by
    cases r1 with
    | @cons v0 vs0 d0 ds0 r rn =>
      cases rn
      refine ⟨v0, rfl, fun dx hdx => ?_⟩
      have e2 : Same H1 (upd H1 dx (.xd [(n, v0)])) := same_new hdx
      exact pp.ex C n d ρ O σ _ dx _ h ((st.same e1).same e2) (vis_same (e1.trans e2)) upd_same (has_xd (st.same e1).m e2 upd_same) (r.mono (vis_same e2))⟩
theorem j_retR {A : AE} (he : ER X B ρ O e C n d) (h : A.ex C n d ρ O) : J1 X B (.Return (some e) pos) ρ O A :=
  ps_imp (ps_ret he) fun Dn σ H ⟨st, pp⟩ => ⟨st, fun dx v H1 e1 hx r1 => pp.ex C n d ρ O σ H1 dx v h (st.same e1) (vis_same e1) hx (has_xd st.m e1 hx) r1⟩
theorem j_setR {A : AE} {i : Nat} {x : Str} {pos' : Pos} (hN : X.N.Nodup) (hi : X.N[i]? = some x) (hx : Loc X.env.scope x) (he : ER X B ρ O e C n d) (hs : swapsWith e (some (.Name x pos')) pos.line X.env = pure false) (hf : X.fn x = true ∨ X.env.scope.names.lookup x = some .local) (h : A.ex C n d ρ O) : J1 X B (.Assign [.Name x pos'] e pos) ρ O A :=
  ps_imp (ps_set hN hi hx he hs hf) fun Dn σ H ⟨st, pp⟩ => ⟨st, fun dx v H1 e1 hx r1 => pp.ex C n d ρ O σ H1 dx v h (st.same e1) (vis_same e1) hx (has_xd st.m e1 hx) r1⟩
theorem j_exprR {A : AE} (he : ER X B ρ O e C n d) (h : A.ex C n d ρ O) (hs : swapsWith e none pos.line X.env = pure false := by rfl) : J1 X B (.Expr e pos) ρ O A :=
  ps_imp (ps_expr he hs) fun Dn σ H ⟨st, pp⟩ => ⟨st, fun dx v H1 e1 hx r1 => pp.ex C n d ρ O σ H1 dx v h (st.same e1) (vis_same e1) hx (has_xd st.m e1 hx) r1⟩
end
end DL

set_option Elab.async false
set_option linter.all false
set_option maxRecDepth 100000
set_option maxHeartbeats 4000000
namespace DL
open PySem PySem.Spec PyProof.Rows L2 TL
/-! ### a def that may raise -/
inductive Out where
  | val (d : D)
  | exn (C : Addr) (n : Str) (d : D)
inductive OutI where
  | val (ns : List Str) (fs : List D)
  | exn (C : Addr) (n : Str) (d : D)
def FlatD (d : D) : Prop := (∃ i, d = .int i) ∨ ∃ z, d = .str z
theorem flat_rp {K : PySem.W.Frag} {H H' : Hp} {v : V} {d : D} (f : FlatD d) (r : Rp K H v d) : Rp K H' v d := by
  rcases f with ⟨i, rfl⟩ | ⟨z, rfl⟩
  · cases r; exact .int i
  · cases r; exact .str z
def postX : Out → AE
  | .val d => { nx := fun _ O' => Frz O' .non d, rt := fun d' O' => Frz O' d' d }
  | .exn C n d => aX C n d
def spX (K : PySem.W.Frag) (Ar : Om → List D → Out → Prop) : Sp := fun vs H Q E => ∃ (F : Addr → Bool) (L : Om) (ds : List D) (out : Out), Bor K F L [] H ∧ RpL K (vis F [] H) vs ds ∧ Ar L ds out ∧
  match out with
  | .val d => ∀ v H', Same H H' → Rp K (vis F [] H') v d → Q v H'
  | .exn C n d => ∀ dx v H', Same H H' → H' dx = some (.xd [(n, v)]) → Rp K (vis F [] H') v d → E (.ref C) (some dx) H'
def spXI (K : PySem.W.Frag) (C0 : Addr) (Ar : Om → List D → OutI → Prop) : Sp := fun vs H Q E => ∃ (F : Addr → Bool) (L : Om) (x dx : Addr) (us : List V) (ds : List D) (out : OutI), vs = .ref x :: us ∧ Bor K F L [(x, .ins C0 [] [])] H ∧ F x = false ∧
  H x = some (.ins C0 dx []) ∧ RpL K (vis F [(x, .ins C0 [] [])] H) us ds ∧ Ar L ds out ∧
  match out with
  | .val ns fs => ∀ H' dx' fv, (∀ a o, a ≠ x → H a = some o → H' a = some o) → H' x = some (.ins C0 dx' fv) → fv.map (·.1) = ns → RpL K (vis F [(x, .ins C0 [] [])] H') (fv.map (·.2)) fs → Q .non H'
  | .exn C n d => FlatD d ∧ ∀ ex v H', (∀ a o, a ≠ x → H a = some o → H' a = some o) → H' ex = some (.xd [(n, v)]) → Rp K (vis F [(x, .ins C0 [] [])] H') v d → E (.ref C) (some ex) H'
section
variable {P : Program} {w : World} {K : PySem.W.Frag} {mg : Str → Option Value} {base : Heap}
/-- what never raises is as good as a calm def -/
theorem calm_fn {CX : CXT} {k : Nat} {f : Addr} {fd : FuncData} {ps : List Str} {sp : Sp} (F : FnOk P w K mg base (L2.CX P w) k f fd ps sp) (h : ∀ vs H Q E E', sp vs H Q E → sp vs H Q E') : FnOk P w K mg base CX0 k f fd ps sp :=
  ⟨F.len, fun A outer s H args us vs Q E hr he hb hv hs => codeAny_mono (F.run A outer s H args us vs Q E0 hr he hb hv (h _ _ _ _ _ hs)) fun r s' q => by
    cases r with
    | ok fl =>
      cases fl with
      | ret u => exact q
      | next => exact q
      | brk => exact q
      | cont => exact q
    | error e =>
      obtain ⟨_, _, _, _, _, _, _, _, _, _, _, _, z⟩ := q
      exact z.elim⟩
theorem spX_P {CX : CXT} {k : Nat} {f : Addr} {fd : FuncData} {ps : List Str} {Ar : Om → List D → Out → Prop} (F : FnOk P w K mg base CX k f fd ps (spX K Ar)) : FnOk P w K mg base CX k f fd ps (spP K fun L ds d => Ar L ds (.val d)) :=
  F.imp fun vs H Q E ⟨F', L, ds, d, a, b, c, e⟩ => ⟨F', L, ds, .val d, a, b, c, e⟩
theorem spX_R {CX : CXT} {k : Nat} {f C : Addr} {n : Str} {fd : FuncData} {ps : List Str} {Ar : Om → List D → Out → Prop} (F : FnOk P w K mg base CX k f fd ps (spX K Ar)) : FnOk P w K mg base CX k f fd ps (spR K C n fun L ds d => Ar L ds (.exn C n d)) :=
  F.imp fun vs H Q E ⟨F', L, ds, d, a, b, c, e⟩ => ⟨F', L, ds, .exn C n d, a, b, c, e⟩
theorem spXI_I {CX : CXT} {k : Nat} {f C0 : Addr} {fd : FuncData} {ps : List Str} {Ar : Om → List D → OutI → Prop} (F : FnOk P w K mg base CX k f fd ps (spXI K C0 Ar)) : FnOk P w K mg base CX k f fd ps (spI K C0 fun L ds ns fs => Ar L ds (.val ns fs)) :=
  F.imp fun vs H Q E ⟨F', L, x, dx, us, ds, ns, fs, a, b, c, e, g, h, i⟩ => ⟨F', L, x, dx, us, ds, .val ns fs, a, b, c, e, g, h, i⟩
theorem spXI_R {CX : CXT} {k : Nat} {f C0 C : Addr} {n : Str} {fd : FuncData} {ps : List Str} {Ar : Om → List D → OutI → Prop} (F : FnOk P w K mg base CX k f fd ps (spXI K C0 Ar)) : FnOk P w K mg base CX k f fd ps (spRI K C0 C n fun L ds d => Ar L ds (.exn C n d) ∧ FlatD d) :=
  F.imp fun vs H Q E ⟨F', L, x, dx, us, ds, d, a, b, c, e, g, h, i⟩ => ⟨F', L, x, dx, us, ds, .exn C n d, a, b, c, e, g, h.1, h.2, i⟩
theorem fn_pureX {Ar : Om → List D → Out → Prop} {x qual : Str} {st : Stmt} {f : Addr} {fd : FuncData} {N ps : List Str} {k : Nat} (F : Fun K x qual st f fd) (S : FnScope N ps (defScope st)) (len : ∀ L ds d, Ar L ds d → ds.length = ps.length)
    (h : ∀ (cdv : Value) (A : Around) (outer : List Env) (s : Shared) (H : Hp) (E : XK) (B : Gd) (ds : List D) (out : Out), Room k (A.deeper (envOfC qual (defScope st) s.heap.objs.size f cdv)) → Takes (cxOf (L2.CX P w) P w K mg base N qual (defScope st) f cdv A outer s H E) B.W →
      PassesOwn (model P w) (cxOf (L2.CX P w) P w K mg base N qual (defScope st) f cdv A outer s H E).A (cxOf (L2.CX P w) P w K mg base N qual (defScope st) f cdv A outer s H E).env (cxOf (L2.CX P w) P w K mg base N qual (defScope st) f cdv A outer s H E).xe → Ar B.L ds out →
      J (cxOf (L2.CX P w) P w K mg base N qual (defScope st) f cdv A outer s H E) B (defBody st) (startD N ds) [] (postX out)) : FnOk P w K mg base (L2.CX P w) (k + 1) f fd ps (spX K Ar) := by
  refine F.okX S (fun vs H Q E q => ?_) (fun cdv A outer s H vs Q E hr q => ?_)
  · obtain ⟨F', L, ds, d, _, r, ha, _⟩ := q
    rw [r.length]; exact len L ds d ha
  · obtain ⟨F', L, ds, out, bo, r, ha, kk⟩ := q
    refine ⟨_, h cdv A outer s H E ⟨F', H, fun c d _ H => E c d H, L, bo.ok, bo.lF⟩ ds out hr (takes_of rfl rfl rfl rfl) (passes_of rfl) ha, ⟨⟨fun a o e => ⟨e, rfl⟩, (fun a m hm => nomatch hm), (by simp), bo.lent⟩, start_env r⟩, ?_⟩
    cases out with
    | val d =>
      refine ⟨?_, ?_, fun _ _ _ _ z => z.elim, fun _ _ _ _ z => z.elim, fun _ _ _ _ _ _ _ _ _ z => z.elim⟩
      · intro ρ O σ H' fz s' _
        exact kk _ H' (fun a o q => (s'.m.base a o q).1) (Rp.frz vis_all s'.m.frz fz .non)
      · intro d' O' v H' fz m r'
        exact kk v H' (fun a o q => (m.base a o q).1) (Rp.frz vis_all m.frz fz r')
    | exn C n d =>
      refine ⟨fun _ _ _ _ z => z.elim, fun _ _ _ _ z => z.elim, fun _ _ _ _ z => z.elim, fun _ _ _ _ z => z.elim, ?_⟩
      rintro C' n' d' ρ O σ H' dx v ⟨rfl, rfl, rfl⟩ s' _ hx _ r'
      exact kk dx v H' (fun a o q => (s'.m.base a o q).1) hx (r'.mono vis_all)
theorem fn_initX {C0 : Addr} {Ar : Om → List D → OutI → Prop} {x qual : Str} {st : Stmt} {f : Addr} {fd : FuncData} {N ps : List Str} {k : Nat} (F : Fun K x qual st f fd) (S : FnScope N ps (defScope st)) (len : ∀ L ds out, Ar L ds out → ds.length + 1 = ps.length)
    (h : ∀ (cdv : Value) (A : Around) (outer : List Env) (s : Shared) (H : Hp) (E : XK) (B : Gd) (x : Addr) (ds : List D) (out : OutI), Room k (A.deeper (envOfC qual (defScope st) s.heap.objs.size f cdv)) → Takes (cxOf (L2.CX P w) P w K mg base N qual (defScope st) f cdv A outer s H E) B.W →
      PassesOwn (model P w) (cxOf (L2.CX P w) P w K mg base N qual (defScope st) f cdv A outer s H E).A (cxOf (L2.CX P w) P w K mg base N qual (defScope st) f cdv A outer s H E).env (cxOf (L2.CX P w) P w K mg base N qual (defScope st) f cdv A outer s H E).xe → Ar B.L ds out →
      J (cxOf (L2.CX P w) P w K mg base N qual (defScope st) f cdv A outer s H E) B (defBody st) (startD N (.rf x :: ds)) [(x, .ins C0 [] [])] (match out with
        | .val ns fs => { nx := fun _ O' => ∃ fs' O1, O' = O1 ++ [(x, .ins C0 ns fs')] ∧ FrzL O1 fs' fs, rt := fun _ _ => False }
        | .exn C n d => aX C n d)) : FnOk P w K mg base (L2.CX P w) (k + 1) f fd ps (spXI K C0 Ar) := by
  refine F.okX S (fun vs H Q E q => ?_) (fun cdv A outer s H vs Q E hr q => ?_)
  · obtain ⟨F', L, x, dx, us, ds, out, rfl, _, _, _, r, ha, _⟩ := q
    rw [List.length_cons, r.length]; exact len L ds out ha
  · obtain ⟨F', L, x, dx, us, ds, out, rfl, bo, fx, hx, r, ha, kk⟩ := q
    let Hb : Hp := fun a => if a = x then none else H a
    have hbx : ∀ a o, Hb a = some o → a ≠ x ∧ H a = some o := fun a o e => by
      have e' : (if a = x then none else H a) = some o := e
      by_cases q : a = x
      · rw [if_pos q] at e'; cases e'
      · rw [if_neg q] at e'; exact ⟨q, e'⟩
    have hF' : ∀ a, F' a = true → ∃ o, Hb a = some o := fun a h => by
      obtain ⟨o, e⟩ := bo.ok a h
      have ne : a ≠ x := fun z => by rw [z, fx] at h; cases h
      exact ⟨o, by show (if a = x then none else H a) = _; rw [if_neg ne]; exact e⟩
    have hS : ∀ {ρ O σ H'}, StOk K ⟨F', Hb, fun c d _ H => E c d H, L, hF', bo.lF⟩ ρ O σ H' → ∀ a o, a ≠ x → H a = some o → H' a = some o := fun s' a o na q => (s'.m.base a o (by show (if a = x then none else H a) = _; rw [if_neg na]; exact q)).1
    refine ⟨_, h cdv A outer s H E ⟨F', Hb, fun c d _ H => E c d H, L, hF', bo.lF⟩ x ds out hr (takes_of rfl rfl rfl rfl) (passes_of rfl) ha, ⟨⟨fun a o e => ?_, fun a m hm => ?_, by simp, bo.lent⟩, start_env (.cons (.rf x) r)⟩, ?_⟩
    · obtain ⟨n, e⟩ := hbx a o e
      refine ⟨e, ?_⟩
      show (x == a || false) = false
      rw [Bool.or_false]
      exact beq_eq_false_iff_ne.mpr (Ne.symm n)
    · cases List.mem_singleton.mp hm
      exact ⟨dx, [], hx, rfl, .nil⟩
    · cases out with
      | exn C n d =>
        refine ⟨fun _ _ _ _ z => z.elim, fun _ _ _ _ z => z.elim, fun _ _ _ _ z => z.elim, fun _ _ _ _ z => z.elim, ?_⟩
        rintro C' n' d' ρ O σ H' ex v ⟨rfl, rfl, rfl⟩ s' _ hex _ r'
        exact kk.2 ex v H' (hS s') hex (flat_rp kk.1 r')
      | val ns fs =>
        refine ⟨?_, fun _ _ _ _ z => z.elim, fun _ _ _ _ z => z.elim, fun _ _ _ _ z => z.elim, fun _ _ _ _ _ _ _ _ _ z => z.elim⟩
        rintro ρ O' σ H' ⟨fs', O1, rfl, fz⟩ s' _
        obtain ⟨dx', fv, h1, h2, h3⟩ := s'.m.mem x _ (List.mem_append_right _ List.mem_cons_self)
        have nd := s'.m.nd
        rw [List.map_append, List.nodup_append] at nd
        have nx : ∀ p m, (p, m) ∈ O1 → p ≠ x := fun p m hp => nd.2.2 p (List.mem_map_of_mem (f := (·.1)) hp) x (by simp)
        have e1 : Same (vis F' (O1 ++ [(x, .ins C0 ns fs')]) H') (vis F' [(x, .ins C0 [] [])] H') := fun a o q => by
          obtain ⟨q1, q2, q3⟩ := vis_some.mp q
          refine vis_some.mpr ⟨q1, ?_, q3⟩
          unfold has at q2 ⊢
          rw [List.any_append, Bool.or_eq_false_iff] at q2
          exact q2.2
        refine kk H' dx' fv (hS s') h1 h2 (RpL.frz e1 (fun p m hp => ?_) fz h3)
        refine (s'.m.mem p m (List.mem_append_left _ hp)).mono (Same.refl _) fun o q => ?_
        have q' := s'.m.visM (has_mem.mpr ⟨m, List.mem_append_left _ hp⟩) q
        obtain ⟨g1, _, g3⟩ := vis_some.mp q'
        refine vis_some.mpr ⟨g1, ?_, g3⟩
        show (x == p || false) = false
        rw [Bool.or_false]
        exact beq_eq_false_iff_ne.mpr (Ne.symm (nx p m hp))
end
end DL

set_option Elab.async false
set_option linter.all false
set_option maxRecDepth 100000
set_option maxHeartbeats 4000000
namespace DL
open PySem PySem.Spec PyProof.Rows L2 TL
/-! ### mirrors of what raises -/
/-- where an error's class lies, how its field is called -/
abbrev ErrTab := Nat → Addr × Str
/-- the post of an error: at the slots ρ0, with the mutables O0 -/
def exq (ce : ErrTab) : Exn → Addr → Str → D → List (Option D) → Om → Prop := fun er C n d _ _ => C = (ce er.c).1 ∧ n = (ce er.c).2 ∧ d = er.d
def exq0 (ce : ErrTab) (ρ0 : List (Option D)) (O0 : Om) : Exn → Addr → Str → D → List (Option D) → Om → Prop := fun er C n d ρ O => (C = (ce er.c).1 ∧ n = (ce er.c).2 ∧ d = er.d) ∧ Wk ρ0 ρ ∧ O = O0
section
variable {α β S S2 L R : Type}
/-- a call's value, or its error -/
def Cmp.bindX (m : Cmp (Ctl Unit Unit α)) (k : α → Cmp (Ctl S L R)) : Cmp (Ctl S L R) := m.bind fun c => match c with
  | .rt v => k v
  | .ex e => .ret (.ex e)
  | _ => ⟨False, .ex ⟨0, .non⟩⟩
/-- the calm part: the value -/
def Cmp.calm [Inhabited α] (m : Cmp (Ctl Unit Unit α)) : Cmp α := m.bind fun c => match c with
  | .rt v => .ret v
  | _ => .bad
/-- what an __init__'s walk gives -/
def Cmp.made (m : Cmp (Ctl α Unit Unit)) : Cmp (Ctl Unit Unit α) := m.bind fun c => match c with
  | .nx v => .ret (.rt v)
  | .ex e => .ret (.ex e)
  | _ => ⟨False, .ex ⟨0, .non⟩⟩
def tryM (m : Cmp (Ctl S L R)) (h : Exn → Cmp R) : Cmp (Ctl S L R) := m.bind fun c => match c with
  | .ex e => (h e).bind fun r => .ret (.rt r)
  | c => .ret c
theorem bindX_rt {m : Cmp (Ctl Unit Unit α)} {k : α → Cmp (Ctl S L R)} {v : α} (h : m.val = .rt v) : (m.bindX k).ok = (m.ok ∧ (k v).ok) ∧ (m.bindX k).val = (k v).val := by
  unfold Cmp.bindX Cmp.bind; rw [h]; exact ⟨rfl, rfl⟩
theorem bindX_ex {m : Cmp (Ctl Unit Unit α)} {k : α → Cmp (Ctl S L R)} {e : Exn} (h : m.val = .ex e) : (m.bindX k).val = .ex e := by
  unfold Cmp.bindX Cmp.bind; rw [h]
theorem bindX_ok {m : Cmp (Ctl Unit Unit α)} {k : α → Cmp (Ctl S L R)} (h : (m.bindX k).ok) : m.ok ∧ ((∃ v, m.val = .rt v ∧ (k v).ok) ∨ ∃ e, m.val = .ex e) := by
  obtain ⟨h1, h2⟩ := h
  refine ⟨h1, ?_⟩
  cases q : m.val with
  | rt v => rw [q] at h2; exact .inl ⟨v, rfl, h2⟩
  | ex e => exact .inr ⟨e, rfl⟩
  | nx s => rw [q] at h2; exact h2.elim
  | bk s => rw [q] at h2; exact h2.elim
  | ct s => rw [q] at h2; exact h2.elim
end
section
variable {X : Cx} {B : Gd} {ρ ρ0 : List (Option D)} {O O0 : Om} {a b e : Expr} {es : List Expr} {d : D} {pos pos2 pos' np p : Pos} {rest body suite : List Stmt} {b₀ : Stmt} {x nm n : Str} {k i : Nat} {C fI : Addr} {ce : ErrTab}
variable {α β S S2 L R : Type} {st : S → List (Option D) → Om → Prop} {sl : L → List (Option D) → Om → Prop} {rt : R → D → Om → Prop} {ex : Exn → Addr → Str → D → List (Option D) → Om → Prop}
theorem exq_rfl {er : Exn} : exq ce er (ce er.c).1 (ce er.c).2 er.d ρ O := ⟨rfl, rfl, rfl⟩
theorem exq0_rfl {er : Exn} : exq0 ce ρ O er (ce er.c).1 (ce er.c).2 er.d ρ O := ⟨⟨rfl, rfl, rfl⟩, wk_refl, rfl⟩
theorem jc_raise {A : Ctl S L R → AE} {er : Nat} {m : D} (hc : X.calm = true) (T : PySem.ErX.ErrT X.prog X.K X.mg (ce er).1 fI (ce er).2) (gC : X.mg x = some (.ref (ce er).1)) (hr : Room k X.A) (tk : Takes X B.W) (hg : Gl X x) (ha : EV X B ρ O a d) (hex : (A (.ex ⟨er, d⟩)).ex (ce er).1 (ce er).2 d ρ O) (hdb : (x == ("__debug__" : Str)) = false := by decide)
    (he : starEach (a :: []) X.env = (false, eval a X.env) :: starEach [] X.env := by rfl) (hpl : (backTo pos (starEach [] X.env)).any (·.1) = false := by rfl) : JC X B (.Raise (some (.Call (.Name x p) [a] [] pos)) none pos2 :: rest) ρ O A (.ret (.ex ⟨er, d⟩)) := fun _ =>
  j_cons (j_raise hc T gC hr tk hg ha hdb he hpl hex)
theorem jc_retX {A : Ctl S L R → AE} {m : Cmp (Ctl Unit Unit β)} {E : β → D} {f : β → R} (hv : ∀ v, m.ok → m.val = .rt v → EV X B ρ O e (E v)) (hx : ∀ er, m.ok → m.val = .ex er → ER X B ρ O e (ce er.c).1 (ce er.c).2 er.d) (hrt : ∀ v, (A (.rt (f v))).rt (E v) O) (hex : ∀ er, (A (.ex er)).ex (ce er.c).1 (ce er.c).2 er.d ρ O) :
    JC X B (.Return (some e) pos :: rest) ρ O A (m.bindX fun v => .ret (.rt (f v))) := fun ok => by
  obtain ⟨ok1, ⟨v, hm, _⟩ | ⟨er, hm⟩⟩ := bindX_ok ok
  · rw [(bindX_rt hm).2]
    exact j_cons (j_ret (hv v ok1 hm) (hrt v))
  · rw [bindX_ex hm]
    exact j_cons (j_retR (hx er ok1 hm) (hex er))
theorem jc_setX {A : Ctl S L R → AE} {m : Cmp (Ctl Unit Unit β)} {E : β → D} {f : β → Cmp (Ctl S L R)} (i : Nat) (nd : X.N.Nodup) (hv : ∀ v, m.ok → m.val = .rt v → EV X B ρ O e (E v)) (hx : ∀ er, m.ok → m.val = .ex er → ER X B ρ O e (ce er.c).1 (ce er.c).2 er.d)
    (h : ∀ y, JC X B rest (ρ.set i (some (E y))) O A (f y)) (hex : ∀ er, (A (.ex er)).ex (ce er.c).1 (ce er.c).2 er.d ρ O) (hi : X.N[i]? = some x := by rfl) (hl : Loc X.env.scope x := by first | exact .inl rfl | exact .inr rfl) (hf : X.fn x = true ∨ X.env.scope.names.lookup x = some .local := by first | exact .inr rfl | exact .inl rfl) (hs : swapsWith e (some (.Name x pos')) pos.line X.env = pure false := by rfl) :
    JC X B (.Assign [.Name x pos'] e pos :: rest) ρ O A (m.bindX f) := fun ok => by
  obtain ⟨ok1, ⟨v, hm, ok2⟩ | ⟨er, hm⟩⟩ := bindX_ok ok
  · rw [(bindX_rt hm).2]
    exact j_cons (j_set nd hi hl (hv v ok1 hm) hs hf (h v ok2))
  · rw [bindX_ex hm]
    exact j_cons (j_setR nd hi hl (hx er ok1 hm) hs hf (hex er))
theorem jc_exprX {A : Ctl S L R → AE} {m : Cmp (Ctl Unit Unit β)} {E : β → D} {f : Cmp (Ctl S L R)} (hv : ∀ v, m.ok → m.val = .rt v → EV X B ρ O e (E v)) (hx : ∀ er, m.ok → m.val = .ex er → ER X B ρ O e (ce er.c).1 (ce er.c).2 er.d)
    (h : JC X B rest ρ O A f) (hex : ∀ er, (A (.ex er)).ex (ce er.c).1 (ce er.c).2 er.d ρ O) (hs : swapsWith e none pos.line X.env = pure false := by rfl) :
    JC X B (.Expr e pos :: rest) ρ O A (m.bindX fun _ => f) := fun ok => by
  obtain ⟨ok1, ⟨v, hm, ok2⟩ | ⟨er, hm⟩⟩ := bindX_ok ok
  · rw [(bindX_rt hm).2]
    exact j_cons (j_expr (eg_of (hv v ok1 hm)) (h ok2) hs)
  · rw [bindX_ex hm]
    exact j_cons (j_exprR (hx er ok1 hm) (hex er) hs)
/-! ### try -/
def onErr {R : Type} [Inhabited R] (i : Nat) (er : Exn) (f : Int → Cmp R) : Cmp R := if er.c = i then (match er.d with | .int z => f z | _ => .bad) else .bad
theorem onErr_ok {R : Type} [Inhabited R] {i : Nat} {er : Exn} {f : Int → Cmp R} (h : (onErr i er f).ok) : ∃ z, er = ⟨i, .int z⟩ ∧ (f z).ok ∧ onErr i er f = f z := by
  obtain ⟨c, d⟩ := er
  unfold onErr at h
  by_cases hc : c = i
  · subst hc
    simp only [if_true] at h
    cases d with
    | int z => exact ⟨z, rfl, h, by unfold onErr; simp⟩
    | _ => exact h.elim
  · simp only [hc, if_false] at h
    exact h.elim
theorem jc_onErr {R : Type} [Inhabited R] {A : R → AE} {er : Exn} {f : Int → Cmp R} {j : Nat} (h : ∀ z, er = ⟨j, .int z⟩ → JC X B rest ρ O A (f z)) : JC X B rest ρ O A (onErr j er f) := fun ok => by
  obtain ⟨z, e, o, q⟩ := onErr_ok ok
  rw [q]; exact h z e o
theorem takes_no : Takes X fun _ _ _ _ => False := fun u s' ⟨_, _, _, _, _, _, _, _, _, _, _, _, _, _, _, _, w⟩ => w.elim
/-- the ground of a suite: the error's own dict beside -/
def gdS (B : Gd) (dx : Addr) (q : List (Str × V)) : Gd where
  F := B.F
  Hb := upd B.Hb dx (.xd q)
  W := B.W
  L := B.L
  ok := fun a h => by
    by_cases z : a = dx
    · subst z; exact ⟨_, upd_same⟩
    · rw [upd_ne z]; exact B.ok a h
  lF := B.lF
theorem gdS_in {K : PySem.W.Frag} {H : Hp} {dx : Addr} {q : List (Str × V)} (m : MOk K B O H) (h : H dx = some (.xd q)) (ho : has O dx = false) : MOk K (gdS B dx q) O H :=
  ⟨fun a o e => by
    have e' : upd B.Hb dx (.xd q) a = some o := e
    by_cases z : a = dx
    · subst z; rw [upd_same] at e'; cases e'; exact ⟨h, ho⟩
    · rw [upd_ne z] at e'; exact m.base a o e', m.mem, m.nd, m.lent⟩
theorem gdS_out {K : PySem.W.Frag} {H H0 : Hp} {dx : Addr} {q : List (Str × V)} {O0 : Om} (m0 : MOk K B O0 H0) (h0 : H0 dx = some (.xd q)) (m : MOk K (gdS B dx q) O H) : MOk K B O H :=
  ⟨fun a o e => by
    refine m.base a o ?_
    show upd B.Hb dx (.xd q) a = some o
    by_cases z : a = dx
    · subst z
      have := (m0.base a o e).1
      rw [h0] at this
      rw [upd_same]; exact this
    · rw [upd_ne z]; exact e, m.mem, m.nd, m.lent⟩
/-- try: body except X as n: a suite that always hands back -/
theorem jc1_try {m : Cmp (Ctl S L R)} {h : Exn → Cmp R} {C0 : Addr} (i : Nat) (hs : X.stack = X.env :: X.outer) (hf : X.env.frame = some X.env.locals) (hN : X.N.Nodup) (hi : X.N[i]? = some nm) (hln : X.env.kindOf nm = some .local) (hc : Names X x (.ref C0)) (tk : Takes X fun _ _ _ _ => False)
    (hb : ∀ (W : WX) (pn : List (Addr × Obj)) (xe : Value → Shared → Prop), Takes (X.tr pn xe) W → PassesOwn (model X.prog X.w) X.A X.env xe → JC (X.tr pn xe) { B with W := W } body ρ O (aC st sl rt (exq0 ce ρ0 O0)) m)
    (hm : ∀ er, m.ok → m.val = .ex er → (h er).ok → PySem.W.exmOne X.K (.ref (ce er.c).1) (.ref C0) = some true ∧ FlatD er.d)
    (hsu : ∀ er, m.ok → m.val = .ex er → ∀ (a : Addr) (oe : Obj) (pn : List (Addr × Obj)) (dx : Addr) (v : V), Zc (.ref (ce er.c).1) (some dx) oe → (∃ vs, oe.data = .fields vs) → (∀ H, Rp X.K H v er.d) →
      JC (X.suite a ((a, oe) :: pn)) (gdS B dx [((ce er.c).2, v)]) (b₀ :: suite) (ρ0.set i (some (.rf a))) O0 (fun r => noNx (aR rt r)) (h er)) :
    JC1 X B (.Try body [.ExceptHandler (some (.Name x np)) (some nm) (b₀ :: suite) pos'] [] [] pos) ρ O (aC st sl rt ex) (tryM m h) := fun ok => by
  obtain ⟨ok1, ok2⟩ := ok
  let ts : Addr → Value → Option Addr → TS := fun a cls dd Dn σ H => ∃ (er : Exn) (dx : Addr) (v : V), m.val = .ex er ∧ cls = .ref (ce er.c).1 ∧ dd = some dx ∧ (∀ H, Rp X.K H v er.d) ∧ tW X.K (gdS B dx [((ce er.c).2, v)]) (ρ0.set i (some (.rf a))) O0 (noNx (aR rt (h er).val)) Dn σ H
  refine ps_imp (ps_try_as (tb := fun W => tW X.K { B with W := W } ρ O (aC st sl rt (exq0 ce ρ0 O0) m.val)) (ts := ts) (Wout := fun _ _ _ _ => False) hs hf hN hi hln hc tk (fun W pn xe t1 t2 => hb W pn xe t1 t2 ok1) (fun a oe cls dd pn hz hf2 => ?_)) fun Dn σ H ⟨s, p⟩ => ?_
  · refine ⟨fun pins s σ H Dn I ⟨er, dx, v, e1, e2, e3, e4, hw⟩ => ?_⟩
    subst e2; subst e3
    have ok3 : (h er).ok := by
      rw [e1] at ok2; exact ok2.1
    exact (hsu er ok1 e1 a oe pn dx v hz hf2 e4 ok3).run pins s σ H Dn I hw
  · refine ⟨⟨⟨s.m.base, s.m.mem, s.m.nd, s.m.lent⟩, s.env⟩, ?_⟩
    cases hv : m.val with
    | nx y =>
      have e : (tryM m h).val = .nx y := by unfold tryM Cmp.bind; rw [hv]
      rw [e] at p
      exact ⟨fun ρ' O' σ' H' q s' e' => p.nx ρ' O' σ' H' q ⟨⟨s'.m.base, s'.m.mem, s'.m.nd, s'.m.lent⟩, s'.env⟩ e', fun _ _ _ _ z => z.elim, fun _ _ _ _ z => z.elim, fun _ _ _ _ z => z.elim, fun _ _ _ _ _ _ _ _ _ z => z.elim⟩
    | rt y =>
      have e : (tryM m h).val = .rt y := by unfold tryM Cmp.bind; rw [hv]
      rw [e] at p
      exact ⟨fun _ _ _ _ z => z.elim, fun d O v H q s' => p.rt d O v H q ⟨s'.base, s'.mem, s'.nd, s'.lent⟩, fun _ _ _ _ z => z.elim, fun _ _ _ _ z => z.elim, fun _ _ _ _ _ _ _ _ _ z => z.elim⟩
    | bk y =>
      have e : (tryM m h).val = .bk y := by unfold tryM Cmp.bind; rw [hv]
      rw [e] at p
      exact ⟨fun _ _ _ _ z => z.elim, fun _ _ _ _ z => z.elim, fun ρ' O' σ' H' q s' e' => p.bk ρ' O' σ' H' q ⟨⟨s'.m.base, s'.m.mem, s'.m.nd, s'.m.lent⟩, s'.env⟩ e', fun _ _ _ _ z => z.elim, fun _ _ _ _ _ _ _ _ _ z => z.elim⟩
    | ct y =>
      have e : (tryM m h).val = .ct y := by unfold tryM Cmp.bind; rw [hv]
      rw [e] at p
      exact ⟨fun _ _ _ _ z => z.elim, fun _ _ _ _ z => z.elim, fun _ _ _ _ z => z.elim, fun ρ' O' σ' H' q s' e' => p.ct ρ' O' σ' H' q ⟨⟨s'.m.base, s'.m.mem, s'.m.nd, s'.m.lent⟩, s'.env⟩ e', fun _ _ _ _ _ _ _ _ _ z => z.elim⟩
    | ex er =>
      have e : (tryM m h).val = .rt (h er).val := by unfold tryM Cmp.bind; rw [hv]
      rw [e] at p
      refine ⟨fun _ _ _ _ z => z.elim, fun _ _ _ _ z => z.elim, fun _ _ _ _ z => z.elim, fun _ _ _ _ z => z.elim, ?_⟩
      rintro C' n' d' ρ' O' σ' H' dx v ⟨⟨rfl, rfl, rfl⟩, hw, rfl⟩ s' e' hx ho r
      obtain ⟨m1, fl⟩ := hm er ok1 hv (by rw [hv] at ok2; exact ok2.1)
      have mB : MOk X.K B O' H' := ⟨s'.m.base, s'.m.mem, s'.m.nd, s'.m.lent⟩
      refine ⟨true, m1, fun _ a _ => ?_, fun z => nomatch z⟩
      refine ⟨er, dx, v, hv, rfl, rfl, fun H => flat_rp fl r, ⟨?_, ?_⟩⟩
      · have s2 : StOk X.K (gdS B dx [((ce er.c).2, v)]) ρ0 O' σ' H' := StOk.weak ⟨gdS_in mB hx ho, s'.env⟩ hw
        exact s2.set (.rf a)
      · exact ⟨fun _ _ _ _ z => z.elim, fun d O v2 H2 q s2 r2 => p.rt d O v2 H2 q (gdS_out mB hx s2) r2, fun _ _ _ _ z => z.elim, fun _ _ _ _ z => z.elim, fun _ _ _ _ _ _ _ _ _ z => z.elim⟩
end
end DL

set_option Elab.async false
set_option linter.all false
set_option maxRecDepth 100000
set_option maxHeartbeats 4000000
/-! ### what a suite asks of the error it holds -/
namespace L2
open PySem PySem.Spec PyProof.Rows
section
variable {X : Cx} {C fI a dx : Addr} {n : Str}
theorem od_of {pins : List (Addr × Obj)} {s : Shared} {σ : St} {H : Hp} {oe : Obj} {pn : List (Addr × Obj)} {q : List (Str × V)} (I : Inv (X.suite a ((a, oe) :: pn)) pins σ H s) (hz : Zc (.ref C) (some dx) oe) (hf : ∃ vs, oe.data = .fields vs) (ea : H dx = some (.xd q)) :
    ∃ (od : Obj) (mA : Str → Option Value), PySem.W.InstAt s.heap a oe C (some od) ∧ (∀ f, RelO (List.lookup f q) (mA f)) ∧ ∀ f, PySem.W.lookIn f od = some (mA f) := by
  obtain ⟨ha, _⟩ := I.pin (a, oe) (List.mem_append_left _ List.mem_cons_self)
  obtain ⟨vs, hd⟩ := hf
  have hx : ObjOk X.prog X.w H s.heap dx (.xd q) := I.hok dx _ ea
  obtain ⟨mA, hns, hr⟩ := hx
  obtain ⟨od, ho, hl⟩ := lookIn_ns hns
  exact ⟨od, mA, ⟨ha, hz.1, by unfold PySem.W.notCls; rw [hd] <;> rfl, by rw [hz.2]; exact ho⟩, hr, hl⟩
theorem pe_errF {oe : Obj} {pn : List (Addr × Obj)} {e : Expr} {te : TE} {v : V} {pos : Pos} (T : PySem.ErX.ErrT X.prog X.K X.mg C fI n) (hz : Zc (.ref C) (some dx) oe) (hf : ∃ vs, oe.data = .fields vs) (he : PE (X.suite a ((a, oe) :: pn)) e te)
    (hb : attributeBase e n X.env (eval e X.env) = eval e X.env := by rfl) :
    PE (X.suite a ((a, oe) :: pn)) (.Attribute e n pos) (fun σ H Q => te σ H fun x H1 => x = .ref a ∧ H1 dx = some (.xd [(n, v)]) ∧ Q v H1) := by
  refine ⟨fun pins s σ H Q I h => ?_⟩
  refine attr_of hb (thn (he.run pins s σ H _ I h) fun u s1 hh => ?_)
  obtain ⟨x, H1, I1, rx, ex, ea, q⟩ := hh
  subst ex
  obtain rfl : u = Value.ref a := rx
  obtain ⟨od, mA, J, hr, hl⟩ := od_of I1 hz hf ea
  have l : List.lookup n [(n, v)] = some v := by simp [List.lookup]
  obtain ⟨u, hu, ru⟩ := RelO.some_of (v := v) (o := mA n) (by rw [← l]; exact hr n)
  exact HandSPX.exc_get I1.kIn J T.ga T.gg T.exC (PySem.W.findObj_own T.hdC T.noN rfl (by rw [hl, hu])) (handed_of ru) ⟨v, H1, I1.tok _, ru, q⟩
/-- isinstance(e, c), e the error that the suite holds -/
def rIsED (K : PySem.W.Frag) (D a dx : Addr) : List V → Hp → VK → Prop := fun xs H Q => ∃ (c : V) (cv : Value) (b : Bool) (q : List (Str × V)), xs = [.ref a, c] ∧ H dx = some (.xd q) ∧ (∀ u, RelV c u → u = cv) ∧ PySem.W.kitOne K (.ref D) cv = some b ∧ Q (.bl b) H
theorem call_isED {D : Addr} {oe : Obj} {pn : List (Addr × Obj)} (C : ExcC X.K D) (hz : Zc (.ref D) (some dx) oe) (hf : ∃ vs, oe.data = .fields vs) : CallR (X.suite a ((a, oe) :: pn)) (.builtin "isinstance") (rIsED X.K D a dx) := by
  intro pins s σ H xs us Q I r h
  obtain ⟨c, cv, b, q', rfl, ea, hcv, e, q⟩ := h
  cases r with
  | cons rx rr =>
    cases rr with
    | cons rt rr =>
      cases rr
      cases rx
      have ec := hcv _ rt
      subst ec
      obtain ⟨od, mA, J, _, _⟩ := od_of I hz hf ea
      have hcl : (PySem.W.clsIn X.K D).isSome = true := by
        obtain ⟨cd, hc, _⟩ := PySem.W.any_some C.hd
        rw [hc]; rfl
      exact PySem.W.kia_one (PySem.W.kitx_exc hcl C.hg C.hk C.hs C.ha C.hn C.ht C.hm) I.kIn J e (fun z => nomatch z) fun tk => ⟨.bl b, H, I.kept (t' := tk) fun _ _ z => z, rfl, q⟩
end
end L2
namespace DL
open PySem PySem.Spec PyProof.Rows L2 TL
section
variable {X : Cx} {B : Gd} {ρ : List (Option D)} {O : Om} {C fI a dx C' : Addr} {n x : Str} {e f : Expr} {d : D} {v : V} {pos p : Pos} {oe : Obj} {pn : List (Addr × Obj)} {b1 : Bool}
theorem ev_errF (T : PySem.ErX.ErrT X.prog X.K X.mg C fI n) (hz : Zc (.ref C) (some dx) oe) (hf : ∃ vs, oe.data = .fields vs) (hv : ∀ H, Rp X.K H v d) (he : EV (X.suite a ((a, oe) :: pn)) (gdS B dx [(n, v)]) ρ O e (.rf a)) (hb : attributeBase e n X.env (eval e X.env) = eval e X.env := by rfl) :
    EV (X.suite a ((a, oe) :: pn)) (gdS B dx [(n, v)]) ρ O (.Attribute e n pos) d :=
  pe_imp (pe_errF (v := v) T hz hf he hb) fun σ H Q ⟨st, k⟩ => ⟨st, fun w H1 e1 r1 => by
    cases r1
    exact ⟨rfl, ((st.same e1).m.base dx _ upd_same).1, k v H1 e1 (hv _)⟩⟩
theorem rc_isED {K : PySem.W.Frag} {q : List (Str × V)} {cd : D} {cv : Value} (hc : ∀ H w u, Rp K H w cd → RelV w u → u = cv) (hk : PySem.W.kitOne K (.ref C) cv = some b1) : RC K (gdS B dx q) O (rIsED K C a dx) [.rf a, cd] (.bl b1) := fun xs H Q m r k => by
  cases r with
  | cons h1 r =>
    cases r with
    | cons h2 r =>
      cases r
      cases h1
      exact ⟨_, cv, b1, q, rfl, (m.base dx _ upd_same).1, fun u ru => hc _ _ u h2 ru, hk, k _ H (Same.refl H) (.bl b1)⟩
theorem cls_ref {K : PySem.W.Frag} {H : Hp} {w : V} {u : Value} (h : Rp K H w (.rf C')) (r : RelV w u) : u = .ref C' := by
  cases h; cases r; rfl
theorem cls_ty {K : PySem.W.Frag} {H : Hp} {w : V} {u : Value} {t : String} (h : Rp K H w (.ty t)) (r : RelV w u) : u = .type t := by
  cases h; cases r; rfl
end
end DL

set_option Elab.async false
set_option linter.all false
set_option maxRecDepth 100000
set_option maxHeartbeats 4000000
namespace DL
open PySem PySem.Spec PyProof.Rows L2 TL
/-! ### a def that may raise: its outcome from its mirror -/
def outX {R : Type} (ce : ErrTab) (E : R → D) : Ctl Unit Unit R → Out
  | .rt v => .val (E v)
  | .ex e => .exn (ce e.c).1 (ce e.c).2 e.d
  | _ => .val .non
def outXI {V : Type} (ce : ErrTab) (ns : List Str) (fs : V → List D) : Ctl Unit Unit V → OutI
  | .rt v => .val ns (fs v)
  | .ex e => .exn (ce e.c).1 (ce e.c).2 e.d
  | _ => .val [] []
def FlatX {S L R : Type} : Ctl S L R → Prop
  | .ex e => FlatD e.d
  | _ => True
section
variable {α S L R : Type}
theorem calm_ok [Inhabited α] {m : Cmp (Ctl Unit Unit α)} (h : m.calm.ok) : m.ok ∧ m.val = .rt m.calm.val := by
  obtain ⟨h1, h2⟩ := h
  refine ⟨h1, ?_⟩
  unfold Cmp.calm Cmp.bind
  cases q : m.val with
  | rt v => rfl
  | ex e => rw [q] at h2; exact h2.elim
  | nx s => rw [q] at h2; exact h2.elim
  | bk s => rw [q] at h2; exact h2.elim
  | ct s => rw [q] at h2; exact h2.elim
theorem made_ok {m : Cmp (Ctl α Unit Unit)} (h : m.made.ok) : m.ok ∧ ((∃ v, m.val = .nx v ∧ m.made.val = .rt v) ∨ ∃ e, m.val = .ex e ∧ m.made.val = .ex e) := by
  obtain ⟨h1, h2⟩ := h
  refine ⟨h1, ?_⟩
  unfold Cmp.made Cmp.bind
  cases q : m.val with
  | nx v => exact .inl ⟨v, rfl, rfl⟩
  | ex e => exact .inr ⟨e, rfl, rfl⟩
  | rt s => rw [q] at h2; exact h2.elim
  | bk s => rw [q] at h2; exact h2.elim
  | ct s => rw [q] at h2; exact h2.elim
theorem calm_val [Inhabited α] {m : Cmp (Ctl Unit Unit α)} {v : α} (h : m.val = .rt v) : m.calm.val = v := by
  unfold Cmp.calm Cmp.bind; rw [h]
end
section
variable {X : Cx} {B : Gd} {ρ : List (Option D)} {O : Om} {ss : List Stmt} {ce : ErrTab}
theorem j_outX {R : Type} {E : R → D} {c : Ctl Unit Unit R} (h : J X B ss ρ O (aC (fun _ _ _ => False) (fun _ _ _ => False) (rtP E) (exq ce) c)) : J X B ss ρ O (postX (outX ce E c)) := by
  cases c with
  | nx s => exact j_imp h (fun _ _ ⟨_, _, z⟩ => z.elim) (fun _ _ z => z.elim) (fun _ _ z => z.elim) (fun _ _ z => z.elim) (fun _ _ _ _ _ z => z.elim)
  | rt v => exact j_imp h (fun _ _ z => z.elim) (fun _ _ z => z) (fun _ _ z => z.elim) (fun _ _ z => z.elim) (fun _ _ _ _ _ z => z.elim)
  | bk s => exact j_imp h (fun _ _ z => z.elim) (fun _ _ z => z.elim) (fun _ _ ⟨_, _, z⟩ => z.elim) (fun _ _ z => z.elim) (fun _ _ _ _ _ z => z.elim)
  | ct s => exact j_imp h (fun _ _ z => z.elim) (fun _ _ z => z.elim) (fun _ _ z => z.elim) (fun _ _ ⟨_, _, z⟩ => z.elim) (fun _ _ _ _ _ z => z.elim)
  | ex e => exact j_imp h (fun _ _ z => z.elim) (fun _ _ z => z.elim) (fun _ _ z => z.elim) (fun _ _ z => z.elim) (fun _ _ _ _ _ z => z)
theorem j_outXI {V : Type} {C0 x : Addr} {ns : List Str} {fs : V → List D} {m : Cmp (Ctl V Unit Unit)} (ok : m.made.ok) (h : m.ok → J X B ss ρ O (aC (fun v _ O' => ∃ fs' O1, O' = O1 ++ [(x, .ins C0 ns fs')] ∧ FrzL O1 fs' (fs v)) (fun _ _ _ => False) (fun _ _ _ => False) (exq ce) m.val)) :
    J X B ss ρ O (match outXI ce ns fs m.made.val with
        | .val ns fs => { nx := fun _ O' => ∃ fs' O1, O' = O1 ++ [(x, .ins C0 ns fs')] ∧ FrzL O1 fs' fs, rt := fun _ _ => False }
        | .exn C n d => aX C n d) := by
  obtain ⟨h1, ⟨v, e1, e2⟩ | ⟨e, e1, e2⟩⟩ := made_ok ok
  · have h := h h1
    rw [e1] at h; rw [e2]
    exact j_imp h (fun _ _ ⟨_, _, z⟩ => z) (fun _ _ z => z.elim) (fun _ _ z => z.elim) (fun _ _ z => z.elim) (fun _ _ _ _ _ z => z.elim)
  · have h := h h1
    rw [e1] at h; rw [e2]
    exact j_imp h (fun _ _ z => z.elim) (fun _ _ z => z.elim) (fun _ _ z => z.elim) (fun _ _ z => z.elim) (fun _ _ _ _ _ z => z)
end
section
variable {P : Program} {w : World} {K : PySem.W.Frag} {mg : Str → Option Value} {base : Heap} {k : Nat} {f C0 C : Addr} {x n : Str}
theorem spP_mono {Ar Ar' : Om → List D → D → Prop} (h : ∀ L ds d, Ar' L ds d → Ar L ds d) : ∀ vs H Q E, spP K Ar' vs H Q E → spP K Ar vs H Q E := fun _ _ _ _ ⟨F, L, ds, d, a, b, c, e⟩ => ⟨F, L, ds, d, a, b, h _ _ _ c, e⟩
theorem spI_mono {Ar Ar' : Om → List D → List Str → List D → Prop} (h : ∀ L ds ns fs, Ar' L ds ns fs → Ar L ds ns fs) : ∀ vs H Q E, spI K C0 Ar' vs H Q E → spI K C0 Ar vs H Q E := fun _ _ _ _ ⟨F, L, x, dx, us, ds, ns, fs, a, b, c, e, g, i, j⟩ => ⟨F, L, x, dx, us, ds, ns, fs, a, b, c, e, g, h _ _ _ _ i, j⟩
theorem fn_calmP {fd : FuncData} {ps : List Str} {Ar : Om → List D → Out → Prop} {Ar' : Om → List D → D → Prop} (F : FnOk P w K mg base (L2.CX P w) k f fd ps (spX K Ar)) (h : ∀ L ds d, Ar' L ds d → Ar L ds (.val d)) : FnOk P w K mg base CX0 k f fd ps (spP K Ar') :=
  calm_fn (CX := CX0) ((spX_P F).imp (spP_mono h)) fun _ _ _ _ _ z => z
theorem fn_calmI {fd : FuncData} {ps : List Str} {Ar : Om → List D → OutI → Prop} {Ar' : Om → List D → List Str → List D → Prop} (F : FnOk P w K mg base (L2.CX P w) k f fd ps (spXI K C0 Ar)) (h : ∀ L ds ns fs, Ar' L ds ns fs → Ar L ds (.val ns fs)) : FnOk P w K mg base CX0 k f fd ps (spI K C0 Ar') :=
  calm_fn (CX := CX0) ((spXI_I F).imp (spI_mono h)) fun _ _ _ _ _ z => z
theorem Fok.xP {Ar : Om → List D → Out → Prop} (F : Fok P w K mg base (L2.CX P w) k f (spX K Ar)) : Fok P w K mg base CX0 k f (spP K fun L ds d => Ar L ds (.val d)) := by
  obtain ⟨fd, ps, G, b⟩ := F.ex
  exact ⟨⟨fd, ps, fn_calmP G fun _ _ _ z => z, b⟩, F.kp⟩
theorem Fok.xR {Ar : Om → List D → Out → Prop} (F : Fok P w K mg base (L2.CX P w) k f (spX K Ar)) : Fok P w K mg base (L2.CX P w) k f (spR K C n fun L ds d => Ar L ds (.exn C n d)) := by
  obtain ⟨fd, ps, G, b⟩ := F.ex
  exact ⟨⟨fd, ps, spX_R (CX := L2.CX P w) G, b⟩, F.kp⟩
theorem Fok.xI {Ar : Om → List D → OutI → Prop} (F : Fok P w K mg base (L2.CX P w) k f (spXI K C0 Ar)) : Fok P w K mg base CX0 k f (spI K C0 fun L ds ns fs => Ar L ds (.val ns fs)) := by
  obtain ⟨fd, ps, G, b⟩ := F.ex
  exact ⟨⟨fd, ps, fn_calmI G fun _ _ _ _ z => z, b⟩, F.kp⟩
theorem Fok.xRI {Ar : Om → List D → OutI → Prop} (F : Fok P w K mg base (L2.CX P w) k f (spXI K C0 Ar)) : Fok P w K mg base (L2.CX P w) k f (spRI K C0 C n fun L ds d => Ar L ds (.exn C n d) ∧ FlatD d) := by
  obtain ⟨fd, ps, G, b⟩ := F.ex
  exact ⟨⟨fd, ps, spXI_R (CX := L2.CX P w) G, b⟩, F.kp⟩
theorem Cal.xP {Ar : Om → List D → Out → Prop} (c : Cal P w K mg base (L2.CX P w) k x (spX K Ar)) : Cal P w K mg base CX0 k x (spP K fun L ds d => Ar L ds (.val d)) := by
  obtain ⟨f, F, hm⟩ := c.ex; exact ⟨f, F.xP, hm⟩
theorem Cal.xR {Ar : Om → List D → Out → Prop} (c : Cal P w K mg base (L2.CX P w) k x (spX K Ar)) : Cal P w K mg base (L2.CX P w) k x (spR K C n fun L ds d => Ar L ds (.exn C n d)) := by
  obtain ⟨f, F, hm⟩ := c.ex; exact ⟨f, F.xR, hm⟩
end
end DL

set_option Elab.async false
set_option linter.all false
set_option maxRecDepth 100000
set_option maxHeartbeats 4000000
/-! ### several except clauses, each «as n» -/
namespace L2
open PySem PySem.Spec PyProof.Rows
abbrev TSu := Addr → Value → Option Addr → TS
/-- what the clauses wish of an exception of the body, one after the other; slot i is n's -/
def wManyA (K : PySem.W.Frag) (Wout : WX) (i : Nat) (D : Ends) : List (Value × TSu) → WX
  | [] => Wout
  | (c, ts) :: r => fun cls d σ H => ∃ b, PySem.W.exmOne K cls c = some b ∧ (b = true → ∀ a, H a = none → ts a cls d { nx := fun σ' H' => D.nx (σ'.set i none) H', rt := D.rt, bk := fun σ' H' => D.bk (σ'.set i none) H', ct := fun σ' H' => D.ct (σ'.set i none) H' } (σ.set i (some (.ref a))) H) ∧ (b = false → wManyA K Wout i D r cls d σ H)
inductive HdsA (X : Cx) (n : Str) : List ExceptHandler → List (Value × TSu) → Prop
  | nil : HdsA X n [] []
  | cons {x : Str} {c : Value} {ts : TSu} {b₀ : Stmt} {suite : List Stmt} {np pos' : Pos} {hds : List ExceptHandler} {l : List (Value × TSu)} (hc : Names X x c)
      (hsu : ∀ (a : Addr) (oe : Obj) (cls : Value) (d : Option Addr) (pn : List (Addr × Obj)), Zc cls d oe → (∃ vs, oe.data = .fields vs) → PSs (X.suite a ((a, oe) :: pn)) (b₀ :: suite) (ts a cls d)) (r : HdsA X n hds l) :
      HdsA X n (.ExceptHandler (some (.Name x np)) (some n) (b₀ :: suite) pos' :: hds) ((c, ts) :: l)
section
variable {X : Cx} {n : Str} {i : Nat} {body : List Stmt} {h₀ : ExceptHandler} {hds : List ExceptHandler} {l : List (Value × TSu)} {pos : Pos} {tb : WX → TS} {Wout : WX}
theorem ps_try_manyA (hs : X.stack = X.env :: X.outer) (hf : X.env.frame = some X.env.locals) (hN : X.N.Nodup) (hi : X.N[i]? = some n) (hln : X.env.kindOf n = some .local) (tk : Takes X Wout)
    (hb : ∀ (W : WX) (pn : List (Addr × Obj)) (xe : Value → Shared → Prop), Takes (X.tr pn xe) W → PassesOwn (model X.prog X.w) X.A X.env xe → PSs (X.tr pn xe) body (tb W))
    (hh : HdsA X n (h₀ :: hds) l) : PS X (.Try body (h₀ :: hds) [] [] pos) (fun D σ H => tb (wManyA X.K Wout i D l) D σ H) := by
  refine ⟨fun pins s σ H D I h => ?_⟩
  have ok := I.ok
  have hfr : X.A.frames = some (X.env :: X.outer) := by rw [ok.frames, hs]
  have hloc : Loc X.env.scope n := .inl hln
  refine wpAny_Try_except ?_
  refine wpAny_mono ((hb (wManyA X.K Wout i D l) (X.pn ++ pins) (fun e s₁ => wpAny (model X.prog X.w) X.A (noteFrame e X.env) (fun _ s₂ => wpAny (model X.prog X.w) X.A (setFlight e none) (fun _ s₃ =>
    wpAny (model X.prog X.w) X.A (handleBy e X.env (h₀ :: hds)) (SP X pins D) X.xe s₃) X.xe s₂) X.xe s₁) (fun u s' xx => ?_) PassesOwn.looking).run [] s σ H D (I.toTry _) h) (fun f s1 hsp => ?_) (fun e s1 he => he)
  · obtain ⟨a, B, sI, pins', σ', H', cls, d, rfl, J', nb, up, sky, na, os, ag, w⟩ := xx
    have J : Inv X pins σ' H' sI := J'.ofTry ok
    have sky' : Sky B (X.env :: X.outer) a (Zc cls d) X.env.locals s'.heap := by rw [← hs]; exact sky
    show wpAny (model X.prog X.w) X.A (noteFrame (.ref a) X.env) _ _ _
    refine Sky.land Zc.steady hfr hf sky' fun h3 fl3 up3 => ?_
    have J3 : Inv X pins σ' H' { s' with heap := h3 } := J.landed nb fl3.1 (up.trans up3) os ag
    obtain ⟨oe3, vs3, he3, hz3, hd3⟩ := fl3.there
    have notFr : ∀ {h : Heap} {o : Obj} {vs : Array Value}, h.FunFrames B (X.env :: X.outer) → h.get? a = some o → o.data = .fields vs → a ∉ frs (X.env :: X.outer) := fun {h o vs} ff e dd hm => by
      obtain ⟨_, o', e', hnf⟩ := ff.mem hm
      rw [e] at e'; cases e'
      exact hnf _ dd
    have nfr := notFr fl3.2.2.1 he3 hd3
    have nL : a ≠ X.env.locals := fun z => nfr (List.mem_filterMap.mpr ⟨X.env, List.mem_cons_self, by rw [hf, z]⟩)
    have nF : a ∉ X.fs := fun hm => by
      obtain ⟨e, he, q⟩ := List.mem_filterMap.mp hm
      exact nfr (List.mem_filterMap.mpr ⟨e, List.mem_cons_of_mem _ he, q⟩)
    have S3 := J3.suite he3 hd3 na nL nF
    have go : ∀ {hds' : List ExceptHandler} {l' : List (Value × TSu)}, HdsA X n hds' l' → wManyA X.K Wout i D l' cls d σ' H' →
        wpAny (model X.prog X.w) X.A (handleBy (.ref a) X.env hds') (SP X pins D) X.xe { s' with heap := h3 } := by
      intro hds' l' hk
      induction hk with
      | nil =>
        intro w
        refine wpAny_handleBy_nil ?_
        obtain ⟨k1, k2, k3, oe, vs, T, oT, ts', he, hz, hd, h1, hr⟩ := id fl3
        unfold PySem.passOn
        refine wpAny_bind (wpAny_field he hd h1 ?_)
        rw [if_neg (show ¬ ((Value.ref T == Value.none) = true) from by simp)]
        have fin : wpAny (model X.prog X.w) X.A (setFlight (.ref a) X.env.frame) (fun _ s4 => wpAny (model X.prog X.w) X.A (throw (.ref a) : Sem Flow) (SP X pins D) X.xe s4) X.xe { s' with heap := h3 } := by
          rw [hf]
          refine HandSPX.setFlight_upZ fl3 fun h4 hh4 up4 => wpAny_throw (tk _ _ ?_)
          exact ⟨a, B, sI, pins, σ', H', cls, d, rfl, J, nb, (up.trans up3).trans up4, .inr (.inr (by rw [hs]; exact hh4)), na, os, ag, w⟩
        first
          | exact wpAny_bind (wpAny_pure (wpAny_bind fin))
          | exact wpAny_bind fin
      | @cons x c ts b₀ suite np pos' hds2 l2 hc hsu r ih =>
        intro w
        obtain ⟨b, hb1, hyes, hno⟩ := w
        refine wpAny_handleBy_cons (codeAny_handlers_test ?_) (by intro q; cases q)
        have LT : PySem.W.Looks (model X.prog X.w) h3 (typeOf (.ref a)) cls := fun A Q E s k q => wpAny_typeOf_ref (k _ _ he3) (by rw [hz3.1]; exact q)
        have LM := PySem.W.exm_one (M := model X.prog X.w) (J3.kIn) LT hb1
        have test : ∀ {Q : Value → Shared → Prop} {E : Value → Shared → Prop}, Q c { s' with heap := h3 } → wpAny (model X.prog X.w) (X.A.mark (some (.ref a))) (eval (.Name x np) X.env) Q E { s' with heap := h3 } := fun {Q E} q => by
          obtain ⟨hg, hdbg, hm | ⟨hm, hv, hnn⟩⟩ := hc
          · exact ld_glob (X := X.suite a ((a, oe3) :: (X.pn ++ pins))) S3 hg hm q hdbg
          · exact ld_blt (X := X.suite a ((a, oe3) :: (X.pn ++ pins))) S3 hg hm hv q hnn hdbg
        refine test (LM.here ?_)
        cases b with
        | true =>
          refine codeAny_handlers_suite_as ?_
          refine HandSPX.lands_againZ fl3 fun h4 fl4 up4 => ?_
          have J4 : Inv X pins σ' H' { s' with heap := h4 } := J.landed nb fl4.1 ((up.trans up3).trans up4) os ag
          obtain ⟨oe4, vs4, he4, hz4, hd4⟩ := fl4.there
          have S4 := J4.suite he4 hd4 na nL nF
          refine store_ok (X := X.suite a ((a, oe4) :: (X.pn ++ pins))) (v := .ref a) S4 hN hi hloc rfl (fun s5 S5 => ?_) (.inr hln)
          refine wpAny_mono ((hsu a oe4 cls d (X.pn ++ pins) hz4 ⟨_, hd4⟩).run [] s5 _ H' _ S5 (hyes rfl a na)) (fun f s6 hsp => ?_) (fun _ _ z => False.elim z)
          have end_ : ∀ {σ6 : St} {H6 : Hp} {Q : Shared → Prop}, Inv (X.suite a ((a, oe4) :: (X.pn ++ pins))) [] σ6 H6 s6 → (∀ s7, Inv X pins (σ6.set i none) H6 s7 → Q s7) →
              wpAny (model X.prog X.w) X.A (do bindName X.env n .none; unbindBehindTheSuite X.env n pos') (fun _ s7 => Q s7) X.xe s6 := fun {σ6 H6 Q} S6 hq => gone_ok (S6.unsuite ok) hN hi hln hq
          cases f with
          | next =>
            obtain ⟨σ6, H6, S6, q6⟩ := hsp
            exact end_ S6 fun s7 J7 => ⟨_, _, J7, q6⟩
          | brk =>
            obtain ⟨σ6, H6, S6, q6⟩ := hsp
            exact end_ S6 fun s7 J7 => ⟨_, _, J7, q6⟩
          | cont =>
            obtain ⟨σ6, H6, S6, q6⟩ := hsp
            exact end_ S6 fun s7 J7 => ⟨_, _, J7, q6⟩
          | ret u =>
            obtain ⟨v6, σ6, H6, S6, r6, q6⟩ := hsp
            exact end_ S6 fun s7 J7 => ⟨_, _, _, J7, r6, q6⟩
        | false =>
          show wpAny _ X.A (handleBy (.ref a) X.env hds2) _ _ _
          exact ih (hno rfl)
    exact go hh w
  · cases f with
    | next =>
      obtain ⟨σ', H', J', q⟩ := hsp
      exact wpAny_execs_nil ⟨σ', H', J'.ofTry ok, q⟩
    | brk =>
      obtain ⟨σ', H', J', q⟩ := hsp
      exact ⟨σ', H', J'.ofTry ok, q⟩
    | cont =>
      obtain ⟨σ', H', J', q⟩ := hsp
      exact ⟨σ', H', J'.ofTry ok, q⟩
    | ret u =>
      obtain ⟨v, σ', H', J', r, q⟩ := hsp
      exact ⟨v, σ', H', J'.ofTry ok, r, q⟩
end
end L2
namespace DL
open PySem PySem.Spec PyProof.Rows L2 TL
section
variable {X : Cx} {B : Gd} {ρ ρ0 : List (Option D)} {O O0 : Om} {pos pos1 pos2 np1 np2 : Pos} {body suite1 suite2 : List Stmt} {b1 b2 : Stmt} {x1 x2 nm : Str} {ce : ErrTab}
variable {S L R : Type} {st : S → List (Option D) → Om → Prop} {sl : L → List (Option D) → Om → Prop} {rt : R → D → Om → Prop} {ex : Exn → Addr → Str → D → List (Option D) → Om → Prop}
/-- try: .. except X1 as n: .. except X2 as n: ..; both suites hand back on every way -/
theorem jc1_try2 {m : Cmp (Ctl S L R)} {h1 h2 : Exn → Cmp R} {C1 C2 : Addr} (e1 : Nat) (i : Nat) (hs : X.stack = X.env :: X.outer) (hf : X.env.frame = some X.env.locals) (hN : X.N.Nodup) (hi : X.N[i]? = some nm) (hln : X.env.kindOf nm = some .local) (hc1 : Names X x1 (.ref C1)) (hc2 : Names X x2 (.ref C2)) (tk : Takes X fun _ _ _ _ => False)
    (hb : ∀ (W : WX) (pn : List (Addr × Obj)) (xe : Value → Shared → Prop), Takes (X.tr pn xe) W → PassesOwn (model X.prog X.w) X.A X.env xe → JC (X.tr pn xe) { B with W := W } body ρ O (aC st sl rt (exq0 ce ρ0 O0)) m)
    (hm1 : ∀ er, m.ok → m.val = .ex er → er.c = e1 → (h1 er).ok → PySem.W.exmOne X.K (.ref (ce er.c).1) (.ref C1) = some true ∧ FlatD er.d)
    (hm2 : ∀ er, m.ok → m.val = .ex er → er.c ≠ e1 → (h2 er).ok → (PySem.W.exmOne X.K (.ref (ce er.c).1) (.ref C1) = some false ∧ PySem.W.exmOne X.K (.ref (ce er.c).1) (.ref C2) = some true) ∧ FlatD er.d)
    (hsu1 : ∀ er, m.ok → m.val = .ex er → er.c = e1 → ∀ (a : Addr) (oe : Obj) (pn : List (Addr × Obj)) (dx : Addr) (v : V), Zc (.ref (ce er.c).1) (some dx) oe → (∃ vs, oe.data = .fields vs) → (∀ H, Rp X.K H v er.d) →
      JC (X.suite a ((a, oe) :: pn)) (gdS B dx [((ce er.c).2, v)]) (b1 :: suite1) (ρ0.set i (some (.rf a))) O0 (fun r => noNx (aR rt r)) (h1 er))
    (hsu2 : ∀ er, m.ok → m.val = .ex er → er.c ≠ e1 → ∀ (a : Addr) (oe : Obj) (pn : List (Addr × Obj)) (dx : Addr) (v : V), Zc (.ref (ce er.c).1) (some dx) oe → (∃ vs, oe.data = .fields vs) → (∀ H, Rp X.K H v er.d) →
      JC (X.suite a ((a, oe) :: pn)) (gdS B dx [((ce er.c).2, v)]) (b2 :: suite2) (ρ0.set i (some (.rf a))) O0 (fun r => noNx (aR rt r)) (h2 er)) :
    JC1 X B (.Try body [.ExceptHandler (some (.Name x1 np1)) (some nm) (b1 :: suite1) pos1, .ExceptHandler (some (.Name x2 np2)) (some nm) (b2 :: suite2) pos2] [] [] pos) ρ O (aC st sl rt ex) (tryM m fun er => if er.c = e1 then h1 er else h2 er) := fun ok => by
  obtain ⟨ok1, ok2⟩ := ok
  let ts : (Exn → Prop) → (Exn → Cmp R) → TSu := fun p h a cls dd Dn σ H => ∃ (er : Exn) (dx : Addr) (v : V), m.val = .ex er ∧ p er ∧ cls = .ref (ce er.c).1 ∧ dd = some dx ∧ (∀ H, Rp X.K H v er.d) ∧ tW X.K (gdS B dx [((ce er.c).2, v)]) (ρ0.set i (some (.rf a))) O0 (noNx (aR rt (h er).val)) Dn σ H
  have hx1 : ∀ er, m.val = .ex er → er.c = e1 → (h1 er).ok := fun er q c => by
    rw [q] at ok2
    have z : (if er.c = e1 then h1 er else h2 er).ok := ok2.1
    rwa [if_pos c] at z
  have hx2 : ∀ er, m.val = .ex er → er.c ≠ e1 → (h2 er).ok := fun er q c => by
    rw [q] at ok2
    have z : (if er.c = e1 then h1 er else h2 er).ok := ok2.1
    rwa [if_neg c] at z
  refine ps_imp (ps_try_manyA (tb := fun W => tW X.K { B with W := W } ρ O (aC st sl rt (exq0 ce ρ0 O0) m.val)) (l := [(.ref C1, ts (fun er => er.c = e1) h1), (.ref C2, ts (fun er => er.c ≠ e1) h2)]) (Wout := fun _ _ _ _ => False) hs hf hN hi hln tk (fun W pn xe t1 t2 => hb W pn xe t1 t2 ok1)
    (.cons hc1 (fun a oe cls dd pn hz hf2 => ⟨fun pins s σ H Dn I ⟨er, dx, v, q1, c, q2, q3, q4, hw⟩ => by
      subst q2; subst q3
      exact (hsu1 er ok1 q1 c a oe pn dx v hz hf2 q4 (hx1 er q1 c)).run pins s σ H Dn I hw⟩) (.cons hc2 (fun a oe cls dd pn hz hf2 => ⟨fun pins s σ H Dn I ⟨er, dx, v, q1, c, q2, q3, q4, hw⟩ => by
      subst q2; subst q3
      exact (hsu2 er ok1 q1 c a oe pn dx v hz hf2 q4 (hx2 er q1 c)).run pins s σ H Dn I hw⟩) .nil))) fun Dn σ H ⟨s, p⟩ => ?_
  refine ⟨⟨⟨s.m.base, s.m.mem, s.m.nd, s.m.lent⟩, s.env⟩, ?_⟩
  cases hv : m.val with
  | nx y =>
    have e : (tryM m fun er => if er.c = e1 then h1 er else h2 er).val = .nx y := by unfold tryM Cmp.bind; rw [hv]
    rw [e] at p
    exact ⟨fun ρ' O' σ' H' q s' e' => p.nx ρ' O' σ' H' q ⟨⟨s'.m.base, s'.m.mem, s'.m.nd, s'.m.lent⟩, s'.env⟩ e', fun _ _ _ _ z => z.elim, fun _ _ _ _ z => z.elim, fun _ _ _ _ z => z.elim, fun _ _ _ _ _ _ _ _ _ z => z.elim⟩
  | rt y =>
    have e : (tryM m fun er => if er.c = e1 then h1 er else h2 er).val = .rt y := by unfold tryM Cmp.bind; rw [hv]
    rw [e] at p
    exact ⟨fun _ _ _ _ z => z.elim, fun d O v H q s' => p.rt d O v H q ⟨s'.base, s'.mem, s'.nd, s'.lent⟩, fun _ _ _ _ z => z.elim, fun _ _ _ _ z => z.elim, fun _ _ _ _ _ _ _ _ _ z => z.elim⟩
  | bk y =>
    have e : (tryM m fun er => if er.c = e1 then h1 er else h2 er).val = .bk y := by unfold tryM Cmp.bind; rw [hv]
    rw [e] at p
    exact ⟨fun _ _ _ _ z => z.elim, fun _ _ _ _ z => z.elim, fun ρ' O' σ' H' q s' e' => p.bk ρ' O' σ' H' q ⟨⟨s'.m.base, s'.m.mem, s'.m.nd, s'.m.lent⟩, s'.env⟩ e', fun _ _ _ _ z => z.elim, fun _ _ _ _ _ _ _ _ _ z => z.elim⟩
  | ct y =>
    have e : (tryM m fun er => if er.c = e1 then h1 er else h2 er).val = .ct y := by unfold tryM Cmp.bind; rw [hv]
    rw [e] at p
    exact ⟨fun _ _ _ _ z => z.elim, fun _ _ _ _ z => z.elim, fun _ _ _ _ z => z.elim, fun ρ' O' σ' H' q s' e' => p.ct ρ' O' σ' H' q ⟨⟨s'.m.base, s'.m.mem, s'.m.nd, s'.m.lent⟩, s'.env⟩ e', fun _ _ _ _ _ _ _ _ _ z => z.elim⟩
  | ex er =>
    have e : (tryM m fun er => if er.c = e1 then h1 er else h2 er).val = .rt (if er.c = e1 then h1 er else h2 er).val := by unfold tryM Cmp.bind; rw [hv]
    rw [e] at p
    refine ⟨fun _ _ _ _ z => z.elim, fun _ _ _ _ z => z.elim, fun _ _ _ _ z => z.elim, fun _ _ _ _ z => z.elim, ?_⟩
    rintro C' n' d' ρ' O' σ' H' dx v ⟨⟨rfl, rfl, rfl⟩, hw, rfl⟩ s' e' hx ho r
    have mB : MOk X.K B O' H' := ⟨s'.m.base, s'.m.mem, s'.m.nd, s'.m.lent⟩
    have s2 : StOk X.K (gdS B dx [((ce er.c).2, v)]) ρ0 O' σ' H' := StOk.weak ⟨gdS_in mB hx ho, s'.env⟩ hw
    by_cases c : er.c = e1
    · obtain ⟨q1, fl⟩ := hm1 er ok1 hv c (hx1 er hv c)
      rw [if_pos c] at p
      refine ⟨true, q1, fun _ a _ => ?_, fun z => nomatch z⟩
      exact ⟨er, dx, v, hv, c, rfl, rfl, fun H => flat_rp fl r, ⟨s2.set (.rf a), ⟨fun _ _ _ _ z => z.elim, fun d O v2 H2 q s2 r2 => p.rt d O v2 H2 q (gdS_out mB hx s2) r2, fun _ _ _ _ z => z.elim, fun _ _ _ _ z => z.elim, fun _ _ _ _ _ _ _ _ _ z => z.elim⟩⟩⟩
    · obtain ⟨⟨q1, q2⟩, fl⟩ := hm2 er ok1 hv c (hx2 er hv c)
      rw [if_neg c] at p
      refine ⟨false, q1, (fun z => nomatch z), fun _ => ⟨true, q2, fun _ a _ => ?_, fun z => nomatch z⟩⟩
      exact ⟨er, dx, v, hv, c, rfl, rfl, fun H => flat_rp fl r, ⟨s2.set (.rf a), ⟨fun _ _ _ _ z => z.elim, fun d O v2 H2 q s2 r2 => p.rt d O v2 H2 q (gdS_out mB hx s2) r2, fun _ _ _ _ z => z.elim, fun _ _ _ _ z => z.elim, fun _ _ _ _ _ _ _ _ _ z => z.elim⟩⟩⟩
end
end DL

set_option Elab.async false
set_option linter.all false
set_option maxRecDepth 100000
set_option maxHeartbeats 4000000
/-! ### C(..), the class in a slot, where its __init__ may raise -/
namespace L2
open PySem PySem.Spec PyProof.Rows
section
variable {X : Cx} {C : Addr} {x : Str} {e : Expr} {es : List Expr} {p pos : Pos}
theorem pe_makeLS {i k : Nat} {f : Addr} {sp : Sp} {E : St → XK} {CX : CXT} {t : TA} (M : Mk X.K C f) (F : FnR X.prog X.w X.K X.mg X.base CX k f sp) (hr : Room (k + 1) X.A) (hN : X.N[i]? = some x) (hv : Vis X.env.scope x) (hx : ∀ σ, PassesAt CX X σ (E σ)) (ha : PA X (e :: es) t)
    (hdb : (x == ("__debug__" : Str)) = false := by decide) (hcd : (x == ("__classdict__" : Str)) = false := by decide)
    (he : starEach (e :: es) X.env = (false, eval e X.env) :: starEach es X.env := by rfl) (hpl : (backTo pos (starEach es X.env)).any (·.1) = false := by rfl) : PE X (.Call (.Name x p) (e :: es) [] pos)
      (fun σ H Q => σ[i]? = some (some (.ref C)) ∧ t σ H fun vs H1 => ∀ x dx, H1 x = Option.none → H1 dx = Option.none → dx ≠ x → sp (V.ref x :: vs) (upd (upd H1 dx (.own x)) x (.ins C dx [])) (fun v H2 => v = .non ∧ Q (.ref x) H2) (E σ)) := by
  refine ⟨fun pins s σ H Q I h => ?_⟩
  obtain ⟨hs, ht⟩ := h
  refine wpAny_Call_Name_kw (thn ((pe_var (pos := p) hN hv hdb hcd).run pins s σ H (fun v H1 => v = .ref C ∧ H1 = H) I ⟨.ref C, hs, rfl, rfl⟩) fun u s1 ⟨v, H1, I1, r1, q1⟩ => ?_)
  obtain ⟨rfl, rfl⟩ := q1
  cases r1
  refine PySem.W.callWith_K (h₀ := X.base) I.ok.mod.kin M.kp (thn (ha.run pos pins s1 σ _ _ I1 ht) fun us s2 ⟨vs, H2, I2, r, q⟩ => ⟨I2.kIn, ?_⟩) he hpl
  exact run_makeRS M F hr (hx σ) I2 r q
end
end L2
namespace DL
open PySem PySem.Spec PyProof.Rows L2 TL
section
variable {X : Cx} {B : Gd} {ρ : List (Option D)} {O : Om} {d : D} {C C0 f : Addr} {ds : List D} {k : Nat} {n x : Str} {e : Expr} {es : List Expr} {pos p : Pos}
theorem er_makeL {Ar : Om → List D → D → Prop} (i : Nat) (hd : ρ[i]? = some (some (.rf C0))) (Mk : Mk X.K C0 f) (F : Fok X.prog X.w X.K X.mg X.base (L2.CX X.prog X.w) k f (spRI X.K C0 C n Ar)) (hr : Room (k + 1) X.A) (tk : Takes X B.W) (ha : EA X B ρ O (e :: es) ds) (h : Ar (B.L ++ O) ds d)
    (hN : X.N[i]? = some x := by rfl) (hv : Vis X.env.scope x := by first | exact Or.inl rfl | exact Or.inr (Or.inl rfl) | exact Or.inr (Or.inr rfl)) (hdb : (x == ("__debug__" : Str)) = false := by decide) (hcd : (x == ("__classdict__" : Str)) = false := by decide)
    (he : starEach (e :: es) X.env = (false, eval e X.env) :: starEach es X.env := by rfl) (hpl : (backTo pos (starEach es X.env)).any (·.1) = false := by rfl) : ER X B ρ O (.Call (.Name x p) (e :: es) [] pos) C n d :=
  pe_imp (pe_makeLS (E := WE B.W) Mk F.raw hr hN hv (fun σ => passAt tk σ) ha hdb hcd he hpl) fun σ H Q ⟨st, k⟩ => by
    obtain ⟨v, hv, rv⟩ := st.env.2 i _ hd
    cases rv
    exact ⟨hv, st, fun vs H1 e1 r1 y dy hy hdy ne => madeR_use (st.same e1).m r1 h (fun dx v H2 e2 hx r2 => k dx v H2 (e1.trans e2) hx r2) y dy hy hdy ne⟩
end
end DL

set_option Elab.async false
set_option linter.all false
set_option maxRecDepth 100000
set_option maxHeartbeats 4000000
namespace L2
open PySem PySem.Spec PyProof.Rows
/-! ### comprehensions of any number of clauses -/
/-- a turn of a block's loop, by what is done behind its tests -/
def turnS (e : Expr) (d : Nat) (tg iter : Expr) (ifs : List Expr) (body : Sem PySem.Fin → Sem PySem.Fin) (it acc : Value) (env : Env) : Sem PySem.Fin := do
  standAt iter.pos
  match ← pyNext it with
  | none => pure (.done .next)
  | some v =>
    letOwnedTupleGo tg it v
    assign tg env v
    let mut ok := true
    for c in ifs do
      if ok then ok ← isTrue c env (eval c env)
    if ok then
      body (again (.compLoop e d it acc env))
    else again (.compLoop e d it acc env)
/-- the next clause, started -/
def bodyC (e : Expr) (d : Nat) (iter : Expr) (acc : Value) (env : Env) (k : Sem PySem.Fin) : Sem PySem.Fin := do
  let x ← eval iter env
  standAt iter.pos
  let x ← foldedSetIterable iter env x
  let _ ← runOwn (.compStart e d (← holding [x] (pyIter x)) acc env) env
  k
def bodyE (emit : Sem Unit) (k : Sem PySem.Fin) : Sem PySem.Fin := do
  emit
  k
def IsNode (e : Expr) : Prop := (∃ elt gs sc pos, e = .ListComp elt gs sc pos) ∨ ∃ k v gs sc pos, e = .DictComp k v gs sc pos
section
variable {prog : Program} {w : World} {A : Around} {R : Result → Shared → Prop} {s : Shared} {e tg iter : Expr} {ifs : List Expr} {it acc : Value} {env : Env} {d : Nat} {body : Sem PySem.Fin → Sem PySem.Fin}
theorem loopS_any (hn : IsNode e) (ht : compTurn e d it acc env = turnS e d tg iter ifs body it acc env) (I : Nat → Shared → Prop)
    (turn : ∀ n s, I n s → wpAny (model prog w) A (pyNext it) (fun r s₁ => match r with
      | none => R (.ok .next) s₁
      | some v => wpAny (model prog w) A (letOwnedTupleGo tg it v) (fun _ s₁' => wpAny (model prog w) A (assign tg env v) (fun _ s₂ =>
          wpAny (model prog w) A (forIn ifs true fun c r => if r = true then do let ok ← isTrue c env (eval c env); pure (ForInStep.yield ok) else pure (ForInStep.yield r)) (fun ok s₃ =>
            if ok = true then ∀ (k : Sem PySem.Fin) (R' : PySem.Fin → Shared → Prop) (E' : Value → Shared → Prop), (∀ s₅, (∃ m, m < n ∧ I m s₅) → wpAny (model prog w) A k R' E' s₅) → wpAny (model prog w) A (body k) R' E' s₃
            else ∃ m, m < n ∧ I m s₃) (notedBy (model prog w) A env fun e s' => R (.error e) s') s₂) (notedBy (model prog w) A env fun e s' => R (.error e) s') s₁') (notedBy (model prog w) A env fun e s' => R (.error e) s') s₁) (notedBy (model prog w) A env fun e s' => R (.error e) s') s)
    (n : Nat) (h : I n s) :
    codeAny (model prog w) A (.compLoop e d it acc env) R s := by
  have hq : (Code.compLoop e d it acc env).quiet = true := rfl
  refine codeAny_loop hq I (fun n s hI => ?_) n h
  have hd : wpAny (model prog w) A ((compTurn e d it acc env).onRaise (fun x => do noteFrame x env; theTreesLotGoes x)) (fun fin s' => match fin with | .done f => R (.ok f) s' | .again c' => c' = Code.compLoop e d it acc env ∧ ∃ m, m < n ∧ I m s') (fun e s' => R (.error e) s') s := by
    refine wpAny_noted ?_
    rw [ht]
    unfold turnS
    refine wpAny_bind (wpAny_standAt (wpAny_bind (wpAny_mono (turn n s hI) (fun r s₁ h₁ => ?_) fun _ _ h' => h')))
    cases r with
    | none => exact wpAny_pure h₁
    | some v =>
      refine wpAny_bind (wpAny_mono h₁ (fun _ s₁' h₁' => ?_) fun _ _ h' => h')
      refine wpAny_bind (wpAny_mono h₁' (fun _ s₂ h₂ => wpAny_bind (wpAny_mono h₂ (fun ok s₃ h₃ => ?_) fun _ _ h' => h')) fun _ _ h' => h')
      cases ok with
      | false => exact wpAny_pure ⟨rfl, h₃⟩
      | true => exact h₃ _ _ _ fun s₅ h₅ => wpAny_pure ⟨rfl, h₅⟩
  rcases hn with ⟨_, _, _, _, rfl⟩ | ⟨_, _, _, _, _, rfl⟩ <;> exact hd
theorem startS_any {g : Comprehension} (hn : IsNode e) (hg : (clausesOf e)[d]? = some g) (ha : (g.is_async != 0) = false) (h0 : codeAny (model prog w) A (.compLoop e d it acc env) R s)
    (h : wpAny (model prog w) A (pyIter it) (fun it' s' => codeAny (model prog w) A (.compLoop e d it' acc env) R s')
      (notedBy (model prog w) A env fun x s' => R (.error x) s') s) :
    codeAny (model prog w) A (.compStart e d it acc env) R s := by
  refine codeAny_of_tree ?_
  have hd : wpAny (model prog w) A ((compStart e d it acc env).onRaise (fun x => do noteFrame x env; standAt theWindowsPlace)) (fun fin s' => match fin with
      | .done f => R (.ok f) s'
      | .again c' => c'.quiet = true ∧ codeAny (model prog w) A c' R s') (fun e s' => R (.error e) s') s := by
    refine wpAny_notedAt ?_
    unfold compStart
    rw [hg]
    simp only [Option.elim_some, ha, Bool.false_eq_true, if_false]
    show wpAny _ _ (ask >>= _) _ _ s
    refine wpAny_bind (wpAny_askSetting (wpAny_ite ?_))
    split
    · first
        | exact wpAny_bind (wpAny_pure (wpAny_pure (And.intro rfl h0)))
        | exact wpAny_pure (And.intro rfl h0)
    · first
        | exact wpAny_bind (wpAny_rule (wpAny_bind (wpAny_standAt (wpAny_bind (wpAny_mono h (fun it' s' h' => wpAny_pure (And.intro rfl h')) fun _ _ x => x)))))
        | (refine wpAny_bind (wpAny_rule ?_); show wpAny _ _ (standAt g.iter.pos >>= _) _ _ s; exact wpAny_bind (wpAny_standAt (wpAny_bind (wpAny_mono h (fun it' s' h' => wpAny_pure (And.intro rfl h')) fun _ _ x => x))))
  rcases hn with ⟨_, _, _, _, rfl⟩ | ⟨_, _, _, _, _, rfl⟩ <;> exact hd
end
/-- what a block does at its core, from which Nx is to be reached -/
abbrev TB := St → Hp → (Hp → Prop) → Prop
structure Clz where
  wi : TI
  g : TG
  tt : TT
  vs : List Nat
def tCl : List Clz → TB → TB
  | [], te => te
  | c :: cs, te => fun σ H Nx => c.wi σ H fun J1 H4 => ∃ W1 : Nat → Nat → Hp → Prop, (∃ m, W1 0 m H4) ∧ ∀ j k H, W1 j k H →
      (J1.stop j H ∧ Nx H) ∨ (J1.go j H ∧ ∃ Nx1 : Hp → Prop, (∀ H', Nx1 H' → ∃ k', k' < k ∧ W1 (j + 1) k' H') ∧ ∀ x H', J1.yld j H x H' → c.g x (wipe σ c.vs) H' fun σ3 H5 => wipe σ3 c.vs = wipe σ c.vs ∧ c.tt σ3 H5 fun b H6 =>
        if b = true then tCl cs te σ3 H6 Nx1 else Nx1 H6)
/-- the slots that are not the block's own are as they were -/
def OffE (own : List Nat) (σ σ' : St) : Prop := σ'.length = σ.length ∧ ∀ j, j ∉ own → σ'[j]? = σ[j]?
theorem OffE.refl {own : List Nat} {σ : St} : OffE own σ σ := ⟨rfl, fun _ _ => rfl⟩
theorem OffE.trans {own : List Nat} {σ σ1 σ2 : St} (a : OffE own σ σ1) (b : OffE own σ1 σ2) : OffE own σ σ2 := ⟨b.1.trans a.1, fun j h => (b.2 j h).trans (a.2 j h)⟩
theorem OffE.wipe {own vs : List Nat} {σ : St} (h : ∀ i ∈ vs, i ∈ own) : OffE own σ (wipe σ vs) := ⟨wipe_length σ vs, fun j hj => wipe_out fun z => hj (h j z)⟩
theorem OffE.of_wipe {own vs : List Nat} {σ σ' : St} (h : ∀ i ∈ vs, i ∈ own) (e : L2.wipe σ' vs = L2.wipe σ vs) : OffE own σ σ' := ⟨by rw [← wipe_length σ' vs, e, wipe_length], fun j hj => by
  rw [← wipe_out (vs := vs) (σ := σ') fun z => hj (h j z), e, wipe_out fun z => hj (h j z)]⟩
structure BodyOk (X : Cx) (own : List Nat) (body : Sem PySem.Fin → Sem PySem.Fin) (te : TB) : Prop where
  run : ∀ (pins : List (Addr × Obj)) (s : Shared) (σ : St) (H : Hp) (Nx : Hp → Prop), Inv X pins σ H s → te σ H Nx → ∀ (k : Sem PySem.Fin) (R : PySem.Fin → Shared → Prop) (E : Value → Shared → Prop),
    (∀ σ' H' s', Inv X pins σ' H' s' → OffE own σ σ' → Nx H' → wpAny (model X.prog X.w) X.A k R E s') → wpAny (model X.prog X.w) X.A (body k) R E s
section
variable {X : Cx} {own sub : List Nat} {e tg iter : Expr} {ifs : List Expr} {acc : Value} {d : Nat} {body : Sem PySem.Fin → Sem PySem.Fin} {te : TB} {c : Clz} {cs : List Clz}
theorem body_clause (hxe : X.xe = fun _ _ => False) (hn : IsNode e) (hc : X.calm = true) (hcl : (clausesOf e)[d]? = some ⟨tg, iter, ifs, 0⟩) (ht : ∀ it, compTurn e d it acc X.env = turnS e d tg iter ifs body it acc X.env) (hs : ∀ env x, foldedSetIterable iter env x = pure x)
    (hi : PI X tg iter c.wi) (hg : PG X tg c.g) (hts : PTs X ifs c.tt) (hv : ∀ i ∈ sub, i ∈ c.vs) (hb : BodyOk X sub body (tCl cs te)) : BodyOk X c.vs (bodyC e d iter acc X.env) (tCl (c :: cs) te) := ⟨fun pins s9 σ8 H9 Nx I9 q9 k RR EE hk => by
  unfold bodyC
  have ri := hi.run _ s9 σ8 H9 _ I9 q9
  rw [hxe] at ri
  refine wpAny_bind (thnF ri fun xv s10 hx => ?_)
  refine wpAny_bind (wpAny_standAt (wpAny_bind (wpAny_of_eq (hs _ xv) (wpAny_bind (wpAny_holding (thnF hx fun itv s11 h11 => ?_))))))
  obtain ⟨it1, fp1, tn1, J1, H11, e1, I11, T1, st11, f11, W1, ⟨m1, w1⟩, turn1⟩ := h11
  subst e1
  have stat1 : ∀ {H' : Hp}, (∀ b ∈ fp1, H' b = none) → ∀ b ∈ fp1, FpOk X pins H' b := fun hn b hb => ⟨hn b hb, (f11 b hb).2⟩
  have loop1 : codeAny (model X.prog X.w) X.A (.compLoop e d (.ref it1) acc X.env)
      (fun r s' => match r with
        | .ok _ => ∃ σ' H', Inv X pins σ' H' s' ∧ OffE c.vs σ8 σ' ∧ Nx H'
        | .error _ => False) s11 := by
    refine loopS_any hn (ht _) (fun k s' => ∃ j H', Inv X pins (wipe σ8 c.vs) H' s' ∧ tn1 j s'.heap ∧ (∀ b ∈ fp1, H' b = none) ∧ W1 j k H') ?_ m1 ⟨0, H11, I11.weak (wipe_length _ _) (fun j v e => (wipe_some e).1), st11, fun b hb => (f11 b hb).1, w1⟩
    rintro k s12 ⟨j, H12, I12, st12, n12, w12⟩
    rcases turn1 j k H12 w12 with ⟨stop1, nx1⟩ | ⟨go1, Nx1, hNx1, step1⟩
    · refine thnF (T1.done X rfl rfl rfl hc j _ s12 (wipe σ8 c.vs) H12 (fun _ _ => False) I12 (stat1 n12) st12 stop1) fun r s13 ⟨hr, I13⟩ => ?_
      subst hr
      exact ⟨_, _, I13, .wipe fun _ h => h, nx1⟩
    · refine thnF (T1.item X rfl rfl rfl hc j _ s12 (wipe σ8 c.vs) H12 (fun _ _ => False) I12 (stat1 n12) st12 go1) fun r s13 ⟨u1, hr, h13⟩ => ?_
      subst hr
      refine thnF h13 fun _ s14 ⟨x1, H14, I14, r14, y14, st14, n14⟩ => ?_
      have I14' := I14.pinned (stat1 n14) (T1.obj _ _ st14)
      have rg := hg.run _ s14 (wipe σ8 c.vs) H14 x1 u1 _ I14' r14 (step1 x1 H14 y14)
      rw [hxe] at rg
      refine thnF rg fun _ s15 ⟨σ15, H15, I15, hw15, q15⟩ => ?_
      have rt := hts.run _ s15 σ15 H15 _ I15 q15
      rw [hxe] at rt
      refine thnF rt fun b1 s16 ⟨H16, I16, q16⟩ => ?_
      have k15 : ∀ (j : Nat) v, (wipe σ8 c.vs)[j]? = some (some v) → σ15[j]? = some (some v) := fun j v e => by rw [← hw15] at e; exact (wipe_some e).1
      have fin1 : ∀ {s' : Shared} {σ' : St} {H' : Hp}, Inv X (pins ++ pinsAt fp1 s14.heap) σ' H' s' → OffE sub σ15 σ' → Nx1 H' → ∃ m, m < k ∧ ∃ j H', Inv X pins (wipe σ8 c.vs) H' s' ∧ tn1 j s'.heap ∧ (∀ b ∈ fp1, H' b = none) ∧ W1 j m H' := fun {s' σ' H'} I' of nx => by
        obtain ⟨m', hm, w'⟩ := hNx1 H' nx
        have pin' : ∀ b ∈ fp1, ∀ o, s14.heap.get? b = some o → s'.heap.get? b = some o ∧ H' b = none := fun b hb o e =>
          let z := I'.pin (b, o) (List.mem_append_right _ (List.mem_append_right _ (mem_pinsAt hb e)))
          ⟨z.1, z.2.1⟩
        refine ⟨m', hm, j + 1, H', I'.unpinned.weak (by rw [of.1, ← wipe_length σ15 c.vs, hw15, wipe_length]) (fun i v e => ?_), T1.keep _ _ _ st14 fun b hb o e => (pin' b hb o e).1, fun b hb => ?_, w'⟩
        · rw [of.2 i fun z => (wipe_some e).2 (hv i z)]
          exact k15 i v e
        · obtain ⟨o, e, _⟩ := T1.obj _ _ st14 b hb
          exact (pin' b hb o e).2
      cases b1 with
      | false =>
        simp only [Bool.false_eq_true, if_false] at q16 ⊢
        exact fin1 I16 .refl q16
      | true =>
        simp only [if_true] at q16 ⊢
        exact fun k' R' E' hk' => hb.run _ s16 σ15 H16 _ I16 q16 k' R' E' fun σ17 H17 s17 I17 of17 nx => hk' _ (fin1 I17 of17 nx)
  refine wpAny_bind (wpAny_runOwn ?_)
  rw [Around.mark_none]
  refine codeAny_mono (startS_any hn hcl rfl loop1 (T1.self X.A 0 _ _ _ st11 loop1)) fun r s' hr => ?_
  cases r with
  | ok f =>
    obtain ⟨σ', H', I', of', nx⟩ := hr
    first
      | exact hk σ' H' s' I' of' nx
      | exact wpAny_bind (wpAny_pure (hk σ' H' s' I' of' nx))
  | error e => exact hr.elim⟩
/-- a list's item added -/
theorem body_list {elt : Expr} {t : TE} {D : Addr} (hxe : X.xe = fun _ _ => False) (he : PE X elt t) :
    BodyOk X [] (bodyE (do let _ ← call (.builtin "list.append") [.ref D, ← eval elt X.env])) (fun σ H Nx => t σ H fun y H7 => ∃ acc, H7 D = some (.lst acc) ∧ acc.length < sizeLine ∧ Nx (upd H7 D (.lst (acc ++ [y])))) := ⟨fun pins s σ H Nx I q k R E hk => by
  have re := he.run _ s σ H _ I q
  rw [hxe] at re
  refine wpAny_bind (wpAny_bind (thnF re fun z s17 ⟨yv, H17, I17, r17, acc, hD17, hz17, nx⟩ => wpAny_bind ?_))
  exact app_ok (X := X) I17 hD17 hz17 r17 fun s18 I18 => wpAny_pure (hk _ _ _ I18 .refl nx)⟩
/-- the whole -/
def tCn (c : Clz) (cs : List Clz) (te : Addr → TB) (ho : Addr → HO) : TE := fun σ H Q => c.wi σ H fun J H1 => ∀ D, H1 D = none → (D == sysModules) = false → ∃ W : Nat → Nat → Hp → Prop, (∃ m, W 0 m (upd H1 D (ho D))) ∧ ∀ i m H, W i m H →
  (J.stop i H ∧ Q (.ref D) H) ∨ (J.go i H ∧ ∃ Nx : Hp → Prop, (∀ H', Nx H' → ∃ m', m' < m ∧ W (i + 1) m' H') ∧ ∀ x H', J.yld i H x H' → c.g x (wipe σ c.vs) H' fun σ2 H2 => wipe σ2 c.vs = wipe σ c.vs ∧ c.tt σ2 H2 fun b H3 =>
    if b = true then tCl cs (te D) σ2 H3 Nx else Nx H3)
theorem cn_core {pins : List (Addr × Obj)} {s : Shared} {σ : St} {H : Hp} {Q : VK} {scope : Scope} {own : List (Str × Nat)} {pos' : Pos} {use : Option (Value → Sem Unit)} {Qf : Value → Shared → Prop} {gs : List Comprehension} {newAcc : Sem Value} {ob : Obj} {ho : Addr → HO} {body : Value → Env → Sem PySem.Fin → Sem PySem.Fin} {te : Addr → TB}
    (hn : IsNode e) (hc : X.calm = true) (hN : X.N.Nodup) (I : Inv X pins σ H s) (hcl : clausesOf e = ⟨tg, iter, ifs, 0⟩ :: gs) (hi : PI X tg iter c.wi) (ok : BlkOk X.N X.env.scope scope own) (hown : c.vs = own.map (·.2)) (hv : ∀ i ∈ sub, i ∈ c.vs)
    (hacc : ∀ {A : Around} {E : Value → Shared → Prop} {Q : Value → Shared → Prop} {s : Shared}, Q (.ref s.heap.objs.size) { s with heap := s.heap.push ob } → wpAny (model X.prog X.w) A newAcc Q E s)
    (hob : ∀ (H : Hp) (h : Heap), sysModules < h.objs.size → ObjOk X.prog X.w (upd H h.objs.size (ho h.objs.size)) (h.push ob) h.objs.size (ho h.objs.size))
    (ht : ∀ it D env, compTurn e 0 it (.ref D) env = turnS e 0 tg iter ifs (body (.ref D) env) it (.ref D) env)
    (hg : ∀ (s : Shared) (H : Hp) (C : Addr) (cl : List (Str × Addr)) (fp : List Addr), PG (X.blk s H scope (compEnvC scope cl C X.env) fp) tg c.g) (hts : ∀ (s : Shared) (H : Hp) (C : Addr) (cl : List (Str × Addr)) (fp : List Addr), PTs (X.blk s H scope (compEnvC scope cl C X.env) fp) ifs c.tt)
    (hb : ∀ (s : Shared) (H : Hp) (C : Addr) (cl : List (Str × Addr)) (fp : List Addr) (D : Addr), BodyOk (X.blk s H scope (compEnvC scope cl C X.env) fp) sub (body (.ref D) (compEnvC scope cl C X.env)) (tCl cs (te D))) (hs : ∀ x, foldedSetIterable iter X.env x = pure x)
    (h : tCn c cs te ho σ H Q)
    (hRR : ∀ D C s' m H', Inv X pins σ H' s' → Q (.ref D) H' → s'.heap.Ns C m → FpOk X pins H' C → compPost (model X.prog X.w) X.A X.xe use Qf (.ref D) C (.ok .next) s') :
    wpAny (model X.prog X.w) X.A (comprehension e scope X.env pos' newAcc false (eval iter X.env) use) Qf X.xe s := by
  have hfree : ∀ y ∈ scope.names, y.2 = .free → ∃ c, X.env.cells.lookup y.1 = some c := fun y hy e => by
    rcases ok.free y hy e with k | k
    · exact I.ok.has _ (.inl k)
    · exact I.ok.has _ (.inr k)
  refine wpAny_comprehension_free (use := use) hcl hs (closure_ok hfree) ok.kind (fun y hy e => by rw [ok.uniq y hy, e])
    (thn (hi.run pins s σ H _ I h) fun xv s1 hx => thn hx fun itv s2 h2 => ?_)
  obtain ⟨it, fp, tn, J, H2, ee, I2, T, st2, f2, q⟩ := h2
  subst ee
  refine hacc (newEnv_comp ?_)
  generalize hD : s2.heap.objs.size = D
  have hDn : H2 D = none := I2.hok.fresh (Nat.le_of_eq hD)
  obtain ⟨W, ⟨m0, w0⟩, turn⟩ := q D hDn (by rw [← hD]; exact beq_eq_false_iff_ne.mpr (Nat.ne_of_gt I2.big))
  generalize hs3 : ({ s2 with heap := s2.heap.push ob } : Shared) = s3
  have I3 : Inv X pins σ (upd H2 D (ho D)) s3 := by
    rw [← hs3]
    refine I2.laid (t' := s2.toks) (fun b o e => Heap.get?_push_of_some _ e) (Nat.le_of_eq hD) ?_
    rw [← hD]
    exact hob _ _ I2.big
  have h3 : s3.heap = s2.heap.push ob := by rw [← hs3]
  have sz : ∀ b ∈ fp, b < s2.heap.objs.size := fun b hb => by
    obtain ⟨o, e, _⟩ := T.obj _ _ st2 b hb
    exact Heap.lt_size e
  have f3 : ∀ b ∈ fp, FpOk X pins (upd H2 D (ho D)) b ∧ b < s3.heap.objs.size := fun b hb => by
    have hlt := sz b hb
    refine ⟨⟨?_, (f2 b hb).2⟩, by rw [h3, Heap.size_push]; exact Nat.lt_succ_of_lt hlt⟩
    rw [upd_ne (by rw [← hD]; exact Nat.ne_of_lt hlt)]
    exact (f2 b hb).1
  have st3 : tn 0 s3.heap := T.keep _ _ _ st2 fun b _ o e => by rw [h3]; exact Heap.get?_push_of_some _ e
  have I4 := block_start I3 ok hN f3
  have pg := hg s3 (upd H2 D (ho D)) s3.heap.objs.size (cellsFrom (s3.heap.objs.size + 1) scope.names (cloFrom X.env.cells scope.names [])) fp
  have pt := hts s3 (upd H2 D (ho D)) s3.heap.objs.size (cellsFrom (s3.heap.objs.size + 1) scope.names (cloFrom X.env.cells scope.names [])) fp
  have pb := hb s3 (upd H2 D (ho D)) s3.heap.objs.size (cellsFrom (s3.heap.objs.size + 1) scope.names (cloFrom X.env.cells scope.names [])) fp D
  have ht' := fun it => ht it D (compEnvC scope (cellsFrom (s3.heap.objs.size + 1) scope.names (cloFrom X.env.cells scope.names [])) s3.heap.objs.size X.env)
  show codeAny _ _ (.compStart e 0 (.ref it) (.ref D) (compEnvC scope (cellsFrom (s3.heap.objs.size + 1) scope.names (cloFrom X.env.cells scope.names [])) s3.heap.objs.size X.env)) (compPost (model X.prog X.w) X.A X.xe use Qf (.ref D) s3.heap.objs.size) { s3 with heap := pushCells (s3.heap.push { cls := .type "dict", data := .dict #[] }) scope.names }
  have nfp : ∀ b ∈ fp, (upd H2 D (ho D)) b = none := fun b hb => (f3 b hb).1.1
  generalize hce : compEnvC scope (cellsFrom (s3.heap.objs.size + 1) scope.names (cloFrom X.env.cells scope.names [])) s3.heap.objs.size X.env = ce at I4 pg pt pb ht' ⊢
  have cL : ce.locals = s3.heap.objs.size := by subst hce; rfl
  generalize hH3 : upd H2 D (ho D) = H3 at I3 I4 pg pt pb w0 nfp f3
  generalize hs4 : ({ s3 with heap := pushCells (s3.heap.push { cls := .type "dict", data := .dict #[] }) scope.names } : Shared) = s4 at I4 ⊢
  have st4 : tn 0 s4.heap := T.keep _ _ _ st3 fun b _ o e => by rw [← hs4]; exact pushCells_keeps _ _ _ _ (Heap.get?_push_of_some _ e)
  have stat : ∀ {σ' : St} {H' : Hp} {s' : Shared}, Inv (X.blk s3 H3 scope ce fp) [] σ' H' s' → (∀ b ∈ fp, H' b = none) → ∀ b ∈ fp, FpOk (X.blk s3 H3 scope ce fp) [] H' b := fun {σ' H' s'} I' hn b hb =>
    ⟨hn b hb, (I'.ok.exf b hb).1, I'.ok.exfs b hb, .inl hb, fun x c e => (I'.ok.exf b hb).2 x c e, fun p hp => absurd (show p ∈ ([] : List (Addr × Obj)) ++ [] from hp) (by simp)⟩
  rw [hown] at turn
  have loop : codeAny (model X.prog X.w) X.A (.compLoop e 0 (.ref it) (.ref D) ce) (compPost (model X.prog X.w) X.A X.xe use Qf (.ref D) s3.heap.objs.size) s4 := by
    refine loopS_any hn (ht' _) (fun n s' => ∃ i H', Inv (X.blk s3 H3 scope ce fp) [] (wipe σ (own.map (·.2))) H' s' ∧ tn i s'.heap ∧ (∀ b ∈ fp, H' b = none) ∧ W i n H') ?_ m0 ⟨0, H3, I4, st4, nfp, w0⟩
    rintro n s5 ⟨i, H5, I5, st5, n5, w5⟩
    rcases turn i n H5 w5 with ⟨stop, qq⟩ | ⟨go, Nx, hNx, step⟩
    · have td := T.done (X.blk s3 H3 scope ce fp) rfl rfl rfl hc i [] s5 _ H5 (fun _ _ => False) I5 (stat I5 n5) st5 stop
      refine thnF td fun r s6 ⟨hr, I6⟩ => ?_
      subst hr
      -- back in the def's context
      have I7 : Inv X pins σ H5 s6 := I3.call' (ch := fp) I6.os I6.base I6.hok I6.bare fun b hb => ⟨(f3 b hb).1.2.2.2.1, (f3 b hb).1.2.1, (f3 b hb).1.2.2.2.2.1, (f3 b hb).1.2.2.2.2.2⟩
      have nC : H5 s3.heap.objs.size = none := by
        have z : H5 ce.locals = none := I6.free
        rw [cL] at z
        exact z
      obtain ⟨m, hn, _⟩ := I6.loc
      have hn : s6.heap.Ns ce.locals m := hn
      rw [cL] at hn
      exact hRR D s3.heap.objs.size s6 m H5 I7 qq hn (I3.fpOk (Nat.le_refl _) nC)
    · have ti := T.item (X.blk s3 H3 scope ce fp) rfl rfl rfl hc i [] s5 _ H5 (fun _ _ => False) I5 (stat I5 n5) st5 go
      refine thnF ti fun r s6 ⟨u, hr, h6⟩ => ?_
      subst hr
      refine thnF h6 fun _ s7 ⟨x, H7, I7, r7, y7, st7, n7⟩ => ?_
      have I7' := I7.pinned (stat I7 n7) (T.obj _ _ st7)
      refine thnF (pg.run _ s7 _ H7 x u _ I7' r7 (step x H7 y7)) fun _ s8 ⟨σ8, H8, I8, hw8, q8⟩ => ?_
      refine thnF (pt.run _ s8 σ8 H8 _ I8 q8) fun b s9 ⟨H9, I9, q9⟩ => ?_
      -- the turn's end
      have fin : ∀ {σ9 : St} {s' : Shared} {H' : Hp}, Inv (X.blk s3 H3 scope ce fp) ([] ++ pinsAt fp s7.heap) σ9 H' s' → OffE sub σ8 σ9 → Nx H' → ∃ m, m < n ∧ ∃ i H', Inv (X.blk s3 H3 scope ce fp) [] (wipe σ (own.map (·.2))) H' s' ∧ tn i s'.heap ∧ (∀ b ∈ fp, H' b = none) ∧ W i m H' := fun {σ9 s' H'} I' of nx => by
        obtain ⟨m', hm, w'⟩ := hNx H' nx
        have pin' : ∀ b ∈ fp, ∀ o, s7.heap.get? b = some o → s'.heap.get? b = some o ∧ H' b = none := fun b hb o e =>
          let z := I'.pin (b, o) (List.mem_append_right _ (List.mem_append_right _ (mem_pinsAt hb e)))
          ⟨z.1, z.2.1⟩
        refine ⟨m', hm, i + 1, H', (I'.unpinned (pins := [])).weak (by rw [of.1, ← hw8, wipe_length]) (fun j v e => ?_), T.keep _ _ _ st7 fun b hb o e => (pin' b hb o e).1, fun b hb => ?_, w'⟩
        · rw [of.2 j fun z => (wipe_some e).2 (by rw [← hown]; exact hv j z)]
          rw [← hw8] at e
          exact (wipe_some e).1
        · obtain ⟨o, e, _⟩ := T.obj _ _ st7 b hb
          exact (pin' b hb o e).2
      cases b with
      | false =>
        simp only [Bool.false_eq_true, if_false] at q9 ⊢
        exact fin I9 .refl q9
      | true =>
        simp only [if_true] at q9 ⊢
        exact fun k' R' E' hk' => pb.run _ s9 σ8 H9 _ I9 q9 k' R' E' fun σ11 H11 s11 I11 of11 nx => hk' _ (fin I11 of11 nx)
  exact startS_any hn (by rw [hcl]; rfl) rfl loop (T.self X.A 0 _ _ _ st4 loop)
/-- a list's comprehension, run for whatever its list is used -/
def LcRun (X : Cx) (elt : Expr) (gs : List Comprehension) (iter : Expr) (scope : Scope) (pos : Pos) (t : TE) : Prop := ∀ {pins : List (Addr × Obj)} {s : Shared} {σ : St} {H : Hp} {Q : VK} {pos' : Pos} {use : Option (Value → Sem Unit)} {Qf : Value → Shared → Prop}, Inv X pins σ H s → t σ H Q →
  (∀ D C s' m H', Inv X pins σ H' s' → Q (.ref D) H' → s'.heap.Ns C m → FpOk X pins H' C → compPost (model X.prog X.w) X.A X.xe use Qf (.ref D) C (.ok .next) s') →
  wpAny (model X.prog X.w) X.A (comprehension (.ListComp elt gs scope pos) scope X.env pos' (newList []) false (eval iter X.env) use) Qf X.xe s
theorem lc_run {elt : Expr} {gs : List Comprehension} {scope : Scope} {own : List (Str × Nat)} {pos : Pos} {body : Value → Env → Sem PySem.Fin → Sem PySem.Fin} {te : Addr → TB} (hc : X.calm = true) (hN : X.N.Nodup) (hi : PI X tg iter c.wi) (ok : BlkOk X.N X.env.scope scope own) (hown : c.vs = own.map (·.2)) (hv : ∀ i ∈ sub, i ∈ c.vs)
    (ht : ∀ it D env, compTurn (.ListComp elt (⟨tg, iter, ifs, 0⟩ :: gs) scope pos) 0 it (.ref D) env = turnS (.ListComp elt (⟨tg, iter, ifs, 0⟩ :: gs) scope pos) 0 tg iter ifs (body (.ref D) env) it (.ref D) env)
    (hg : ∀ (s : Shared) (H : Hp) (C : Addr) (cl : List (Str × Addr)) (fp : List Addr), PG (X.blk s H scope (compEnvC scope cl C X.env) fp) tg c.g) (hts : ∀ (s : Shared) (H : Hp) (C : Addr) (cl : List (Str × Addr)) (fp : List Addr), PTs (X.blk s H scope (compEnvC scope cl C X.env) fp) ifs c.tt)
    (hb : ∀ (s : Shared) (H : Hp) (C : Addr) (cl : List (Str × Addr)) (fp : List Addr) (D : Addr), BodyOk (X.blk s H scope (compEnvC scope cl C X.env) fp) sub (body (.ref D) (compEnvC scope cl C X.env)) (tCl cs (te D))) (hs : ∀ x, foldedSetIterable iter X.env x = pure x := by intro _; rfl) :
    LcRun X elt (⟨tg, iter, ifs, 0⟩ :: gs) iter scope pos (tCn c cs te fun _ => .lst []) := fun I h hRR =>
  cn_core (ho := fun _ => .lst []) (ob := { cls := .type "list", data := .seq ([] : List Value).toArray }) (.inl ⟨_, _, _, _, rfl⟩) hc hN I rfl hi ok hown hv (fun {A E Q s} q => wpAny_newObj_type q (by show 0 ≤ sizeLine; decide)) (fun H h _ => ⟨Nat.zero_le _, [], 0, .nil, Heap.get?_push_size _ rfl⟩) ht hg hts hb hs h hRR
theorem LcRun.imp {elt : Expr} {gs : List Comprehension} {scope : Scope} {pos : Pos} {t t' : TE} (h : LcRun X elt gs iter scope pos t) (w : ∀ σ H Q, t' σ H Q → t σ H Q) : LcRun X elt gs iter scope pos t' := fun I q hRR => h I (w _ _ _ q) hRR
/-- [elt for .. for ..] as a value -/
theorem pe_lcr {elt : Expr} {gs : List Comprehension} {scope : Scope} {pos : Pos} {t : TE} (h : LcRun X elt (⟨tg, iter, ifs, 0⟩ :: gs) iter scope pos t) : PE X (.ListComp elt (⟨tg, iter, ifs, 0⟩ :: gs) scope pos) t := by
  refine ⟨fun pins s σ H Q I q => ?_⟩
  rw [eval_ListComp]
  refine h I q fun D C s' m H' I' q hn f => ⟨m, hn, fun h'' sb => ?_⟩
  obtain ⟨f0, f1, f2, f3, f4, f5⟩ := f
  exact ⟨.ref D, H', I'.turned (t' := s'.toks) (fun b o hb e => (sb.2 b hb).trans e) f0 f1 f3 f4 f5, rfl, q⟩
/-- name = [..] on one line, the name a local -/
theorem ps_setLcr {i : Nat} {y : Str} {py spos : Pos} {elt : Expr} {gs : List Comprehension} {scope : Scope} {pos : Pos} {t : TE} (h : LcRun X elt (⟨tg, iter, ifs, 0⟩ :: gs) iter scope pos t) (hN : X.N.Nodup) (hy : X.N[i]? = some y) (hyl : X.env.scope.names.lookup y = some .local)
    (hsw : swapsWith (.ListComp elt (⟨tg, iter, ifs, 0⟩ :: gs) scope pos) (some (.Name y py)) spos.line X.env = pure true) :
    PS X (.Assign [.Name y py] (.ListComp elt (⟨tg, iter, ifs, 0⟩ :: gs) scope pos) spos) (tAsg t (gName i)) := by
  refine ⟨fun pins s σ H D I hq => ?_⟩
  rw [exec_Assign_Name_used _ _ _ _ hsw]
  refine wpAny_bind (wpAny_standAt (wpAny_bind ?_))
  show wpAny _ X.A (do let _ ← comprehension (.ListComp elt (⟨tg, iter, ifs, 0⟩ :: gs) scope pos) scope X.env (firstIterPos (⟨tg, iter, ifs, 0⟩ :: gs) pos) (newList []) false (eval iter X.env) (some (assign (.Name y py) X.env))) _ _ s
  have hq : t σ H (fun x H1 => gName i x σ H1 D.nx) := hq
  refine wpAny_bind (thn (h (Qf := fun _ s' => SP X pins D .next s') I hq fun L C s' m H' I' q hn f => ?_) fun _ s' hq => wpAny_pure (wpAny_pure hq))
  show wpAny _ _ (assign (.Name y py) X.env (.ref L)) _ _ _
  refine wpAny_assign_Name (store_ok2 (v := V.ref L) I' hN hy (.inl hyl) rfl (fun s2 I2 ⟨a, sb, ha⟩ => ?_) (.inr hyl))
  obtain ⟨f0, f1, f2, f3, f4, f5⟩ := f
  have haC : C ≠ a := by
    rcases ha with z | z
    · rw [z]; exact f1
    · exact fun e => f4 y a z e.symm
  refine ⟨m, hn.sameBut sb haC, fun h3 sb3 => ?_⟩
  exact ⟨_, H', I2.turned (t' := s2.toks) (fun b o hb e => (sb3.2 b hb).trans e) f0 f1 f3 f4 f5, q⟩
end
end L2

set_option Elab.async false
set_option linter.all false
set_option maxRecDepth 100000
set_option maxHeartbeats 4000000
namespace DL
open PySem PySem.Spec PyProof.Rows L2
/-! ### comprehensions of any number of clauses -/
/-- what a block gathers at D: seen by the visible heap and the whole heap -/
structure AccK (A E : Type) where
  P : Addr → Hp → Hp → A → Prop
  size : A → Nat
  step : A → E → A
  mono : ∀ {D : Addr} {Hv Hv' H H' : Hp} {a : A}, P D Hv H a → Same Hv Hv' → H' D = H D → P D Hv' H' a
  there : ∀ {D : Addr} {Hv H : Hp} {a : A}, P D Hv H a → ∃ o, H D = some o
  grow : ∀ a x, size (step a x) ≤ size a + 1
theorem AccK.growL {A E : Type} (AC : AccK A E) (l : List E) : ∀ a, AC.size (l.foldl AC.step a) ≤ AC.size a + l.length := by
  induction l with
  | nil => intro a; exact Nat.le_refl _
  | cons x l ih =>
    intro a
    have h1 := ih (AC.step a x)
    have h2 := AC.grow a x
    simp only [List.foldl_cons, List.length_cons]
    omega
theorem split_flat {α E : Type} {xs : List α} {pr : α → Bool} {out : α → List E} {i : Nat} (hlt : i < xs.length) (hp : pr xs[i] = true) : ((xs.filter pr).flatMap out) = (((xs.take i).filter pr).flatMap out) ++ out xs[i] ++ (((xs.drop (i + 1)).filter pr).flatMap out) := by
  have e : xs.drop i = xs[i] :: xs.drop (i + 1) := List.drop_eq_getElem_cons hlt
  have e2 : xs.filter pr = (xs.take i).filter pr ++ (xs.drop i).filter pr := by rw [← List.filter_append, List.take_append_drop]
  rw [e2, List.flatMap_append, e, List.filter_cons, if_pos hp, List.flatMap_cons, List.append_assoc]
def But (D : Addr) (H H' : Hp) : Prop := ∀ b o, b ≠ D → H b = some o → H' b = some o
theorem But.refl {D : Addr} {H : Hp} : But D H H := fun _ _ _ h => h
theorem But.trans {D : Addr} {H H1 H2 : Hp} (a : But D H H1) (b : But D H1 H2) : But D H H2 := fun x o n h => b x o n (a x o n h)
theorem But.same {D : Addr} {H H1 : Hp} (a : Same H H1) : But D H H1 := fun x o n h => a x o h
theorem But.upd {D : Addr} {H : Hp} {o : HO} : But D H (upd H D o) := fun x _ n h => by rw [upd_ne n]; exact h
theorem vis_but {F : Addr → Bool} {O : Om} {D : Addr} {H H' : Hp} (hF : F D = true) (b : But D H H') : Same (vis F O H) (vis F O H') := fun a o h => by
  obtain ⟨h1, h2, h3⟩ := vis_some.mp h
  have ne : a ≠ D := fun z => by rw [z, hF] at h1; cases h1
  exact vis_some.mpr ⟨h1, h2, b _ _ ne h3⟩
/-- the ground of a block: D hidden, nobody's -/
structure Hid (B : Gd) (D : Addr) : Prop where
  F : B.F D = true
  L : ∀ m, (D, m) ∉ B.L
section
variable {K : PySem.W.Frag} {B : Gd} {ρ : List (Option D)} {O : Om} {σ : L2.St} {H H' : Hp} {D : Addr}
theorem Hid.notO (h : Hid B D) (s : StOk K B ρ O σ H) : has O D = false := by
  obtain ⟨o, e⟩ := B.ok D h.F
  exact (s.m.base D o e).2
theorem hid_step (s : StOk K B ρ O σ H) (hd : Hid B D) (b : But D H H') (he : ∃ o, H' D = some o) : ∃ B' : Gd, B'.F = B.F ∧ B'.L = B.L ∧ Hid B' D ∧ StOk K B' ρ O σ H' := by
  have hO := hd.notO s
  have sv := vis_but (O := O) hd.F b
  refine ⟨⟨B.F, fun a => if a = D then H' D else B.Hb a, B.W, B.L, fun a h => ?_, B.lF⟩, rfl, rfl, ⟨hd.F, hd.L⟩, ⟨⟨fun a o q => ?_, fun a m hm => ?_, s.m.nd, fun a m hm => ?_⟩, s.env.mono sv⟩⟩
  · by_cases q : a = D
    · subst q; rw [if_pos rfl]; exact he
    · rw [if_neg q]; exact B.ok a h
  · by_cases z : a = D
    · subst z
      have q' : (if a = a then H' a else B.Hb a) = some o := q
      rw [if_pos rfl] at q'
      exact ⟨q', hO⟩
    · have q' : (if a = D then H' D else B.Hb a) = some o := q
      rw [if_neg z] at q'
      exact ⟨b _ _ z (s.m.base a o q').1, (s.m.base a o q').2⟩
  · have ne : a ≠ D := fun z => by
      subst z
      have := has_mem.mpr ⟨m, hm⟩
      rw [hO] at this; cases this
    exact (s.m.mem a m hm).mono sv fun o q => b _ _ ne q
  · have ne : a ≠ D := fun z => by subst z; exact hd.L m hm
    exact (s.m.lent a m hm).mono sv fun o q => b _ _ ne q
end
/-- what is walked, in any of the contexts -/
def tAnyI (Xs : Cx → Prop) (tg iter : Expr) : TI := fun σ H R => ∀ X, Xs X → ∃ wi, PI X tg iter wi ∧ wi σ H R
theorem anyI_ok {Xs : Cx → Prop} {X : Cx} {tg iter : Expr} (h : Xs X) : PI X tg iter (tAnyI Xs tg iter) := ⟨fun pins s σ H R I q => by
  obtain ⟨wi, p, q'⟩ := q X h
  exact p.run pins s σ H R I q'⟩
section
variable {X : Cx} {B : Gd} {ρ ρ' : List (Option D)} {O : Om} {scope : Scope} {A E : Type} {AC : AccK A E} {elt iter tg : Expr} {ifs : List Expr} {pos : Pos} {D0 : Addr} {te : TB} {cs : List Clz}
/-- the rest of a block's clauses, from the slots ρ: the items l are gathered -/
def TailOk (X : Cx) (L : Om) (O : Om) (AC : AccK A E) (D0 : Addr) (cs : List Clz) (te : TB) (ρ : List (Option D)) (l : List E) : Prop :=
  ∀ (B' : Gd) (σ : L2.St) (H : Hp) (a : A) (Nx : Hp → Prop), B'.L = L → Hid B' D0 → StOk X.K B' ρ O σ H → AC.P D0 (vis B'.F O H) H a → AC.size a + l.length ≤ sizeLine →
    (∀ H', But D0 H H' → AC.P D0 (vis B'.F O H') H' (l.foldl AC.step a) → Nx H') → tCl cs te σ H Nx
theorem tail_clause {α : Type} {xs : List α} {h : α → D} {pr : α → Bool} {out : α → List E} {g : TG} {sl vs : List Nat} {f}
    (hi : ∀ X' B', B'.L = B.L → Blk X scope X' → ∃ wi G, EI X' B' ρ O tg iter wi G (xs.map h) ∧ G O) (hg : ∀ X', Blk X scope X' → EB X' tg g sl f) (hsl : ∀ j ∈ sl, j ∈ vs)
    (hb : ∀ x ∈ xs, ∃ ρ', f (h x) (wipeD ρ vs) = some ρ' ∧ (∀ X' B', B'.L = B.L → Blk X scope X' → ETs X' B' ρ' O ifs (pr x)) ∧ (pr x = true → TailOk X B.L O AC D0 cs te ρ' (out x))) :
    TailOk X B.L O AC D0 (⟨tAnyI (Blk X scope) tg iter, g, tAnyTs (Blk X scope) ifs, vs⟩ :: cs) te ρ ((xs.filter pr).flatMap out) := fun B0 σ H a Nx eL hd st hA hz k => by
  show tAnyI (Blk X scope) tg iter σ H _
  intro Xp hXp
  have hK : ∀ X', Blk X scope X' → X'.K = X.K := fun X' ⟨s, H, C, cl, fp, e⟩ => by rw [e]
  obtain ⟨wi, G, ei, hG⟩ := hi Xp B0 eL hXp
  refine ⟨wi, ei.pi, ei.is σ H _ (by rw [hK Xp hXp]; exact st) fun J H1 e1 S => ?_⟩
  rw [hK Xp hXp] at S
  have s1 := st.same e1
  have hA1 := AC.mono hA (vis_same (F := B0.F) (O := O) e1) (by obtain ⟨o, q⟩ := AC.there hA; rw [q, e1 _ _ q] : H1 D0 = H D0)
  have hlx : (xs.map h).length = xs.length := List.length_map ..
  refine ⟨fun i m H' => m = xs.length - i ∧ i ≤ xs.length ∧ But D0 H1 H' ∧ AC.P D0 (vis B0.F O H') H' ((((xs.take i).filter pr).flatMap out).foldl AC.step a), ⟨xs.length, by simp, Nat.zero_le _, .refl, by simpa using hA1⟩, ?_⟩
  rintro i m H' ⟨rfl, hi', bt, hP⟩
  obtain ⟨B', eF, eL', hd', sB⟩ := hid_step s1 hd bt (AC.there hP)
  have eL2 : B'.L = B0.L := eL'
  have eB : Same (vis B0.F O H1) (vis B'.F O H') := by rw [eF]; exact vis_but hd.F bt
  by_cases hlt : i < xs.length
  · refine .inr ⟨S.goes i B' O H' eL2 (by rw [hlx]; exact hlt) sB.m eB hG, fun H2 => But D0 H1 H2 ∧ AC.P D0 (vis B0.F O H2) H2 ((((xs.take (i + 1)).filter pr).flatMap out).foldl AC.step a), fun H2 q => ⟨xs.length - (i + 1), by omega, rfl, hlt, q.1, q.2⟩, fun x H2 y => ?_⟩
    obtain ⟨e2, d, hd2, rv⟩ := S.yields i B' O H' x H2 eL2 (by rw [hlx]; exact hlt) sB.m eB hG y
    have ed : d = h (xs[i]) := by
      rw [List.getElem?_map, List.getElem?_eq_getElem hlt] at hd2
      exact (Option.some.inj hd2).symm
    subst ed
    obtain ⟨ρ', hf, ht, he⟩ := hb (xs[i]) (List.getElem_mem hlt)
    have sw : StOk X.K B' (wipeD ρ vs) O (L2.wipe σ vs) H2 := ⟨(sB.same e2).m, wipeD_env (sB.same e2).env vs⟩
    refine (hg (X.blk X.s_0 H scope (compEnvC scope [] 0 X.env) []) ⟨X.s_0, H, 0, [], [], rfl⟩).is B' O _ _ ρ' x _ H2 _ hf sw rv fun σ2 s2 off => ⟨(off.wipe hsl).trans (wipe_wipe _ _), ?_⟩
    refine ⟨X.K, B', ρ', O, pr xs[i], fun X' hX' => ⟨hK X' hX', ht X' B' (eL2.trans eL) hX'⟩, s2, fun H3 e3 => ?_⟩
    have tk : xs.take (i + 1) = xs.take i ++ [xs[i]] := by rw [List.take_succ, List.getElem?_eq_getElem hlt]; rfl
    have b3 : But D0 H1 H3 := (bt.trans (.same e2)).trans (.same e3)
    have keepD : H3 D0 = H' D0 := by
      obtain ⟨o, q⟩ := AC.there hP
      rw [q, e3 _ _ (e2 _ _ q)]
    have hP3 : AC.P D0 (vis B0.F O H3) H3 ((((xs.take i).filter pr).flatMap out).foldl AC.step a) := AC.mono hP (vis_same (e2.trans e3)) keepD
    cases hp : pr xs[i] with
    | false =>
      refine iteF ⟨b3, ?_⟩
      rw [tk, List.filter_append]
      have : List.filter pr [xs[i]] = [] := by simp [hp]
      rw [this, List.append_nil]
      exact hP3
    | true =>
      refine iteT (he hp B' σ2 H3 _ _ (eL2.trans eL) hd' (s2.same e3) (by rw [eF]; exact hP3) ?_ fun H4 b4 hP4 => ⟨b3.trans b4, ?_⟩)
      · have g1 := AC.growL (((xs.take i).filter pr).flatMap out) a
        have l1 : (((xs.take i).filter pr).flatMap out).length + (out xs[i]).length ≤ ((xs.filter pr).flatMap out).length := by
          have := split_flat (out := out) hlt hp
          rw [this]; simp only [List.length_append]; omega
        omega
      · rw [tk, List.filter_append, List.flatMap_append, List.foldl_append]
        have : List.filter pr [xs[i]] = [xs[i]] := by simp [hp]
        rw [this]
        rw [eF] at hP4
        simpa using hP4
  · have e : i = xs.length := by omega
    subst e
    refine .inl ⟨by have q := S.stops B' O H' eL2 sB.m eB hG; rw [hlx] at q; exact q, k H' ((But.same e1).trans bt) ?_⟩
    rw [List.take_length] at hP
    exact hP
/-- the first clause, and the whole -/
theorem cnW_imp {α : Type} {xs : List α} {h : α → D} {pr : α → Bool} {out : α → List E} {G : Om → Prop} {g : TG} {sl vs : List Nat} {f} {wi : TI} {te : Addr → TB} {ho : Addr → HO} {a0 : A} {σ : L2.St} {H : Hp} {Q : VK}
    (hi : EI X B ρ O tg iter wi G (xs.map h)) (hG : G O) (hg : ∀ X', Blk X scope X' → EB X' tg g sl f) (hsl : ∀ j ∈ sl, j ∈ vs)
    (hb : ∀ D0, ∀ x ∈ xs, ∃ ρ', f (h x) (wipeD ρ vs) = some ρ' ∧ (∀ X' B', B'.L = B.L → Blk X scope X' → ETs X' B' ρ' O ifs (pr x)) ∧ (pr x = true → TailOk X B.L O AC D0 cs (te D0) ρ' (out x)))
    (h0 : ∀ D Hv H, (D == sysModules) = false → AC.P D Hv (upd H D (ho D)) a0) (hz : AC.size a0 + ((xs.filter pr).flatMap out).length ≤ sizeLine)
    (st : StOk X.K B ρ O σ H) (k : ∀ p H', H p = none → Same H H' → AC.P p (vis B.F ((p, .lst []) :: O) H') H' (((xs.filter pr).flatMap out).foldl AC.step a0) → Q (.ref p) H') :
    tCn ⟨wi, g, tAnyTs (Blk X scope) ifs, vs⟩ cs te ho σ H Q := by
  refine hi.is σ H _ st fun J H1 e1 S D hD hlo => ?_
  have hK : ∀ X', Blk X scope X' → X'.K = X.K := fun X' ⟨s, H, C, cl, fp, e⟩ => by rw [e]
  have s1 := st.same e1
  have oD := s1.m.newO hD
  have fD := s1.m.newF hD
  have visD : ∀ {H' : Hp}, vis B.F ((D, .lst []) :: O) H' = fun a => if (B.F a || a == D || has O a) = true then none else H' a := fun {H'} => by
    funext a
    unfold vis
    rw [has_cons, Bool.beq_comm (a := D), Bool.or_assoc]
  have keep : ∀ {H' : Hp}, Same H1 H' → Same (vis B.F O H1) (vis B.F ((D, .lst []) :: O) H') := fun {H'} e a o h => by
    obtain ⟨h1, h2, h3⟩ := vis_some.mp h
    have ne : a ≠ D := ne_of_none h3 hD
    exact vis_some.mpr ⟨h1, by rw [has_cons, h2, Bool.or_false]; exact beq_eq_false_iff_ne.mpr (Ne.symm ne), e _ _ h3⟩
  have nL : ∀ m, (D, m) ∉ B.L := fun m hm => by
    obtain ⟨o, q⟩ := (s1.m.lent D m hm).some
    rw [hD] at q; cases q
  have hid : ∀ {H' : Hp} (e : Same H1 H') (hd : ∃ o, H' D = some o), ∃ B' : Gd, B'.L = B.L ∧ Hid B' D ∧ (∀ H2, vis B'.F O H2 = vis B.F ((D, .lst []) :: O) H2) ∧ StOk X.K B' (wipeD ρ vs) O (L2.wipe σ vs) H' := fun {H'} e hd => by
    have b3 : ∀ a o, B.Hb a = some o → H' a = some o ∧ has O a = false := fun a o q => ⟨e _ _ (s1.m.base a o q).1, (s1.m.base a o q).2⟩
    have ev : ∀ H2, vis (B.hid D H' O B.ok hd b3 oD).F O H2 = vis B.F ((D, .lst []) :: O) H2 := fun H2 => by rw [visD]; rfl
    refine ⟨B.hid D H' O B.ok hd b3 oD, rfl, ⟨by show (B.F D || D == D) = true; simp, nL⟩, ev, ⟨⟨fun a o q => ?_, fun a m hm => ?_, s1.m.nd, fun a m hm => ?_⟩, ?_⟩⟩
    · have q' : (if has O a = true then none else H' a) = some o := q
      cases ha : has O a with
      | true => rw [ha, if_pos rfl] at q'; cases q'
      | false => rw [ha, if_neg Bool.false_ne_true] at q'; exact ⟨q', rfl⟩
    · rw [ev]
      exact (s1.m.mem a m hm).mono (keep e) fun o q => e _ _ q
    · rw [ev]
      exact (s1.m.lent a m hm).mono (keep e) fun o q => e _ _ q
    · rw [ev]
      exact wipeD_env (s1.env.mono (keep e)) _
  have hlx : (xs.map h).length = xs.length := List.length_map ..
  refine ⟨fun i m H' => m = xs.length - i ∧ i ≤ xs.length ∧ Same H1 H' ∧ AC.P D (vis B.F ((D, .lst []) :: O) H') H' ((((xs.take i).filter pr).flatMap out).foldl AC.step a0), ⟨xs.length, by simp, Nat.zero_le _, same_new hD, by simpa using h0 D _ H1 hlo⟩, ?_⟩
  rintro i m H' ⟨rfl, hi', eS, hP⟩
  obtain ⟨B', eL, hd', ev, sB⟩ := hid eS (AC.there hP)
  have eB : Same (vis B.F O H1) (vis B'.F O H') := by rw [ev]; exact keep eS
  by_cases hlt : i < xs.length
  · refine .inr ⟨S.goes i B' O H' eL (by rw [hlx]; exact hlt) sB.m eB hG, fun H2 => Same H1 H2 ∧ AC.P D (vis B.F ((D, .lst []) :: O) H2) H2 ((((xs.take (i + 1)).filter pr).flatMap out).foldl AC.step a0), fun H2 q => ⟨xs.length - (i + 1), by omega, rfl, hlt, q.1, q.2⟩, fun x H2 y => ?_⟩
    obtain ⟨e2, d, hd2, rv⟩ := S.yields i B' O H' x H2 eL (by rw [hlx]; exact hlt) sB.m eB hG y
    have ed : d = h (xs[i]) := by
      rw [List.getElem?_map, List.getElem?_eq_getElem hlt] at hd2
      exact (Option.some.inj hd2).symm
    subst ed
    obtain ⟨ρ', hf, ht, he⟩ := hb D (xs[i]) (List.getElem_mem hlt)
    refine (hg (X.blk X.s_0 H scope (compEnvC scope [] 0 X.env) []) ⟨X.s_0, H, 0, [], [], rfl⟩).is B' O _ _ ρ' x _ H2 _ hf (sB.same e2) rv fun σ2 s2 off => ⟨(off.wipe hsl).trans (wipe_wipe _ _), ?_⟩
    refine ⟨X.K, B', ρ', O, pr xs[i], fun X' hX' => ⟨hK X' hX', ht X' B' eL hX'⟩, s2, fun H3 e3 => ?_⟩
    have tk : xs.take (i + 1) = xs.take i ++ [xs[i]] := by rw [List.take_succ, List.getElem?_eq_getElem hlt]; rfl
    have eS3 : Same H1 H3 := (eS.trans e2).trans e3
    have keepD : H3 D = H' D := by
      obtain ⟨o, q⟩ := AC.there hP
      rw [q, e3 _ _ (e2 _ _ q)]
    have hP3 : AC.P D (vis B.F ((D, .lst []) :: O) H3) H3 ((((xs.take i).filter pr).flatMap out).foldl AC.step a0) := AC.mono hP (vis_same (e2.trans e3)) keepD
    cases hp : pr xs[i] with
    | false =>
      refine iteF ⟨eS3, ?_⟩
      rw [tk, List.filter_append]
      have : List.filter pr [xs[i]] = [] := by simp [hp]
      rw [this, List.append_nil]
      exact hP3
    | true =>
      refine iteT (he hp B' σ2 H3 _ _ eL hd' (s2.same e3) (by rw [ev]; exact hP3) ?_ fun H4 b4 hP4 => ⟨fun b o q => b4 b o (ne_of_none q hD) (eS3 _ _ q), ?_⟩)
      · have g1 := AC.growL (((xs.take i).filter pr).flatMap out) a0
        have l1 : (((xs.take i).filter pr).flatMap out).length + (out xs[i]).length ≤ ((xs.filter pr).flatMap out).length := by
          have := split_flat (out := out) hlt hp
          rw [this]; simp only [List.length_append]; omega
        omega
      · rw [tk, List.filter_append, List.flatMap_append, List.foldl_append]
        have : List.filter pr [xs[i]] = [xs[i]] := by simp [hp]
        rw [this]
        rw [ev] at hP4
        simpa using hP4
  · have e : i = xs.length := by omega
    subst e
    refine .inl ⟨by have q := S.stops B' O H' eL sB.m eB hG; rw [hlx] at q; exact q, k D H' (e1.free hD) (e1.trans eS) ?_⟩
    rw [List.take_length] at hP
    exact hP
end
/-! ### lists -/
def accL (K : PySem.W.Frag) : AccK (List D) D where
  P := fun D Hv H as => ∃ acc, H D = some (.lst acc) ∧ RpL K Hv acc as
  size := List.length
  step := fun as d => as ++ [d]
  mono := fun ⟨acc, h, r⟩ e eh => ⟨acc, eh.trans h, r.mono e⟩
  there := fun ⟨acc, h, _⟩ => ⟨_, h⟩
  grow := fun a x => by simp
theorem foldl_snoc {α : Type} (l : List α) : ∀ a, l.foldl (fun as d => as ++ [d]) a = a ++ l := by
  induction l with
  | nil => intro a; simp
  | cons x l ih => intro a; simp [ih]
abbrev teL (X : Cx) (scope : Scope) (elt : Expr) (D0 : Addr) : TB := fun σ H Nx => tAnyE (Blk X scope) elt σ H fun y H7 => ∃ acc, H7 D0 = some (.lst acc) ∧ acc.length < sizeLine ∧ Nx (upd H7 D0 (.lst (acc ++ [y])))
section
variable {X : Cx} {B : Gd} {ρ ρ' : List (Option D)} {O : Om} {scope : Scope} {elt iter tg it2 tg2 it3 tg3 : Expr} {ifs ifs2 ifs3 : List Expr} {pos : Pos} {D0 : Addr} {d : D}
theorem tail_elt (he : ∀ X' B', B'.L = B.L → Blk X scope X' → EV X' B' ρ O elt d) : TailOk X B.L O (accL X.K) D0 [] (teL X scope elt D0) ρ [d] := fun B0 σ H a Nx eL hd st ⟨acc, hA, rA⟩ hz k => by
  have hK : ∀ X', Blk X scope X' → X'.K = X.K := fun X' ⟨s, H, C, cl, fp, e⟩ => by rw [e]
  refine ⟨X.K, B0, ρ, O, d, fun X' hX' => ⟨hK X' hX', he X' B0 eL hX'⟩, st, fun v H4 e4 r4 => ⟨acc, e4 _ _ hA, ?_, ?_⟩⟩
  · have hz' : a.length + 1 ≤ sizeLine := hz
    rw [rA.length]; omega
  · refine k _ ((But.same e4).trans .upd) ⟨acc ++ [v], upd_same, ?_⟩
    have up : vis B0.F O (upd H4 D0 (.lst (acc ++ [v]))) = vis B0.F O H4 := by
      funext b
      by_cases q : b = D0
      · subst q; unfold vis; rw [hd.F]; simp
      · unfold vis; rw [upd_ne q]
    rw [up]
    exact (rA.mono (vis_same e4)).append (.cons r4 .nil)
/-- two clauses -/
theorem lcn2 {α β : Type} {xs : List α} {h : α → D} {pr : α → Bool} {ys : α → List β} {h2 : α → β → D} {pr2 : α → β → Bool} {el : α → β → D} (own own2 : List (Str × Nat)) {wi : TI} {G : Om → Prop} {g g2 : TG} {sl sl2 : List Nat} {f f2}
    (hc : X.calm = true) (hN : X.N.Nodup) (hi : EI X B ρ O tg iter wi G (xs.map h)) (hG : G O) (ok : BlkOk X.N X.env.scope scope own)
    (hg : ∀ X', Blk X scope X' → EB X' tg g sl f) (hsl : ∀ j ∈ sl, j ∈ own.map (·.2)) (hg2 : ∀ X', Blk X scope X' → EB X' tg2 g2 sl2 f2) (hsl2 : ∀ j ∈ sl2, j ∈ own2.map (·.2)) (hv : ∀ i ∈ own2.map (·.2), i ∈ own.map (·.2))
    (hb : ∀ x ∈ xs, ∃ ρ', f (h x) (wipeD ρ (own.map (·.2))) = some ρ' ∧ (∀ X' B', B'.L = B.L → Blk X scope X' → ETs X' B' ρ' O ifs (pr x)) ∧ (pr x = true → (∀ X' B', B'.L = B.L → Blk X scope X' → ∃ wi G, EI X' B' ρ' O tg2 it2 wi G ((ys x).map (h2 x)) ∧ G O) ∧
      ∀ y ∈ ys x, ∃ ρ2, f2 (h2 x y) (wipeD ρ' (own2.map (·.2))) = some ρ2 ∧ (∀ X' B', B'.L = B.L → Blk X scope X' → ETs X' B' ρ2 O ifs2 (pr2 x y)) ∧ (pr2 x y = true → ∀ X' B', B'.L = B.L → Blk X scope X' → EV X' B' ρ2 O elt (el x y))))
    (hz : ((xs.filter pr).flatMap fun x => ((ys x).filter (pr2 x)).map (el x)).length ≤ sizeLine) (hs : ∀ x, foldedSetIterable iter X.env x = pure x := by intro _; rfl) (hs2 : ∀ env x, foldedSetIterable it2 env x = pure x := by intro _ _; rfl) :
    LcRun X elt [⟨tg, iter, ifs, 0⟩, ⟨tg2, it2, ifs2, 0⟩] iter scope pos (tN X.K B ρ O ((xs.filter pr).flatMap fun x => ((ys x).filter (pr2 x)).map (el x))) := by
  refine LcRun.imp (lc_run (elt := elt) (pos := pos) (c := ⟨wi, g, tAnyTs (Blk X scope) ifs, own.map (·.2)⟩) (cs := [⟨tAnyI (Blk X scope) tg2 it2, g2, tAnyTs (Blk X scope) ifs2, own2.map (·.2)⟩]) (sub := own2.map (·.2)) (te := teL X scope elt)
    (body := fun acc env => bodyC (.ListComp elt [⟨tg, iter, ifs, 0⟩, ⟨tg2, it2, ifs2, 0⟩] scope pos) 1 it2 acc env) hc hN hi.pi ok rfl hv (fun it D env => by rfl) (fun s H C cl fp => (hg _ ⟨s, H, C, cl, fp, rfl⟩).pg) (fun s H C cl fp => anyTs_ok ⟨s, H, C, cl, fp, rfl⟩)
    (fun s H C cl fp D => body_clause (X := X.blk s H scope (compEnvC scope cl C X.env) fp) (sub := []) (e := (.ListComp elt [⟨tg, iter, ifs, 0⟩, ⟨tg2, it2, ifs2, 0⟩] scope pos)) (d := 1) (acc := .ref D) (c := ⟨tAnyI (Blk X scope) tg2 it2, g2, tAnyTs (Blk X scope) ifs2, own2.map (·.2)⟩) (cs := []) (te := teL X scope elt D) (body := bodyE (do let _ ← call (.builtin "list.append") [.ref D, ← eval elt (compEnvC scope cl C X.env)])) rfl (.inl ⟨_, _, _, _, rfl⟩) hc rfl (fun it => by rfl) hs2 (anyI_ok ⟨s, H, C, cl, fp, rfl⟩) (hg2 _ ⟨s, H, C, cl, fp, rfl⟩).pg (anyTs_ok ⟨s, H, C, cl, fp, rfl⟩) (fun _ h => by cases h) (body_list (elt := elt) rfl (anyE_ok ⟨s, H, C, cl, fp, rfl⟩))) hs) fun σ H Q ⟨st, k⟩ => ?_
  refine cnW_imp (pr := pr) (AC := accL X.K) (a0 := []) (out := fun x => ((ys x).filter (pr2 x)).map (el x)) hi hG hg hsl (fun D0 x hx => ?_) (fun D Hv H _ => ⟨[], upd_same, .nil⟩) (by simpa [accL] using hz) st fun p H' hp e ⟨acc, hv, r⟩ => k p H' acc hp e hv ?_
  · obtain ⟨ρ', b1, b2, b3⟩ := hb x hx
    refine ⟨ρ', b1, b2, fun hp => ?_⟩
    have e : ((ys x).filter (pr2 x)).map (el x) = ((ys x).filter (pr2 x)).flatMap fun y => [el x y] := by rw [List.map_eq_flatMap]
    show TailOk X B.L O _ D0 _ _ ρ' (((ys x).filter (pr2 x)).map (el x))
    rw [e]
    refine tail_clause (b3 hp).1 hg2 hsl2 fun y hy => ?_
    obtain ⟨ρ2, c1, c2, c3⟩ := (b3 hp).2 y hy
    exact ⟨ρ2, c1, c2, fun hp2 => tail_elt (c3 hp2)⟩
  · have q : ∀ m, vis B.F ((p, m) :: O) H' = vis B.F ((p, .lst []) :: O) H' := fun m => vis_keys rfl
    rw [q]
    have e := foldl_snoc ((xs.filter pr).flatMap fun x => ((ys x).filter (pr2 x)).map (el x)) []
    rw [List.nil_append] at e
    rw [← e]; exact r
/-- three -/
theorem lcn3 {α β γ : Type} {xs : List α} {h : α → D} {pr : α → Bool} {ys : α → List β} {h2 : α → β → D} {pr2 : α → β → Bool} {zs : α → β → List γ} {h3 : α → β → γ → D} {pr3 : α → β → γ → Bool} {el : α → β → γ → D} (own own2 own3 : List (Str × Nat)) {wi : TI} {G : Om → Prop} {g g2 g3 : TG} {sl sl2 sl3 : List Nat} {f f2 f3}
    (hc : X.calm = true) (hN : X.N.Nodup) (hi : EI X B ρ O tg iter wi G (xs.map h)) (hG : G O) (ok : BlkOk X.N X.env.scope scope own)
    (hg : ∀ X', Blk X scope X' → EB X' tg g sl f) (hsl : ∀ j ∈ sl, j ∈ own.map (·.2)) (hg2 : ∀ X', Blk X scope X' → EB X' tg2 g2 sl2 f2) (hsl2 : ∀ j ∈ sl2, j ∈ own2.map (·.2)) (hg3 : ∀ X', Blk X scope X' → EB X' tg3 g3 sl3 f3) (hsl3 : ∀ j ∈ sl3, j ∈ own3.map (·.2)) (hv : ∀ i ∈ own2.map (·.2), i ∈ own.map (·.2)) (hv3 : ∀ i ∈ own3.map (·.2), i ∈ own2.map (·.2))
    (hb : ∀ x ∈ xs, ∃ ρ', f (h x) (wipeD ρ (own.map (·.2))) = some ρ' ∧ (∀ X' B', B'.L = B.L → Blk X scope X' → ETs X' B' ρ' O ifs (pr x)) ∧ (pr x = true → (∀ X' B', B'.L = B.L → Blk X scope X' → ∃ wi G, EI X' B' ρ' O tg2 it2 wi G ((ys x).map (h2 x)) ∧ G O) ∧
      ∀ y ∈ ys x, ∃ ρ2, f2 (h2 x y) (wipeD ρ' (own2.map (·.2))) = some ρ2 ∧ (∀ X' B', B'.L = B.L → Blk X scope X' → ETs X' B' ρ2 O ifs2 (pr2 x y)) ∧ (pr2 x y = true → (∀ X' B', B'.L = B.L → Blk X scope X' → ∃ wi G, EI X' B' ρ2 O tg3 it3 wi G ((zs x y).map (h3 x y)) ∧ G O) ∧
        ∀ z ∈ zs x y, ∃ ρ3, f3 (h3 x y z) (wipeD ρ2 (own3.map (·.2))) = some ρ3 ∧ (∀ X' B', B'.L = B.L → Blk X scope X' → ETs X' B' ρ3 O ifs3 (pr3 x y z)) ∧ (pr3 x y z = true → ∀ X' B', B'.L = B.L → Blk X scope X' → EV X' B' ρ3 O elt (el x y z)))))
    (hz : ((xs.filter pr).flatMap fun x => ((ys x).filter (pr2 x)).flatMap fun y => ((zs x y).filter (pr3 x y)).map (el x y)).length ≤ sizeLine) (hs : ∀ x, foldedSetIterable iter X.env x = pure x := by intro _; rfl) (hs2 : ∀ env x, foldedSetIterable it2 env x = pure x := by intro _ _; rfl) (hs3 : ∀ env x, foldedSetIterable it3 env x = pure x := by intro _ _; rfl) :
    LcRun X elt [⟨tg, iter, ifs, 0⟩, ⟨tg2, it2, ifs2, 0⟩, ⟨tg3, it3, ifs3, 0⟩] iter scope pos (tN X.K B ρ O ((xs.filter pr).flatMap fun x => ((ys x).filter (pr2 x)).flatMap fun y => ((zs x y).filter (pr3 x y)).map (el x y))) := by
  refine LcRun.imp (lc_run (elt := elt) (pos := pos) (c := ⟨wi, g, tAnyTs (Blk X scope) ifs, own.map (·.2)⟩) (cs := [⟨tAnyI (Blk X scope) tg2 it2, g2, tAnyTs (Blk X scope) ifs2, own2.map (·.2)⟩, ⟨tAnyI (Blk X scope) tg3 it3, g3, tAnyTs (Blk X scope) ifs3, own3.map (·.2)⟩]) (sub := own2.map (·.2)) (te := teL X scope elt)
    (body := fun acc env => bodyC (.ListComp elt [⟨tg, iter, ifs, 0⟩, ⟨tg2, it2, ifs2, 0⟩, ⟨tg3, it3, ifs3, 0⟩] scope pos) 1 it2 acc env) hc hN hi.pi ok rfl hv (fun it D env => by rfl) (fun s H C cl fp => (hg _ ⟨s, H, C, cl, fp, rfl⟩).pg) (fun s H C cl fp => anyTs_ok ⟨s, H, C, cl, fp, rfl⟩)
    (fun s H C cl fp D => body_clause (X := X.blk s H scope (compEnvC scope cl C X.env) fp) (sub := own3.map (·.2)) (e := (.ListComp elt [⟨tg, iter, ifs, 0⟩, ⟨tg2, it2, ifs2, 0⟩, ⟨tg3, it3, ifs3, 0⟩] scope pos)) (d := 1) (acc := .ref D) (c := ⟨tAnyI (Blk X scope) tg2 it2, g2, tAnyTs (Blk X scope) ifs2, own2.map (·.2)⟩) (cs := [⟨tAnyI (Blk X scope) tg3 it3, g3, tAnyTs (Blk X scope) ifs3, own3.map (·.2)⟩]) (te := teL X scope elt D) (body := bodyC (.ListComp elt [⟨tg, iter, ifs, 0⟩, ⟨tg2, it2, ifs2, 0⟩, ⟨tg3, it3, ifs3, 0⟩] scope pos) 2 it3 (.ref D) (compEnvC scope cl C X.env)) rfl (.inl ⟨_, _, _, _, rfl⟩) hc rfl (fun it => by rfl) hs2 (anyI_ok ⟨s, H, C, cl, fp, rfl⟩) (hg2 _ ⟨s, H, C, cl, fp, rfl⟩).pg (anyTs_ok ⟨s, H, C, cl, fp, rfl⟩) hv3
      (body_clause (X := X.blk s H scope (compEnvC scope cl C X.env) fp) (sub := []) (e := (.ListComp elt [⟨tg, iter, ifs, 0⟩, ⟨tg2, it2, ifs2, 0⟩, ⟨tg3, it3, ifs3, 0⟩] scope pos)) (d := 2) (acc := .ref D) (c := ⟨tAnyI (Blk X scope) tg3 it3, g3, tAnyTs (Blk X scope) ifs3, own3.map (·.2)⟩) (cs := []) (te := teL X scope elt D) (body := bodyE (do let _ ← call (.builtin "list.append") [.ref D, ← eval elt (compEnvC scope cl C X.env)])) rfl (.inl ⟨_, _, _, _, rfl⟩) hc rfl (fun it => by rfl) hs3 (anyI_ok ⟨s, H, C, cl, fp, rfl⟩) (hg3 _ ⟨s, H, C, cl, fp, rfl⟩).pg (anyTs_ok ⟨s, H, C, cl, fp, rfl⟩) (fun _ h => by cases h) (body_list (elt := elt) rfl (anyE_ok ⟨s, H, C, cl, fp, rfl⟩)))) hs) fun σ H Q ⟨st, k⟩ => ?_
  refine cnW_imp (pr := pr) (AC := accL X.K) (a0 := []) (out := fun x => ((ys x).filter (pr2 x)).flatMap fun y => ((zs x y).filter (pr3 x y)).map (el x y)) hi hG hg hsl (fun D0 x hx => ?_) (fun D Hv H _ => ⟨[], upd_same, .nil⟩) (by simpa [accL] using hz) st fun p H' hp e ⟨acc, hv, r⟩ => k p H' acc hp e hv ?_
  · obtain ⟨ρ', b1, b2, b3⟩ := hb x hx
    refine ⟨ρ', b1, b2, fun hp => ?_⟩
    refine tail_clause (b3 hp).1 hg2 hsl2 fun y hy => ?_
    obtain ⟨ρ2, c1, c2, c3⟩ := (b3 hp).2 y hy
    refine ⟨ρ2, c1, c2, fun hp2 => ?_⟩
    have e : ((zs x y).filter (pr3 x y)).map (el x y) = ((zs x y).filter (pr3 x y)).flatMap fun z => [el x y z] := by rw [List.map_eq_flatMap]
    show TailOk X B.L O _ D0 _ _ ρ2 (((zs x y).filter (pr3 x y)).map (el x y))
    rw [e]
    refine tail_clause (c3 hp2).1 hg3 hsl3 fun z hz => ?_
    obtain ⟨ρ3, d1, d2, d3⟩ := (c3 hp2).2 z hz
    exact ⟨ρ3, d1, d2, fun hp3 => tail_elt (d3 hp3)⟩
  · have q : ∀ m, vis B.F ((p, m) :: O) H' = vis B.F ((p, .lst []) :: O) H' := fun m => vis_keys rfl
    rw [q]
    have e := foldl_snoc ((xs.filter pr).flatMap fun x => ((ys x).filter (pr2 x)).flatMap fun y => ((zs x y).filter (pr3 x y)).map (el x y)) []
    rw [List.nil_append] at e
    rw [← e]; exact r
theorem en_lcr {gs : List Comprehension} {ds : List D} (h : LcRun X elt (⟨tg, iter, ifs, 0⟩ :: gs) iter scope pos (tN X.K B ρ O ds)) : EN X B ρ O (.ListComp elt (⟨tg, iter, ifs, 0⟩ :: gs) scope pos) ds := pe_lcr h
theorem j_setLcr {A : AE} {gs : List Comprehension} {ds : List D} {i : Nat} {y : Str} {py spos : Pos} (h : LcRun X elt (⟨tg, iter, ifs, 0⟩ :: gs) iter scope pos (tN X.K B ρ O ds)) (hN : X.N.Nodup) (hy : X.N[i]? = some y) (hyl : X.env.scope.names.lookup y = some .local)
    (hsw : swapsWith (.ListComp elt (⟨tg, iter, ifs, 0⟩ :: gs) scope pos) (some (.Name y py)) spos.line X.env = pure true) (hnx : A.nx (ρ.set i (some (.lst ds))) O) : J1 X B (.Assign [.Name y py] (.ListComp elt (⟨tg, iter, ifs, 0⟩ :: gs) scope pos) spos) ρ O A :=
  ps_imp (ps_setLcr h hN hy hyl hsw) fun Dn σ H ⟨st, p⟩ => ⟨st, fun q H1 vs hp e1 hv r => by
    have fp := st.m.newF hp
    have op := st.m.newO hp
    have r' : Rp X.K (vis B.F O H1) (.ref q) (.lst ds) := .lst (vis_some.mpr ⟨fp, op, hv⟩) (r.mono fun a o h => by
      obtain ⟨h1, h2, h3⟩ := vis_some.mp h
      rw [has_cons, Bool.or_eq_false_iff] at h2
      exact vis_some.mpr ⟨h1, h2.2, h3⟩)
    exact p.nx _ O _ H1 hnx ((st.same e1).set r') (vis_same e1)⟩
theorem jc_setLcr {α β : Type} {A : α → AE} {gs : List Comprehension} {es : List β} {F : β → D} {m : List β → Cmp α} {rest : List Stmt} (i : Nat) {y : Str} {py spos : Pos} (h : LcRun X elt (⟨tg, iter, ifs, 0⟩ :: gs) iter scope pos (tN X.K B ρ O (es.map F))) (hN : X.N.Nodup) (hy : X.N[i]? = some y) (hyl : X.env.scope.names.lookup y = some .local)
    (hsw : swapsWith (.ListComp elt (⟨tg, iter, ifs, 0⟩ :: gs) scope pos) (some (.Name y py)) spos.line X.env = pure true) (hr : ∀ es, JC X B rest (ρ.set i (some (.lst (es.map F)))) O A (m es)) :
    JC X B (.Assign [.Name y py] (.ListComp elt (⟨tg, iter, ifs, 0⟩ :: gs) scope pos) spos :: rest) ρ O A (.bnd es m) := fun ok => j_cons (j_setLcr h hN hy hyl hsw (hr _ ok))
/-! typed -/
theorem lcr_conv {gs : List Comprehension} {ds ds' : List D} (h : LcRun X elt gs iter scope pos (tN X.K B ρ O ds)) (e : ds = ds') : LcRun X elt gs iter scope pos (tN X.K B ρ O ds') := e ▸ h
theorem lcn2T {α β : Type} {xs : List α} {h : α → D} {pr : α → Bool} {ys : α → List β} {h2 : α → β → D} {pr2 : α → β → Bool} {δ : Type} {el : α → β → δ} {F : δ → D} (own own2 : List (Str × Nat)) {wi : TI} {G : Om → Prop} {g g2 : TG} {sl sl2 : List Nat} {f f2}
    (hc : X.calm = true) (hN : X.N.Nodup) (hi : EI X B ρ O tg iter wi G (xs.map h)) (hG : G O) (ok : BlkOk X.N X.env.scope scope own)
    (hg : ∀ X', Blk X scope X' → EB X' tg g sl f) (hsl : ∀ j ∈ sl, j ∈ own.map (·.2)) (hg2 : ∀ X', Blk X scope X' → EB X' tg2 g2 sl2 f2) (hsl2 : ∀ j ∈ sl2, j ∈ own2.map (·.2)) (hv : ∀ i ∈ own2.map (·.2), i ∈ own.map (·.2))
    (hb : ∀ x ∈ xs, ∃ ρ', f (h x) (wipeD ρ (own.map (·.2))) = some ρ' ∧ (∀ X' B', B'.L = B.L → Blk X scope X' → ETs X' B' ρ' O ifs (pr x)) ∧ (pr x = true → (∀ X' B', B'.L = B.L → Blk X scope X' → ∃ wi G, EI X' B' ρ' O tg2 it2 wi G ((ys x).map (h2 x)) ∧ G O) ∧
      ∀ y ∈ ys x, ∃ ρ2, f2 (h2 x y) (wipeD ρ' (own2.map (·.2))) = some ρ2 ∧ (∀ X' B', B'.L = B.L → Blk X scope X' → ETs X' B' ρ2 O ifs2 (pr2 x y)) ∧ (pr2 x y = true → ∀ X' B', B'.L = B.L → Blk X scope X' → EV X' B' ρ2 O elt (F (el x y)))))
    (hz : ((xs.filter pr).flatMap fun x => ((ys x).filter (pr2 x)).map (el x)).length ≤ sizeLine) (hs : ∀ x, foldedSetIterable iter X.env x = pure x := by intro _; rfl) (hs2 : ∀ env x, foldedSetIterable it2 env x = pure x := by intro _ _; rfl) :
    LcRun X elt [⟨tg, iter, ifs, 0⟩, ⟨tg2, it2, ifs2, 0⟩] iter scope pos (tN X.K B ρ O (((xs.filter pr).flatMap fun x => ((ys x).filter (pr2 x)).map (el x)).map F)) := by
  refine lcr_conv (lcn2 (el := fun x y => F (el x y)) (pos := pos) own own2 hc hN hi hG ok hg hsl hg2 hsl2 hv hb ?_ hs hs2) ?_
  · have q := hz
    rw [← List.length_map (f := F)] at q
    simp only [List.map_flatMap, List.map_map, Function.comp_def] at q
    exact q
  · simp only [List.map_flatMap, List.map_map, Function.comp_def]
theorem lcn3T {α β γ : Type} {xs : List α} {h : α → D} {pr : α → Bool} {ys : α → List β} {h2 : α → β → D} {pr2 : α → β → Bool} {zs : α → β → List γ} {h3 : α → β → γ → D} {pr3 : α → β → γ → Bool} {δ : Type} {el : α → β → γ → δ} {F : δ → D} (own own2 own3 : List (Str × Nat)) {wi : TI} {G : Om → Prop} {g g2 g3 : TG} {sl sl2 sl3 : List Nat} {f f2 f3}
    (hc : X.calm = true) (hN : X.N.Nodup) (hi : EI X B ρ O tg iter wi G (xs.map h)) (hG : G O) (ok : BlkOk X.N X.env.scope scope own)
    (hg : ∀ X', Blk X scope X' → EB X' tg g sl f) (hsl : ∀ j ∈ sl, j ∈ own.map (·.2)) (hg2 : ∀ X', Blk X scope X' → EB X' tg2 g2 sl2 f2) (hsl2 : ∀ j ∈ sl2, j ∈ own2.map (·.2)) (hg3 : ∀ X', Blk X scope X' → EB X' tg3 g3 sl3 f3) (hsl3 : ∀ j ∈ sl3, j ∈ own3.map (·.2)) (hv : ∀ i ∈ own2.map (·.2), i ∈ own.map (·.2)) (hv3 : ∀ i ∈ own3.map (·.2), i ∈ own2.map (·.2))
    (hb : ∀ x ∈ xs, ∃ ρ', f (h x) (wipeD ρ (own.map (·.2))) = some ρ' ∧ (∀ X' B', B'.L = B.L → Blk X scope X' → ETs X' B' ρ' O ifs (pr x)) ∧ (pr x = true → (∀ X' B', B'.L = B.L → Blk X scope X' → ∃ wi G, EI X' B' ρ' O tg2 it2 wi G ((ys x).map (h2 x)) ∧ G O) ∧
      ∀ y ∈ ys x, ∃ ρ2, f2 (h2 x y) (wipeD ρ' (own2.map (·.2))) = some ρ2 ∧ (∀ X' B', B'.L = B.L → Blk X scope X' → ETs X' B' ρ2 O ifs2 (pr2 x y)) ∧ (pr2 x y = true → (∀ X' B', B'.L = B.L → Blk X scope X' → ∃ wi G, EI X' B' ρ2 O tg3 it3 wi G ((zs x y).map (h3 x y)) ∧ G O) ∧
        ∀ z ∈ zs x y, ∃ ρ3, f3 (h3 x y z) (wipeD ρ2 (own3.map (·.2))) = some ρ3 ∧ (∀ X' B', B'.L = B.L → Blk X scope X' → ETs X' B' ρ3 O ifs3 (pr3 x y z)) ∧ (pr3 x y z = true → ∀ X' B', B'.L = B.L → Blk X scope X' → EV X' B' ρ3 O elt (F (el x y z))))))
    (hz : ((xs.filter pr).flatMap fun x => ((ys x).filter (pr2 x)).flatMap fun y => ((zs x y).filter (pr3 x y)).map (el x y)).length ≤ sizeLine) (hs : ∀ x, foldedSetIterable iter X.env x = pure x := by intro _; rfl) (hs2 : ∀ env x, foldedSetIterable it2 env x = pure x := by intro _ _; rfl) (hs3 : ∀ env x, foldedSetIterable it3 env x = pure x := by intro _ _; rfl) :
    LcRun X elt [⟨tg, iter, ifs, 0⟩, ⟨tg2, it2, ifs2, 0⟩, ⟨tg3, it3, ifs3, 0⟩] iter scope pos (tN X.K B ρ O (((xs.filter pr).flatMap fun x => ((ys x).filter (pr2 x)).flatMap fun y => ((zs x y).filter (pr3 x y)).map (el x y)).map F)) := by
  refine lcr_conv (lcn3 (el := fun x y z => F (el x y z)) (pos := pos) own own2 own3 hc hN hi hG ok hg hsl hg2 hsl2 hg3 hsl3 hv hv3 hb ?_ hs hs2 hs3) ?_
  · have q := hz
    rw [← List.length_map (f := F)] at q
    simp only [List.map_flatMap, List.map_map, Function.comp_def] at q
    exact q
  · simp only [List.map_flatMap, List.map_map, Function.comp_def]
end
end DL

set_option Elab.async false
set_option linter.all false
set_option maxRecDepth 100000
set_option maxHeartbeats 4000000
namespace DL
open PySem PySem.Spec PyProof.Rows L2
/-! ### frozen dicts whose keys are tuples of whole numbers -/
section
variable {X : Cx} {pins : List (Addr × Obj)} {σ : L2.St} {H : Hp} {s : Shared}
mutual
theorem rp_key (I : Inv X pins σ H s) : ∀ (k : NestedKey) (v : V) (u : Value), numK k = true → Rp X.K H v (dOf k) → RelV v u → NestedIs s.heap k u
  | .none, _, _, hn, _, _ => by cases hn
  | .num i, v, u, _, r, rv => by
    cases r
    obtain ⟨t, rfl⟩ := rv
    exact .int i t
  | .text x, _, _, hn, _, _ => by cases hn
  | .tup ks, v, u, hn, r, rv => by
    cases r with
    | @tup a vs _ hq rl =>
      have hu : u = .ref a := rv
      subst hu
      obtain ⟨its, rr, p, hz⟩ := I.tuple hq
      obtain ⟨o, ho, hc, n, hd⟩ := p
      exact .tup ho hc hd (by simpa using rp_keys I ks vs its hn rl rr)
theorem rp_keys (I : Inv X pins σ H s) : ∀ (ks : List NestedKey) (vs : List V) (us : List Value), numKs ks = true → RpL X.K H vs (dOfs ks) → Vals vs us → NestedAll s.heap ks us
  | [], _, _, _, r, rv => by cases r; cases rv; exact .nil
  | k :: ks, _, _, hn, r, rv => by
    rw [numKs, Bool.and_eq_true] at hn
    cases r with
    | cons h r =>
      cases rv with
      | cons hv rv => exact .cons (rp_key I k _ _ hn.1 h hv) (rp_keys I ks _ _ hn.2 r rv)
end
end
theorem dOfs_eq (ks : List NestedKey) : dOfs ks = ks.map dOf := by
  induction ks with
  | nil => rfl
  | cons k ks ih => rw [dOfs, ih]; rfl
mutual
theorem hash_num (w w' : World) : ∀ k : NestedKey, numK k = true → k.hash w = k.hash w'
  | .none, h => by cases h
  | .num i, _ => rfl
  | .text x, h => by cases h
  | .tup ks, h => by rw [NestedKey.hash, NestedKey.hash, hashes_num w w' ks h]
theorem hashes_num (w w' : World) : ∀ ks : List NestedKey, numKs ks = true → NestedKey.hashes w ks = NestedKey.hashes w' ks
  | [], _ => rfl
  | k :: ks, h => by
    rw [numKs, Bool.and_eq_true] at h
    rw [NestedKey.hashes, NestedKey.hashes, hash_num w w' k h.1, hashes_num w w' ks h.2]
end
/-- the entries as the library tells them -/
abbrev entsK (ks : List NestedKey) (as : List Addr) : List (NestedKey × Addr × Value) := (ks.zip as).map fun p => (p.1, p.2, Value.bool true)
theorem ents_keys {ks : List NestedKey} {as : List Addr} (h : as.length = ks.length) : (entsK ks as).map (·.1) = ks := by
  rw [List.map_map]
  show (ks.zip as).map (fun p => p.1) = ks
  rw [List.map_fst_zip (by omega)]
theorem dct_of {X : Cx} {pins : List (Addr × Obj)} {σ : L2.St} {H : Hp} {s : Shared} {a : Addr} {es : Array DictEntry} {ep : Nat} {bs : List V} {ks : List NestedKey} {as : List Addr} (I : Inv X pins σ H s) (h : H a = some (.ext fun h => h.DictRaw a es ep)) (k : DctOk es bs ks as) (r : RpL X.K H bs (dOfs ks)) :
    s.heap.DictOfH (nestedKind X.prog X.w) a (entsK ks as) := by
  obtain ⟨⟨o, ho, hc, hd⟩, _, _⟩ := I.hok a _ h
  refine ⟨o, es, ep, ho, hc, hd, ?_, fun x hx => ?_, by rw [ents_keys k.len]; exact k.nd⟩
  · rw [k.es X.w, List.map_map]; rfl
  · obtain ⟨p, hp, rfl⟩ := List.mem_map.mp hx
    obtain ⟨kk, b⟩ := p
    obtain ⟨i, hi⟩ := List.mem_iff_getElem?.mp hp
    rw [List.getElem?_zip_eq_some] at hi
    have hm := List.mem_of_getElem? hi.1
    have hb : bs[i]? = some (V.ref b) := by rw [k.bs, List.getElem?_map, hi.2]; rfl
    obtain ⟨d, hd', rv⟩ := r.get' hb
    rw [dOfs_eq, List.getElem?_map, hi.1] at hd'
    cases hd'
    exact ⟨rp_key I kk _ _ (k.num _ hm).1 rv rfl, (k.num _ hm).2⟩
theorem atKey_ents {ks : List NestedKey} {as : List Addr} (h : as.length = ks.length) (k : NestedKey) : (atKey (entsK ks as) k).isSome = decide (k ∈ ks) := by
  unfold atKey
  rw [Option.isSome_map]
  refine Bool.eq_iff_iff.mpr ⟨fun q => ?_, fun q => ?_⟩
  · obtain ⟨x, hx, e⟩ := List.find?_isSome.mp q
    have := List.mem_map_of_mem (f := (·.1)) hx
    rw [ents_keys h, of_decide_eq_true e] at this
    exact decide_eq_true this
  · have hm : k ∈ (entsK ks as).map (·.1) := by rw [ents_keys h]; exact of_decide_eq_true q
    obtain ⟨x, hx, e⟩ := List.mem_map.mp hm
    exact List.find?_isSome.mpr ⟨x, hx, decide_eq_true e⟩
/-- k in a frozen dict -/
def rInK (K : PySem.W.Frag) (neg : Bool) : R2 := fun x y H Q => ∃ k ks, numK k = true ∧ k.depth ≤ 8 ∧ (∃ l, k = .tup l) ∧ Rp K H x (dOf k) ∧ Rp K H y (.dct ks) ∧ Q (.bl (neg != decide (k ∈ ks))) H
theorem op_inK {X : Cx} (hu : X.A.units + 65 < cLine) : OpR X (compareOp .In) (rInK X.K false) := fun pins s σ H x y v u Q I rx ry ⟨k, ks, h1, h2, ⟨l, hl⟩, r1, r2, q⟩ => by
  subst hl
  cases r1 with
  | @tup b vs _ hq rl =>
    have hv : v = .ref b := rx
    subst hv
    cases r2 with
    | @dct a es ep bs _ as ha lo hk rk =>
      have hu' : u = .ref a := ry
      subst hu'
      have hd := dct_of I ha hk rk
      refine in_keyed (knd := nestedKind X.prog X.w) (k := .tup l) (kvs := pairsH (entsK ks as)) (show X.A.in1.units + 8 < cLine by show X.A.units + 1 + 8 < cLine; omega) ⟨rp_key I (.tup l) _ _ h1 (.tup hq rl) rfl, h2⟩ lo ⟨_, hd, rfl⟩ ?_
      rw [valueAt_pairsH, Option.isSome_map, atKey_ents hk.len]
      exact ⟨.bl (decide (NestedKey.tup l ∈ ks)), H, I.tok _, rfl, by simpa using q⟩
theorem op_notInK {X : Cx} (hu : X.A.units + 65 < cLine) : OpR X (compareOp .NotIn) (rInK X.K true) := fun pins s σ H x y v u Q I rx ry ⟨k, ks, h1, h2, ⟨l, hl⟩, r1, r2, q⟩ => by
  subst hl
  cases r1 with
  | @tup b vs _ hq rl =>
    have hv : v = .ref b := rx
    subst hv
    cases r2 with
    | @dct a es ep bs _ as ha lo hk rk =>
      have hu' : u = .ref a := ry
      subst hu'
      have hd := dct_of I ha hk rk
      refine notIn_keyed (knd := nestedKind X.prog X.w) (k := .tup l) (kvs := pairsH (entsK ks as)) (show X.A.in1.units + 8 < cLine by show X.A.units + 1 + 8 < cLine; omega) ⟨rp_key I (.tup l) _ _ h1 (.tup hq rl) rfl, h2⟩ lo ⟨_, hd, rfl⟩ ?_
      rw [valueAt_pairsH, Option.isSome_map, atKey_ents hk.len]
      exact ⟨.bl (!decide (NestedKey.tup l ∈ ks)), H, I.tok _, rfl, by simpa using q⟩
/-- a type whose values are such keys -/
structure KeyOk {α : Type} (E : α → D) (f : α → NestedKey) : Prop where
  eq : ∀ a, dOf (f a) = E a
  inj : ∀ a b, f a = f b → a = b
  num : ∀ a, numK (f a) = true
  dep : ∀ a, (f a).depth ≤ 8
  tup : ∀ a, ∃ l, f a = .tup l
section
variable {K : PySem.W.Frag} {B : Gd} {O : Om} {α : Type} {E : α → D} {f : α → NestedKey} [DecidableEq α]
theorem mem_key (hk : KeyOk E f) (x : α) (xs : List α) : decide (f x ∈ xs.map f) = decide (x ∈ xs) := by
  by_cases h : x ∈ xs
  · rw [decide_eq_true h, decide_eq_true (List.mem_map_of_mem h)]
  · rw [decide_eq_false h, decide_eq_false]
    intro q
    obtain ⟨y, hy, e⟩ := List.mem_map.mp q
    rw [hk.inj _ _ e] at hy
    exact h hy
theorem rd_inKD (hk : KeyOk E f) {x : α} {xs : List α} : RD K B O (rInK K false) (E x) (.dct (xs.map f)) (.bl (decide (x ∈ xs))) := fun v y H Q m r1 r2 k => by
  refine ⟨f x, xs.map f, hk.num x, hk.dep x, hk.tup x, by rw [hk.eq]; exact r1.mono vis_le, r2.mono vis_le, ?_⟩
  rw [mem_key hk]
  cases h : decide (x ∈ xs) <;> exact k _ H (Same.refl H) (by rw [h]; exact .bl _)
theorem rd_notinKD (hk : KeyOk E f) {x : α} {xs : List α} : RD K B O (rInK K true) (E x) (.dct (xs.map f)) (.bl (!decide (x ∈ xs))) := fun v y H Q m r1 r2 k => by
  refine ⟨f x, xs.map f, hk.num x, hk.dep x, hk.tup x, by rw [hk.eq]; exact r1.mono vis_le, r2.mono vis_le, ?_⟩
  rw [mem_key hk]
  cases h : decide (x ∈ xs) <;> exact k _ H (Same.refl H) (by rw [h]; exact .bl _)
end
/-! ### made by a comprehension -/
def stepK (ks : List NestedKey) (k : NestedKey) : List NestedKey := if k ∈ ks then ks else ks ++ [k]
def accK (K : PySem.W.Frag) : AccK (List NestedKey) NestedKey where
  P := fun D Hv H ks => ∃ es ep bs as, H D = some (.ext fun h => h.DictRaw D es ep) ∧ (D == sysModules) = false ∧ DctOk es bs ks as ∧ RpL K Hv bs (dOfs ks)
  size := List.length
  step := stepK
  mono := fun ⟨es, ep, bs, as, h, l, k, r⟩ e eh => ⟨es, ep, bs, as, eh.trans h, l, k, r.mono e⟩
  there := fun ⟨es, ep, bs, as, h, _⟩ => ⟨_, h⟩
  grow := fun a x => by unfold stepK; split <;> simp
theorem dict_ext_ok {X : Cx} {H : Hp} {h : Heap} {a : Addr} {es : Array DictEntry} {ep : Nat} (x : h.DictRaw a es ep) : ObjOk X.prog X.w H h a (.ext fun h => h.DictRaw a es ep) :=
  ⟨x, let ⟨o, ho, _⟩ := x; ⟨o, ho⟩, fun h1 h2 p e => p.at e⟩
/-- d[k] = True, by a block -/
theorem d_setK {X : Cx} {pins : List (Addr × Obj)} {σ : L2.St} {H : Hp} {s : Shared} {E : Value → Shared → Prop} {D : Addr} {y : V} {u : Value} {k : NestedKey} {ks : List NestedKey} {Q : Unit → Shared → Prop} (hu : X.A.units + 65 < cLine) (I : Inv X pins σ H s)
    {es : Array DictEntry} {ep : Nat} {bs : List V} {as : List Addr} (hD : H D = some (.ext fun h => h.DictRaw D es ep)) (dk : DctOk es bs ks as) (rl : RpL X.K H bs (dOfs ks)) (hn : numK k = true) (hd : k.depth ≤ 8) (ht : ∃ l, k = .tup l) (rk : Rp X.K H y (dOf k)) (rv : RelV y u) (hz : ks.length < sizeLine)
    (q : ∀ s' es' ep' bs' as', Inv X pins σ (upd H D (.ext fun h => h.DictRaw D es' ep')) s' → DctOk es' bs' (stepK ks k) as' → (∀ Hv, RpL X.K Hv bs (dOfs ks) → Rp X.K Hv y (dOf k) → RpL X.K Hv bs' (dOfs (stepK ks k))) → Q () s') :
    wpAny (model X.prog X.w) X.A (dictSet D u (.bool true)) Q E s := by
  obtain ⟨l, hl⟩ := ht
  have hy : ∃ b, y = .ref b := by
    subst hl
    cases rk with
    | tup _ _ => exact ⟨_, rfl⟩
  obtain ⟨b, rfl⟩ := hy
  have hu' : u = .ref b := rv
  subst hu'
  have dm := dct_of I hD dk rl
  have hlen : (entsK ks as).length = ks.length := by rw [← List.length_map (f := (·.1)), ents_keys dk.len]
  have hi : (nestedKind X.prog X.w).is s.heap k b := ⟨rp_key I k _ _ hn rk rfl, hd⟩
  refine wpAny_dictSet_heap (hsz := by rw [hlen]; omega) (knd := nestedKind X.prog X.w) (show X.A.units + 8 < cLine by omega) hi dm fun h' hm' hs => ?_
  have old : ∀ xs : List (NestedKey × Addr × Value), (∀ x ∈ xs, x.2.2 = .bool true) → xs.map (putAt k (.bool true)) = xs := fun xs hx => by
    refine (List.map_congr_left fun x hm => ?_).trans (List.map_id xs)
    unfold putAt
    split
    · have := hx x hm
      obtain ⟨a, c, v⟩ := x
      simp only at this
      subst this; rfl
    · rfl
  have est : storedH (entsK ks as) k b (.bool true) = if k ∈ ks then entsK ks as else entsK (ks ++ [k]) (as ++ [b]) := by
    unfold storedH
    rw [atKey_ents dk.len]
    by_cases hm : k ∈ ks
    · rw [decide_eq_true hm, if_pos rfl, if_pos hm]
      exact old _ fun x hx => by obtain ⟨p, _, rfl⟩ := List.mem_map.mp hx; rfl
    · rw [decide_eq_false hm, if_neg (by decide), if_neg hm]
      rw [entsK, entsK, List.zip_append dk.len.symm]
      simp
  obtain ⟨o, es', ep', ho, hc, hdat, he, _, hnd⟩ := hm'
  have raw : h'.DictRaw D es' ep' := ⟨o, ho, hc, hdat⟩
  have I' : Inv X pins σ (upd H D (.ext fun h => h.DictRaw D es' ep')) { s with heap := h', toks := s.toks + (nestedKind X.prog X.w).draws k } :=
    d_write I (by rw [hD]; exact True.intro) hs ⟨o, ho⟩ (dict_ext_ok raw)
  rw [est] at he
  by_cases hm : k ∈ ks
  · rw [if_pos hm] at he
    refine q _ es' ep' bs as I' ?_ fun Hv r _ => ?_
    · unfold stepK; rw [if_pos hm]
      refine ⟨dk.nd, dk.num, dk.bs, dk.len, fun w => ?_, dk.lim⟩
      rw [he, List.map_map]
      refine List.map_congr_left fun p hp => ?_
      have hmem := (List.of_mem_zip hp).1
      show (⟨p.1.hash X.w, _, _⟩ : DictEntry) = _
      rw [hash_num X.w w p.1 (dk.num _ hmem).1]
    · unfold stepK; rw [if_pos hm]; exact r
  · rw [if_neg hm] at he
    refine q _ es' ep' (bs ++ [.ref b]) (as ++ [b]) I' ?_ fun Hv r r1 => ?_
    · unfold stepK; rw [if_neg hm]
      refine ⟨?_, fun k' hk' => ?_, by rw [dk.bs]; simp, by simp [dk.len], fun w => ?_, by simp; omega⟩
      · rw [List.nodup_append]
        exact ⟨dk.nd, by simp, fun a ha b' hb' e => hm (by rw [List.mem_singleton] at hb'; rw [← hb', ← e]; exact ha)⟩
      · rcases List.mem_append.mp hk' with hk' | hk'
        · exact dk.num _ hk'
        · rw [List.mem_singleton.mp hk']; exact ⟨hn, hd⟩
      · rw [he, List.map_map]
        refine List.map_congr_left fun p hp => ?_
        have hmem := (List.of_mem_zip hp).1
        have hnum : numK p.1 = true := by
          rcases List.mem_append.mp hmem with h | h
          · exact (dk.num _ h).1
          · rw [List.mem_singleton.mp h]; exact hn
        show (⟨p.1.hash X.w, _, _⟩ : DictEntry) = _
        rw [hash_num X.w w p.1 hnum]
    · unfold stepK
      rw [if_neg hm]
      rw [dOfs_eq] at r ⊢
      rw [List.map_append]
      exact r.append (.cons r1 .nil)
/-- the emission of a dict's comprehension -/
abbrev emitD (kx vx : Expr) (D : Addr) (env : Env) : Sem Unit := do
  let kv ← eval kx env
  let vv ← holding [kv] (eval vx env)
  standAt { kx.pos with endLine := vx.pos.endLine, endCol := vx.pos.endCol }
  holding [kv, vv] (dictSet D kv vv)
abbrev teK (X : Cx) (scope : Scope) (kx vx : Expr) (D0 : Addr) : TB := fun σ H Nx => tAnyE (Blk X scope) kx σ H fun y H7 => tAnyE (Blk X scope) vx σ H7 fun z H8 => z = .bl true ∧ ∃ es ep bs as ks k, H8 D0 = some (.ext fun h => h.DictRaw D0 es ep) ∧ DctOk es bs ks as ∧ RpL X.K H8 bs (dOfs ks) ∧
  numK k = true ∧ k.depth ≤ 8 ∧ (∃ l, k = .tup l) ∧ Rp X.K H8 y (dOf k) ∧ ks.length < sizeLine ∧ ∀ es' ep' bs' as', DctOk es' bs' (stepK ks k) as' → (∀ Hv, RpL X.K Hv bs (dOfs ks) → Rp X.K Hv y (dOf k) → RpL X.K Hv bs' (dOfs (stepK ks k))) → Nx (upd H8 D0 (.ext fun h => h.DictRaw D0 es' ep'))
theorem body_dict {X Y : Cx} {scope : Scope} {kx vx : Expr} {D : Addr} (hY : Blk X scope Y) (hu : X.A.units + 65 < cLine) : BodyOk Y [] (bodyE (emitD kx vx D Y.env)) (teK X scope kx vx D) := ⟨fun pins s σ H Nx I q k R E hk => by
  have hxe : Y.xe = fun _ _ => False := by obtain ⟨_, _, _, _, _, rfl⟩ := hY; rfl
  have hK : Y.K = X.K := by obtain ⟨_, _, _, _, _, rfl⟩ := hY; rfl
  have hA : Y.A = X.A := by obtain ⟨_, _, _, _, _, rfl⟩ := hY; rfl
  have re := (anyE_ok hY).run _ s σ H _ I q
  rw [hxe] at re
  unfold bodyE emitD
  refine wpAny_bind (wpAny_bind (thnF re fun kv s1 ⟨y, H1, I1, r1, q1⟩ => ?_))
  have re2 := (anyE_ok hY).run _ s1 σ H1 _ I1 q1
  rw [hxe] at re2
  refine wpAny_bind (wpAny_holding (thnF re2 fun vv s2 ⟨z, H2, I2, r2, hz, es, ep, bs, as, ks, kk, hD, dk, rl, hn, hd, ht, rk, hlt, nx⟩ => ?_))
  subst hz
  have hv : vv = .bool true := r2
  subst hv
  refine wpAny_bind (wpAny_standAt (wpAny_holding ?_))
  refine d_setK (by rw [hA]; exact hu) I2 hD dk (by rw [hK]; exact rl) hn hd ht (by rw [hK]; exact rk) r1 hlt fun s' es' ep' bs' as' I' dk' tr => hk _ _ _ I' .refl (nx es' ep' bs' as' dk' (by rw [← hK]; exact tr))⟩
section
variable {X : Cx} {B : Gd} {ρ ρ' : List (Option D)} {O : Om} {scope : Scope} {kx vx iter tg it2 tg2 : Expr} {ifs ifs2 : List Expr} {pos : Pos} {D0 : Addr} {k : NestedKey} {d : D}
theorem tail_key (he : ∀ X' B', B'.L = B.L → Blk X scope X' → EV X' B' ρ O kx d) (hv : ∀ X' B', B'.L = B.L → Blk X scope X' → EV X' B' ρ O vx (.bl true)) (ek : dOf k = d) (hn : numK k = true) (hd : k.depth ≤ 8) (ht : ∃ l, k = .tup l) :
    TailOk X B.L O (accK X.K) D0 [] (teK X scope kx vx D0) ρ [k] := fun B0 σ H ks Nx eL hdd st ⟨es, ep, bs, as, hD, lo, dk, rl⟩ hz nx => by
  have hK : ∀ X', Blk X scope X' → X'.K = X.K := fun X' ⟨s, H, C, cl, fp, e⟩ => by rw [e]
  refine ⟨X.K, B0, ρ, O, d, fun X' hX' => ⟨hK X' hX', he X' B0 eL hX'⟩, st, fun y H4 e4 r4 => ⟨X.K, B0, ρ, O, .bl true, fun X' hX' => ⟨hK X' hX', hv X' B0 eL hX'⟩, st.same e4, fun z H5 e5 r5 => ?_⟩⟩
  cases r5
  have hD5 := e5 _ _ (e4 _ _ hD)
  refine ⟨rfl, es, ep, bs, as, ks, k, hD5, dk, (rl.mono (vis_same (e4.trans e5))).mono vis_le, hn, hd, ht, by rw [ek]; exact (r4.mono (vis_same e5)).mono vis_le, ?_, fun es' ep' bs' as' dk' tr => ?_⟩
  · have hz' : ks.length + 1 ≤ sizeLine := hz
    omega
  · have up : vis B0.F O (upd H5 D0 (.ext fun h => h.DictRaw D0 es' ep')) = vis B0.F O H5 := by
      funext b
      by_cases q : b = D0
      · subst q; unfold vis; rw [hdd.F]; simp
      · unfold vis; rw [upd_ne q]
    refine nx _ (((But.same e4).trans (.same e5)).trans .upd) ⟨es', ep', bs', as', upd_same, lo, dk', ?_⟩
    rw [up]
    exact tr _ (rl.mono (vis_same (e4.trans e5))) (by rw [ek]; exact r4.mono (vis_same e5))
/-- what the block leaves, as a datum -/
theorem dct_rp {K : PySem.W.Frag} {B : Gd} {O : Om} {H H0 : Hp} {p : Addr} {ks : List NestedKey} {m : M} (st : MOk K B O H0) (hp : H0 p = none) (h : (accK K).P p (vis B.F ((p, m) :: O) H) H ks) : Rp K (vis B.F O H) (.ref p) (.dct ks) := by
  obtain ⟨es, ep, bs, as, hD, lo, dk, rl⟩ := h
  refine .dct (vis_some.mpr ⟨st.newF hp, st.newO hp, hD⟩) lo dk (rl.mono fun a o h => ?_)
  obtain ⟨h1, h2, h3⟩ := vis_some.mp h
  rw [has_cons, Bool.or_eq_false_iff] at h2
  exact vis_some.mpr ⟨h1, h2.2, h3⟩
theorem pe_dcn {sub : List Nat} {c : Clz} {cs : List Clz} {gs : List Comprehension} {own : List (Str × Nat)} {body : Value → Env → Sem PySem.Fin → Sem PySem.Fin} {te : Addr → TB} (hc : X.calm = true) (hN : X.N.Nodup) (hi : PI X tg iter c.wi) (ok : BlkOk X.N X.env.scope scope own) (hown : c.vs = own.map (·.2)) (hv : ∀ i ∈ sub, i ∈ c.vs)
    (ht : ∀ it D env, compTurn (.DictComp kx vx (⟨tg, iter, ifs, 0⟩ :: gs) scope pos) 0 it (.ref D) env = turnS (.DictComp kx vx (⟨tg, iter, ifs, 0⟩ :: gs) scope pos) 0 tg iter ifs (body (.ref D) env) it (.ref D) env)
    (hg : ∀ (s : Shared) (H : Hp) (C : Addr) (cl : List (Str × Addr)) (fp : List Addr), PG (X.blk s H scope (compEnvC scope cl C X.env) fp) tg c.g) (hts : ∀ (s : Shared) (H : Hp) (C : Addr) (cl : List (Str × Addr)) (fp : List Addr), PTs (X.blk s H scope (compEnvC scope cl C X.env) fp) ifs c.tt)
    (hb : ∀ (s : Shared) (H : Hp) (C : Addr) (cl : List (Str × Addr)) (fp : List Addr) (D : Addr), BodyOk (X.blk s H scope (compEnvC scope cl C X.env) fp) sub (body (.ref D) (compEnvC scope cl C X.env)) (tCl cs (te D))) (hs : ∀ x, foldedSetIterable iter X.env x = pure x) :
    PE X (.DictComp kx vx (⟨tg, iter, ifs, 0⟩ :: gs) scope pos) (tCn c cs te fun D => .ext fun h => h.DictRaw D #[] 0) := by
  refine ⟨fun pins s σ H Q I h => ?_⟩
  rw [arm_eval_DictComp]
  refine cn_core (ho := fun D => .ext fun h => h.DictRaw D #[] 0) (ob := { cls := .type "dict", data := .dict #[] }) (.inr ⟨_, _, _, _, _, rfl⟩) hc hN I rfl hi ok hown hv (fun {A E Q s} q => wpAny_newObj_type q) (fun H h _ => dict_ext_ok ⟨_, Heap.get?_push_size _ rfl, ⟨rfl, rfl, rfl⟩, rfl⟩) ht hg hts hb hs h fun D C s' m H' I' q hn f => ⟨m, hn, fun h'' sb => ?_⟩
  obtain ⟨f0, f1, f2, f3, f4, f5⟩ := f
  exact ⟨.ref D, H', I'.turned (t' := s'.toks) (fun b o hb e => (sb.2 b hb).trans e) f0 f1 f3 f4 f5, rfl, q⟩
theorem dct_nil : DctOk #[] [] [] [] := ⟨List.nodup_nil, fun _ h => (by cases h), rfl, rfl, fun _ => rfl, Nat.zero_le _⟩
/-- {k: True for ..} -/
theorem ev_dc1 {α : Type} {xs : List α} {h : α → D} {pr : α → Bool} {ke : α → D} {kk : α → NestedKey} (own : List (Str × Nat)) {wi : TI} {G : Om → Prop} {g : TG} {sl : List Nat} {f}
    (hu : X.A.units + 65 < cLine) (hc : X.calm = true) (hN : X.N.Nodup) (hi : EI X B ρ O tg iter wi G (xs.map h)) (hG : G O) (ok : BlkOk X.N X.env.scope scope own)
    (hg : ∀ X', Blk X scope X' → EB X' tg g sl f) (hsl : ∀ j ∈ sl, j ∈ own.map (·.2))
    (hk : ∀ x, dOf (kk x) = ke x ∧ numK (kk x) = true ∧ (kk x).depth ≤ 8 ∧ ∃ l, kk x = .tup l)
    (hb : ∀ x ∈ xs, ∃ ρ', f (h x) (wipeD ρ (own.map (·.2))) = some ρ' ∧ (∀ X' B', B'.L = B.L → Blk X scope X' → ETs X' B' ρ' O ifs (pr x)) ∧ (pr x = true → (∀ X' B', B'.L = B.L → Blk X scope X' → EV X' B' ρ' O kx (ke x)) ∧ ∀ X' B', B'.L = B.L → Blk X scope X' → EV X' B' ρ' O vx (.bl true)))
    (hz : (xs.filter pr).length ≤ sizeLine) (hs : ∀ x, foldedSetIterable iter X.env x = pure x := by intro _; rfl) :
    EV X B ρ O (.DictComp kx vx [⟨tg, iter, ifs, 0⟩] scope pos) (.dct (((xs.filter pr).map kk).foldl stepK [])) := by
  have ef : (xs.filter pr).flatMap (fun x => [kk x]) = (xs.filter pr).map kk := by rw [List.map_eq_flatMap]
  refine pe_imp (pe_dcn (c := ⟨wi, g, tAnyTs (Blk X scope) ifs, own.map (·.2)⟩) (cs := []) (sub := []) (te := teK X scope kx vx) (body := fun acc env => match acc with | .ref D => bodyE (emitD kx vx D env) | _ => id) hc hN hi.pi ok rfl (fun _ h => by cases h) (fun it D env => by rfl)
    (fun s H C cl fp => (hg _ ⟨s, H, C, cl, fp, rfl⟩).pg) (fun s H C cl fp => anyTs_ok ⟨s, H, C, cl, fp, rfl⟩) (fun s H C cl fp D => body_dict ⟨s, H, C, cl, fp, rfl⟩ hu) hs) fun σ H Q ⟨st, k⟩ => ?_
  refine cnW_imp (pr := pr) (AC := accK X.K) (a0 := []) (out := fun x => [kk x]) hi hG hg hsl (fun D0 x hx => ?_) (fun D Hv H lo => ⟨#[], 0, [], [], upd_same, lo, dct_nil, .nil⟩) (by rw [ef]; simpa [accK] using hz) st fun p H' hp e hP => k _ H' e ?_
  · obtain ⟨ρ', b1, b2, b3⟩ := hb x hx
    exact ⟨ρ', b1, b2, fun hp => tail_key (b3 hp).1 (b3 hp).2 (hk x).1 (hk x).2.1 (hk x).2.2.1 (hk x).2.2.2⟩
  · rw [ef] at hP
    exact dct_rp st.m hp hP
theorem ev_dc2 {α β : Type} {xs : List α} {h : α → D} {pr : α → Bool} {ys : α → List β} {h2 : α → β → D} {pr2 : α → β → Bool} {ke : α → β → D} {kk : α → β → NestedKey} (own own2 : List (Str × Nat)) {wi : TI} {G : Om → Prop} {g g2 : TG} {sl sl2 : List Nat} {f f2}
    (hu : X.A.units + 65 < cLine) (hc : X.calm = true) (hN : X.N.Nodup) (hi : EI X B ρ O tg iter wi G (xs.map h)) (hG : G O) (ok : BlkOk X.N X.env.scope scope own)
    (hg : ∀ X', Blk X scope X' → EB X' tg g sl f) (hsl : ∀ j ∈ sl, j ∈ own.map (·.2)) (hg2 : ∀ X', Blk X scope X' → EB X' tg2 g2 sl2 f2) (hsl2 : ∀ j ∈ sl2, j ∈ own2.map (·.2)) (hv : ∀ i ∈ own2.map (·.2), i ∈ own.map (·.2))
    (hk : ∀ x y, dOf (kk x y) = ke x y ∧ numK (kk x y) = true ∧ (kk x y).depth ≤ 8 ∧ ∃ l, kk x y = .tup l)
    (hb : ∀ x ∈ xs, ∃ ρ', f (h x) (wipeD ρ (own.map (·.2))) = some ρ' ∧ (∀ X' B', B'.L = B.L → Blk X scope X' → ETs X' B' ρ' O ifs (pr x)) ∧ (pr x = true → (∀ X' B', B'.L = B.L → Blk X scope X' → ∃ wi G, EI X' B' ρ' O tg2 it2 wi G ((ys x).map (h2 x)) ∧ G O) ∧
      ∀ y ∈ ys x, ∃ ρ2, f2 (h2 x y) (wipeD ρ' (own2.map (·.2))) = some ρ2 ∧ (∀ X' B', B'.L = B.L → Blk X scope X' → ETs X' B' ρ2 O ifs2 (pr2 x y)) ∧ (pr2 x y = true → (∀ X' B', B'.L = B.L → Blk X scope X' → EV X' B' ρ2 O kx (ke x y)) ∧ ∀ X' B', B'.L = B.L → Blk X scope X' → EV X' B' ρ2 O vx (.bl true))))
    (hz : ((xs.filter pr).flatMap fun x => ((ys x).filter (pr2 x)).map (kk x)).length ≤ sizeLine) (hs : ∀ x, foldedSetIterable iter X.env x = pure x := by intro _; rfl) (hs2 : ∀ env x, foldedSetIterable it2 env x = pure x := by intro _ _; rfl) :
    EV X B ρ O (.DictComp kx vx [⟨tg, iter, ifs, 0⟩, ⟨tg2, it2, ifs2, 0⟩] scope pos) (.dct (((xs.filter pr).flatMap fun x => ((ys x).filter (pr2 x)).map (kk x)).foldl stepK [])) := by
  refine pe_imp (pe_dcn (c := ⟨wi, g, tAnyTs (Blk X scope) ifs, own.map (·.2)⟩) (cs := [⟨tAnyI (Blk X scope) tg2 it2, g2, tAnyTs (Blk X scope) ifs2, own2.map (·.2)⟩]) (sub := own2.map (·.2)) (te := teK X scope kx vx)
    (body := fun acc env => bodyC (.DictComp kx vx [⟨tg, iter, ifs, 0⟩, ⟨tg2, it2, ifs2, 0⟩] scope pos) 1 it2 acc env) hc hN hi.pi ok rfl hv (fun it D env => by rfl)
    (fun s H C cl fp => (hg _ ⟨s, H, C, cl, fp, rfl⟩).pg) (fun s H C cl fp => anyTs_ok ⟨s, H, C, cl, fp, rfl⟩)
    (fun s H C cl fp D => body_clause (X := X.blk s H scope (compEnvC scope cl C X.env) fp) (sub := []) (e := .DictComp kx vx [⟨tg, iter, ifs, 0⟩, ⟨tg2, it2, ifs2, 0⟩] scope pos) (d := 1) (acc := .ref D) (c := ⟨tAnyI (Blk X scope) tg2 it2, g2, tAnyTs (Blk X scope) ifs2, own2.map (·.2)⟩) (cs := []) (te := teK X scope kx vx D) (body := bodyE (emitD kx vx D (compEnvC scope cl C X.env)))
      rfl (.inr ⟨_, _, _, _, _, rfl⟩) hc rfl (fun it => by rfl) hs2 (anyI_ok ⟨s, H, C, cl, fp, rfl⟩) (hg2 _ ⟨s, H, C, cl, fp, rfl⟩).pg (anyTs_ok ⟨s, H, C, cl, fp, rfl⟩) (fun _ h => by cases h) (body_dict ⟨s, H, C, cl, fp, rfl⟩ hu)) hs) fun σ H Q ⟨st, k⟩ => ?_
  refine cnW_imp (pr := pr) (AC := accK X.K) (a0 := []) (out := fun x => ((ys x).filter (pr2 x)).map (kk x)) hi hG hg hsl (fun D0 x hx => ?_) (fun D Hv H lo => ⟨#[], 0, [], [], upd_same, lo, dct_nil, .nil⟩) (by simpa [accK] using hz) st fun p H' hp e hP => k _ H' e (dct_rp st.m hp hP)
  obtain ⟨ρ', b1, b2, b3⟩ := hb x hx
  refine ⟨ρ', b1, b2, fun hp => ?_⟩
  have e : ((ys x).filter (pr2 x)).map (kk x) = ((ys x).filter (pr2 x)).flatMap fun y => [kk x y] := by rw [List.map_eq_flatMap]
  show TailOk X B.L O _ D0 _ _ ρ' (((ys x).filter (pr2 x)).map (kk x))
  rw [e]
  refine tail_clause (b3 hp).1 hg2 hsl2 fun y hy => ?_
  obtain ⟨ρ2, c1, c2, c3⟩ := (b3 hp).2 y hy
  exact ⟨ρ2, c1, c2, fun hp2 => tail_key (c3 hp2).1 (c3 hp2).2 (hk x y).1 (hk x y).2.1 (hk x y).2.2.1 (hk x y).2.2.2⟩
end
/-! typed -/
def stepT {α : Type} [DecidableEq α] (xs : List α) (x : α) : List α := if x ∈ xs then xs else xs ++ [x]
/-- the values without repetition, the first of each -/
def onceL {α : Type} [DecidableEq α] (xs : List α) : List α := xs.foldl stepT []
theorem once_map {α : Type} [DecidableEq α] {E : α → D} {f : α → NestedKey} (hk : KeyOk E f) (xs : List α) : (xs.map f).foldl stepK [] = (onceL xs).map f := by
  have : ∀ (xs acc : List α), (xs.map f).foldl stepK (acc.map f) = (xs.foldl stepT acc).map f := by
    intro xs
    induction xs with
    | nil => intro acc; rfl
    | cons x xs ih =>
      intro acc
      rw [List.map_cons, List.foldl_cons, List.foldl_cons]
      have e : stepK (acc.map f) (f x) = (stepT acc x).map f := by
        unfold stepK stepT
        have := mem_key hk x acc
        by_cases h : x ∈ acc
        · rw [if_pos h, if_pos (List.mem_map_of_mem h)]
        · rw [if_neg h, if_neg]
          · simp
          · intro q
            rw [decide_eq_true q, decide_eq_false h] at this
            cases this
      rw [e]; exact ih _
  exact this xs []
/-! the keys as a list -/
theorem kdl_keys_raw {prog : Program} {w : World} {d r : Addr} {es : Array DictEntry} {ep : Nat} : PySem.W.KdlSrc prog w "dict_keys" r d es.size (fun i v => ∃ e, es[i]? = some e ∧ e.key = v) (fun h => PySem.W.KdlKeysView h r d ∧ h.DictRaw d es ep) where
  type := fun _ hm => hm.1.typeIs
  there := fun _ hm => ⟨let ⟨_, ho, _⟩ := hm.1; Heap.lt_size ho, let ⟨_, ho, _⟩ := hm.2; Heap.lt_size ho⟩
  keep := fun _ _ hm hk => ⟨let ⟨o, ho, x⟩ := hm.1; ⟨o, hk r (.inl rfl) o ho, x⟩, hm.2.at fun o e => hk d (.inr rfl) o e⟩
  notList := by decide
  notTuple := by decide
  hint := fun _ _ _ _ hm hq => PySem.W.kdl_hint_keys hm.1.typeIs hq
  iter := fun _ s hh hm => ⟨_, _, (fun _ _ hq => wpAny_pyIter_keys_raw hm.1 hm.2 hq), (Walks.rawKeys hh _ d (Nat.ne_of_lt (let ⟨_, ho, _⟩ := hm.2; Heap.lt_size ho)) es ep).mono_item (fun i v hi ⟨h, e⟩ => ⟨es[i], by simp [h], e.symm⟩), ⟨⟨_, Heap.get?_push_size _ rfl, rfl, rfl⟩, hm.2.at fun o e => Heap.get?_push_of_some _ e⟩⟩
def tKeysM (K : PySem.W.Frag) (td : TE) : TE := fun σ H Q => td σ H fun x H1 => ∃ d es ep bs ks as, x = .ref d ∧ H1 d = some (.ext fun h => h.DictRaw d es ep) ∧ (d == sysModules) = false ∧ DctOk es bs ks as ∧ ∀ p, H1 p = none → Q (.ref p) (upd H1 p (.ext fun h => PySem.W.KdlKeysView h p d))
theorem pe_keysM {X : Cx} {e : Expr} {td : TE} {apos cpos : Pos} (he : PE X e td) (hbase : attributeBase e "keys" X.env (eval e X.env) = eval e X.env := by rfl) (hline : (apos.endLine == cpos.line) = true := by rfl) : PE X (.Call (.Attribute e "keys" apos) [] [] cpos) (tKeysM X.K td) := by
  refine ⟨fun pins s σ H Q I h => ?_⟩
  refine wpAny_Call_method (T := "dict") (id := "dict.keys") hbase rfl hline F.plainAttrs_dict F.slot_dict_keys F.type_dict_keys (thn (he.run pins s σ H _ I h) fun u s1 ⟨x, H1, I1, rx, d, es, ep, bs, ks, as, ex, hd, lo, dk, q⟩ => ?_)
  subst ex
  have hu : u = .ref d := rx
  subst hu
  obtain ⟨raw, _, _⟩ := I1.hok d _ hd
  refine ⟨raw.typeIs, fun a e => by cases e; obtain ⟨o, ho, hc, _⟩ := raw; exact ⟨o, ho, hc.2.1⟩, ?_⟩
  have fin : EP X pins σ Q (.ref s1.heap.objs.size) { s1 with heap := s1.heap.push { cls := .type "dict_keys", data := .fields #[.ref d] } } :=
    ⟨.ref s1.heap.objs.size, _, I1.laid (t' := s1.toks) (fun b o e => Heap.get?_push_of_some _ e) (Nat.le_refl _) (show ObjOk X.prog X.w _ _ _ (.ext fun h => PySem.W.KdlKeysView h s1.heap.objs.size d) from ⟨⟨_, Heap.get?_push_size _ rfl, rfl, rfl⟩, ⟨_, Heap.get?_push_size _ rfl⟩, fun h1 h2 ⟨o, ho, r⟩ e => ⟨o, e _ ho, r⟩⟩), rfl, q _ (I1.hok.fresh (Nat.le_refl _))⟩
  show wpAny _ _ (callWith cpos (.builtin "dict.keys") [.ref d] [] []) _ X.xe s1
  exact method_meetsIn F.slot_dict_keys F.entry_dict_keys rfl (PySem.evalArgs_none ⟨rfl, raw.typeIs, F.args_dict_keys_1 _, _, meets_dict_keys_raw d lo, ⟨⟨es, ep, raw⟩, fin⟩⟩)
theorem call_list_keys {X : Cx} (hc : X.calm = true) : CallR X (.type "list") (fun xs H Q => ∃ p d es ep bs ks as, xs = [.ref p] ∧ H p = some (.ext fun h => PySem.W.KdlKeysView h p d) ∧ H d = some (.ext fun h => h.DictRaw d es ep) ∧ DctOk es bs ks as ∧ ∀ l, H l = none → Q (.ref l) (upd H l (.lst bs))) := by
  intro pins s σ H xs us Q I r h
  obtain ⟨p, d, es, ep, bs, ks, as, rfl, hp, hd, dk, q⟩ := h
  obtain ⟨u, rfl, rx⟩ := vals1 r
  cases rx
  obtain ⟨kv, _, _⟩ := I.hok p _ hp
  obtain ⟨raw, _, _⟩ := I.hok d _ hd
  have hlen : es.size = ks.length := by
    rw [← Array.length_toList, dk.es X.w, List.length_map, List.length_zip, dk.len]; omega
  refine PySem.W.kdl_call kdl_keys_raw (I.ok.hd hc) ⟨kv, raw⟩ (by rw [hlen]; exact dk.lim) fun h' tk acc' c' kp e it => ?_
  have hvr : ∀ as : List Addr, Vals (as.map V.ref) (as.map Value.ref) := fun as => by
    induction as with
    | nil => exact .nil
    | cons a as ih => exact .cons rfl ih
  have hacc : acc'.toList = as.map Value.ref := by
    refine List.ext_getElem? fun j => ?_
    have hs := it.1
    by_cases hj : j < es.size
    · obtain ⟨e1, q1, q2⟩ := it.2 j _ (Array.getElem?_eq_getElem (by omega : j < acc'.size))
      rw [← Array.getElem?_toList, dk.es X.w, List.getElem?_map] at q1
      obtain ⟨pr, hpr, rfl⟩ := Option.map_eq_some_iff.mp q1
      obtain ⟨k1, a1⟩ := pr
      rw [List.getElem?_zip_eq_some] at hpr
      rw [Array.getElem?_toList, Array.getElem?_eq_getElem (by omega : j < acc'.size), List.getElem?_map, hpr.2, ← q2]; rfl
    · rw [List.getElem?_eq_none (by rw [Array.length_toList]; omega), List.getElem?_eq_none (by rw [List.length_map, dk.len]; omega)]
  have hv : Vals bs acc'.toList := by rw [hacc, dk.bs]; exact hvr as
  refine ⟨.ref s.heap.objs.size, _, I.laid (t' := tk) kp (Nat.le_refl _) (show ObjOk X.prog X.w _ h' _ (.lst bs) from ⟨by rw [dk.bs, List.length_map, dk.len]; exact dk.lim, acc'.toList, c', hv, by rw [Array.toArray_toList]; exact e⟩), rfl, q _ (I.hok.fresh (Nat.le_refl _))⟩
/-- list(d.keys()) -/
theorem en_keys {X : Cx} {B : Gd} {ρ : List (Option D)} {O : Om} {α : Type} {E : α → D} {f : α → NestedKey} {xs : List α} {e : Expr} {p apos cpos pos : Pos} (hk : KeyOk E f) (hc : X.calm = true) (hg : Gl X "list") (hm : X.mg "list" = none) (hv : bootBuiltins "list" = some (.type "list")) (he : EV X B ρ O e (.dct (xs.map f)))
    (hbase : attributeBase e "keys" X.env (eval e X.env) = eval e X.env := by rfl) (hline : (apos.endLine == cpos.line) = true := by rfl) (hse : starEach [.Call (.Attribute e "keys" apos) [] [] cpos] X.env = (false, eval (.Call (.Attribute e "keys" apos) [] [] cpos) X.env) :: starEach [] X.env := by rfl) (hpl : (backTo pos (starEach [] X.env)).any (·.1) = false := by rfl) :
    EN X B ρ O (.Call (.Name "list" p) [.Call (.Attribute e "keys" apos) [] [] cpos] [] pos) (xs.map E) :=
  pe_imp (pe_callTy (call_list_keys hc) hg hm hv (pa_cons (pe_keysM he hbase hline) pa_nil hse) (by decide) (by decide) hse hpl) fun σ H Q ⟨st, k⟩ => by
    refine ⟨st, fun v H1 e1 r1 => ?_⟩
    cases r1 with
    | @dct a es ep bs _ as ha lo dk rl =>
      refine ⟨a, es, ep, bs, _, as, rfl, vis_le _ _ ha, lo, dk, fun p hp => ?_⟩
      have hp' : H p = none := e1.free hp
      have ne : a ≠ p := fun z => by subst z; rw [vis_le _ _ ha] at hp; cases hp
      refine ⟨p, a, es, ep, bs, _, as, rfl, upd_same, by rw [upd_ne ne]; exact vis_le _ _ ha, dk, fun l hl => ?_⟩
      have sm : Same H1 (upd H1 p (.ext fun h => PySem.W.KdlKeysView h p a)) := same_new hp
      have s2 : Same H (upd H1 p (.ext fun h => PySem.W.KdlKeysView h p a)) := e1.trans sm
      have hd : (xs.map f).map dOf = xs.map E := by rw [List.map_map]; exact List.map_congr_left fun x _ => hk.eq x
      have rl2 : RpL X.K (vis B.F O H1) bs (xs.map E) := by rw [← hd, ← dOfs_eq]; exact rl
      exact new_same (st.m.same s2) (rl2.mono (vis_same sm)) (fun p2 H' vs hp2 e2 hv2 r2 => k p2 H' vs (s2.free hp2) (s2.trans e2) hv2 r2) l hl
end DL

set_option Elab.async false
set_option linter.all false
set_option maxRecDepth 100000
set_option maxHeartbeats 4000000
namespace DL
open PySem PySem.Spec PyProof.Rows L2
/-! ### keys of the program's dicts -/
def kRow (r : Row) : NestedKey := .tup [.num r.1, .num r.2.1, .num r.2.2]
def kRR (p : Row × Row) : NestedKey := .tup [kRow p.1, kRow p.2]
def kUI (xs : List Int) : NestedKey := .tup (xs.map .num)
theorem key_row : KeyOk dRow kRow where
  eq := fun _ => rfl
  inj := fun a b h => by
    obtain ⟨a1, a2, a3⟩ := a
    obtain ⟨b1, b2, b3⟩ := b
    unfold kRow at h
    injection h with h
    injection h with h1 h
    injection h with h2 h
    injection h with h3 h
    injection h1 with h1
    injection h2 with h2
    injection h3 with h3
    simp only at h1 h2 h3
    rw [h1, h2, h3]
  num := fun _ => rfl
  dep := fun _ => (by decide : 1 ≤ 8)
  tup := fun _ => ⟨_, rfl⟩
theorem key_rr : KeyOk (dP2 dRow dRow) kRR where
  eq := fun _ => rfl
  inj := fun a b h => by
    obtain ⟨a1, a2⟩ := a
    obtain ⟨b1, b2⟩ := b
    unfold kRR at h
    injection h with h
    injection h with h1 h
    injection h with h2 h
    have q1 : a1 = b1 := key_row.inj _ _ h1
    have q2 : a2 = b2 := key_row.inj _ _ h2
    rw [q1, q2]
  num := fun _ => rfl
  dep := fun _ => (by decide : 2 ≤ 8)
  tup := fun _ => ⟨_, rfl⟩
theorem numKs_map (xs : List Int) : numKs (xs.map .num) = true := by
  induction xs with
  | nil => rfl
  | cons x xs ih => rw [List.map_cons, numKs, ih]; rfl
theorem depthAll_map (xs : List Int) : NestedKey.depthAll (xs.map .num) = 0 := by
  induction xs with
  | nil => rfl
  | cons x xs ih => rw [List.map_cons, NestedKey.depthAll, ih]; rfl
theorem key_ui : KeyOk (dU D.int) kUI where
  eq := fun xs => by
    show D.tup (dOfs _) = D.tup _
    rw [dOfs_eq, List.map_map]; rfl
  inj := fun a b h => by
    unfold kUI at h
    injection h with h
    have : ∀ a b : List Int, a.map NestedKey.num = b.map NestedKey.num → a = b := fun a => by
      induction a with
      | nil => intro b h; cases b with
        | nil => rfl
        | cons _ _ => cases h
      | cons x a ih => intro b h; cases b with
        | nil => cases h
        | cons y b =>
          rw [List.map_cons, List.map_cons] at h
          injection h with h1 h2
          injection h1 with h1
          rw [h1, ih b h2]
    exact this a b h
  num := numKs_map
  dep := fun xs => by show NestedKey.depthAll (xs.map .num) + 1 ≤ 8; rw [depthAll_map]; decide
  tup := fun _ => ⟨_, rfl⟩
abbrev dK {α : Type} (f : α → NestedKey) (xs : List α) : D := .dct (xs.map f)
section
variable {X : Cx} {B : Gd} {ρ ρ' : List (Option D)} {O : Om} {A : AE} {e : Expr} {es : List Expr} {pos : Pos}
/-! ### a list's items unpacked -/
def bLst (g : List D → List (Option D) → Option (List (Option D))) : D → List (Option D) → Option (List (Option D)) := fun d ρ => match d with | .lst ds => g ds ρ | _ => none
theorem eb_lst {k : Nat} {t : TGs} {f} {n : Nat} {sl : List Nat} (hc : X.calm = true) (h : EBs X es t sl f) (hl : ∀ ds ρ ρ', f ds ρ = some ρ' → ds.length = n) (hn : (assignEach es X.env).length = n := by rfl) (hst : (assignEach es X.env).findIdx? (·.1) = none := by rfl) :
    EB X (.Tuple es k pos) (gUnl X.K n t) sl (bLst f) :=
  ⟨pg_unl hc h.pg hn hst, fun B O d ρ ρ' v σ H Q e s r k => by
    cases d with
    | lst ds =>
      cases r with
      | lst hq r => exact ⟨_, _, rfl, .inl (.inl (vis_le _ _ hq)), by rw [r.length]; exact hl _ _ _ e, h.is B O ds ρ ρ' _ σ H Q e s r k⟩
    | _ => cases e⟩
abbrev dL3 {α : Type} (F : α → D) (p : α × α × α) : D := .lst [F p.1, F p.2.1, F p.2.2]
theorem lst3 {α : Type} [Inhabited α] {xs : List α} (h : xs.length = 3) : xs = [ixL xs 0, ixL xs 1, ixL xs 2] := by
  match xs, h with
  | [a, b, c], _ => rfl
theorem ev_lst3 {α : Type} [Inhabited α] {F : α → D} {xs : List α} (he : EV X B ρ O e (dL F xs)) (h : xs.length = 3) : EV X B ρ O e (dL3 F (ixL xs 0, ixL xs 1, ixL xs 2)) := ev_conv he (by
  have := congrArg (fun l => D.lst (l.map F)) (lst3 h)
  exact this)
/-- list(range(n)) -/
theorem en_range1 {n : Int} {na : Expr} {p p1 pos2 : Pos} (hc : X.calm = true) (hg : Gl X "list") (hm : X.mg "list" = none) (hgr : Gl X "range") (hmr : X.mg "range" = none) (ha : EV X B ρ O na (.int n)) (hn : 0 ≤ n ∧ n ≤ 1000000)
    (h1 : starEach [na] X.env = (false, eval na X.env) :: starEach [] X.env := by rfl) (h2 : starEach [.Call (.Name "range" p1) [na] [] pos2] X.env = (false, eval (.Call (.Name "range" p1) [na] [] pos2) X.env) :: starEach [] X.env := by rfl) :
    EN X B ρ O (.Call (.Name "list" p) [.Call (.Name "range" p1) [na] [] pos2] [] pos) ((rangeL 0 n).map D.int) :=
  pe_imp (pe_listRg hc hg hm (prg_1 hgr hmr ha h1) h2) fun σ H Q ⟨st, k⟩ => ⟨st, fun v H1 e1 r1 => by
    cases r1
    refine ⟨n, rfl, ⟨by omega, by omega, by omega, by omega, by omega⟩, ?_⟩
    refine new_same (st.m.same e1) ?_ (fun p2 H' vs hp2 e2 hv2 r2 => k p2 H' vs (e1.free hp2) (e1.trans e2) hv2 r2)
    have e : rgV 0 n = (rangeL 0 n).map V.int := by unfold rgV rangeL; rw [List.map_map]; rfl
    rw [e]
    exact RpL.ofInts _⟩
variable {scope : Scope} {kx vx iter tg it2 tg2 : Expr} {ifs ifs2 : List Expr}
theorem ev_dc1T {α : Type} {xs : List α} {h : α → D} {pr : α → Bool} {δ : Type} [DecidableEq δ] {F : δ → D} {kf : δ → NestedKey} {el : α → δ} (own : List (Str × Nat)) {wi : TI} {G : Om → Prop} {g : TG} {sl : List Nat} {f}
    (hu : X.A.units + 65 < cLine) (hc : X.calm = true) (hN : X.N.Nodup) (hi : EI X B ρ O tg iter wi G (xs.map h)) (hG : G O) (ok : BlkOk X.N X.env.scope scope own)
    (hg : ∀ X', Blk X scope X' → EB X' tg g sl f) (hsl : ∀ j ∈ sl, j ∈ own.map (·.2))
    (hk : KeyOk F kf)
    (hb : ∀ x ∈ xs, ∃ ρ', f (h x) (wipeD ρ (own.map (·.2))) = some ρ' ∧ (∀ X' B', B'.L = B.L → Blk X scope X' → ETs X' B' ρ' O ifs (pr x)) ∧ (pr x = true → (∀ X' B', B'.L = B.L → Blk X scope X' → EV X' B' ρ' O kx (F (el x))) ∧ ∀ X' B', B'.L = B.L → Blk X scope X' → EV X' B' ρ' O vx (.bl true)))
    (hz : (xs.filter pr).length ≤ sizeLine) (hs : ∀ x, foldedSetIterable iter X.env x = pure x := by intro _; rfl) :
    EV X B ρ O (.DictComp kx vx [⟨tg, iter, ifs, 0⟩] scope pos) (dK kf (onceL ((xs.filter pr).map el))) :=
  ev_conv (ev_dc1 (ke := fun x => F (el x)) (kk := fun x => kf (el x)) own hu hc hN hi hG ok hg hsl (fun x => ⟨hk.eq _, hk.num _, hk.dep _, hk.tup _⟩) hb hz hs) (congrArg D.dct (by rw [← once_map hk, List.map_map]; rfl))
theorem ev_dc2T {α β : Type} {xs : List α} {h : α → D} {pr : α → Bool} {ys : α → List β} {h2 : α → β → D} {pr2 : α → β → Bool} {δ : Type} [DecidableEq δ] {F : δ → D} {kf : δ → NestedKey} {el : α → β → δ} (own own2 : List (Str × Nat)) {wi : TI} {G : Om → Prop} {g g2 : TG} {sl sl2 : List Nat} {f f2}
    (hu : X.A.units + 65 < cLine) (hc : X.calm = true) (hN : X.N.Nodup) (hi : EI X B ρ O tg iter wi G (xs.map h)) (hG : G O) (ok : BlkOk X.N X.env.scope scope own)
    (hg : ∀ X', Blk X scope X' → EB X' tg g sl f) (hsl : ∀ j ∈ sl, j ∈ own.map (·.2)) (hg2 : ∀ X', Blk X scope X' → EB X' tg2 g2 sl2 f2) (hsl2 : ∀ j ∈ sl2, j ∈ own2.map (·.2)) (hv : ∀ i ∈ own2.map (·.2), i ∈ own.map (·.2))
    (hk : KeyOk F kf)
    (hb : ∀ x ∈ xs, ∃ ρ', f (h x) (wipeD ρ (own.map (·.2))) = some ρ' ∧ (∀ X' B', B'.L = B.L → Blk X scope X' → ETs X' B' ρ' O ifs (pr x)) ∧ (pr x = true → (∀ X' B', B'.L = B.L → Blk X scope X' → ∃ wi G, EI X' B' ρ' O tg2 it2 wi G ((ys x).map (h2 x)) ∧ G O) ∧
      ∀ y ∈ ys x, ∃ ρ2, f2 (h2 x y) (wipeD ρ' (own2.map (·.2))) = some ρ2 ∧ (∀ X' B', B'.L = B.L → Blk X scope X' → ETs X' B' ρ2 O ifs2 (pr2 x y)) ∧ (pr2 x y = true → (∀ X' B', B'.L = B.L → Blk X scope X' → EV X' B' ρ2 O kx (F (el x y))) ∧ ∀ X' B', B'.L = B.L → Blk X scope X' → EV X' B' ρ2 O vx (.bl true))))
    (hz : ((xs.filter pr).flatMap fun x => ((ys x).filter (pr2 x)).map (el x)).length ≤ sizeLine) (hs : ∀ x, foldedSetIterable iter X.env x = pure x := by intro _; rfl) (hs2 : ∀ env x, foldedSetIterable it2 env x = pure x := by intro _ _; rfl) :
    EV X B ρ O (.DictComp kx vx [⟨tg, iter, ifs, 0⟩, ⟨tg2, it2, ifs2, 0⟩] scope pos) (dK kf (onceL ((xs.filter pr).flatMap fun x => ((ys x).filter (pr2 x)).map (el x)))) :=
  ev_conv (ev_dc2 (ke := fun x y => F (el x y)) (kk := fun x y => kf (el x y)) own own2 hu hc hN hi hG ok hg hsl hg2 hsl2 hv (fun x y => ⟨hk.eq _, hk.num _, hk.dep _, hk.tup _⟩) hb (by have q := hz; rw [← List.length_map (f := kf)] at q; simp only [List.map_flatMap, List.map_map, Function.comp_def] at q; exact q) hs hs2) (congrArg D.dct (by rw [← once_map hk]; simp only [List.map_flatMap, List.map_map, Function.comp_def]))
/-- several tests of a clause -/
theorem ets_cons {c c2 : Expr} {cs : List Expr} {b1 b2 : Bool} (h : ET X B ρ O c b1) (h2 : b1 = true → ETs X B ρ O (c2 :: cs) b2) : ETs X B ρ O (c :: c2 :: cs) (b1 && b2) := ⟨fun pins s σ H Q I ⟨st, k⟩ => by
  rw [List.forIn_cons]
  simp only [if_true]
  refine wpAny_bind (wpAny_bind (thn (h.run pins s σ H (fun b H' => b = b1 ∧ Same H H') I ⟨st, fun H' e => ⟨rfl, e⟩⟩) fun b s1 ⟨H1, I1, hb, e1⟩ => ?_))
  subst hb
  refine wpAny_pure ?_
  cases b with
  | true => exact (h2 rfl).run pins s1 σ H1 Q I1 ⟨st.same e1, fun H' e => k H' (e1.trans e)⟩
  | false =>
    have skip : ∀ (l : List Expr) (s : Shared), Inv X pins σ H1 s → wpAny (model X.prog X.w) X.A (forIn l false fun c r => if r = true then do let ok ← isTrue c X.env (eval c X.env); pure (ForInStep.yield ok) else pure (ForInStep.yield r)) (TP X pins σ Q) X.xe s := by
      intro l
      induction l with
      | nil => intro s I; exact wpAny_pure ⟨H1, I, k H1 e1⟩
      | cons c l ih =>
        intro s I
        rw [List.forIn_cons]
        simp only [Bool.false_eq_true, if_false]
        exact wpAny_bind (wpAny_pure (ih s I))
    exact skip _ s1 I1⟩
end
end DL

set_option Elab.async false
set_option linter.all false
set_option maxRecDepth 100000
set_option maxHeartbeats 4000000
namespace DL
open PySem PySem.Spec PyProof.Rows L2 TL
/-! ### comparisons by an own method -/
section
variable {X : Cx} {B : Gd} {ρ : List (Option D)} {O : Om} {d : D} {C f : Addr} {ds ds' : List D} {k : Nat} {a b : Expr} {pos : Pos}
def rOwnC (X : Cx) (C : Addr) (sp : Sp) (E : XK) : R2 := fun x y H Q => ∃ p q, x = .ref p ∧ y = .ref q ∧ StX.InsC X H p C ∧ StX.InsC X H q C ∧ sp [.ref p, .ref q] H Q E
theorem op_cmpO {op : CmpOp} {CX : CXT} {sp : Sp} {E : XK} (hop : ∀ a b, compareOp op a b = richCompare op a b) (hs : PySem.W.findIn X.K (.ref C) (cmpInfo op).2.1 = some (some (.ref f))) (hf : PySem.W.isFn X.K (.ref f) = true) (F : FnR X.prog X.w X.K X.mg X.base CX k f sp) (hr : Room k X.A) (hx : Passes CX X E) : OpR X (compareOp op) (rOwnC X C sp E) := by
  intro pins s σ H x y v u Q I rx ry h
  obtain ⟨p, q, rfl, rfl, h1, h2, h3⟩ := h
  cases rx
  cases ry
  obtain ⟨ox, od, J, _⟩ := StX.insC_at I h1
  obtain ⟨ox2, od2, J2, _⟩ := StX.insC_at I h2
  obtain ⟨m, hF⟩ := I.fr
  rw [hop]
  refine PySem.W.cmp_K (op := op) (tb := .ref C) hr.units0 hF I.ok.mod.kin J J2.type (by unfold PySem.W.notFirst; rw [show ((Value.ref C) == Value.ref C) = true from beq_self_eq_true _]; rfl) hs hf ?_
  refine wpAny_mono (wpAny_call (run_fnR (us := [.ref p, .ref q]) (vs := [.ref p, .ref q]) F hr hx I (.cons rfl (.cons rfl .nil)) h3)) (fun w s' z => ?_) fun _ _ x => x
  obtain ⟨z', H', I', rz, qz⟩ := z
  exact SlX.cmpback rz ⟨z', H', I', rz, qz⟩
theorem ev_cmpO {op : CmpOp} {Ar : Om → List D → D → Prop} {ns ns' : List Str} (hop : ∀ a b, compareOp op a b = richCompare op a b) (ha : EV X B ρ O a (.obj C ns ds)) (hb : EV X B ρ O b (.obj C ns' ds')) (hs : PySem.W.findIn X.K (.ref C) (cmpInfo op).2.1 = some (some (.ref f))) (hf : PySem.W.isFn X.K (.ref f) = true)
    (F : Fok X.prog X.w X.K X.mg X.base CX0 k f (spP X.K Ar)) (hr : Room k X.A) (h : Ar (B.L ++ O) [.obj C ns ds, .obj C ns' ds'] d) (hm : behindInMarks op b = false) : EV X B ρ O (.Compare a [op] [b] pos) d :=
  pe_imp (pe_cmpR (op_cmpO (E := E0) hop hs hf F.raw hr pass0) ha hb hm) fun σ H Q ⟨st, k⟩ => ⟨st, fun v H1 e1 r1 => ⟨st.same e1, fun u H2 e2 r2 => by
    have r1' := r1.mono (vis_same e2)
    cases r1' with
    | obj h1 h2 h3 =>
      cases r2 with
      | obj g1 g2 g3 =>
        exact ⟨_, _, rfl, rfl, .inr ⟨_, _, vis_le _ _ h1⟩, .inr ⟨_, _, vis_le _ _ g1⟩, spP_use ((st.same e1).same e2).m (.cons (Rp.obj h1 h2 h3) (.cons (Rp.obj g1 g2 g3) .nil)) h fun w H3 e3 r3 => k w H3 ((e1.trans e2).trans e3) r3⟩⟩⟩
theorem ev_globI {x : Str} {n : Int} (hg : Gl X x) (hm : ∃ tk, X.mg x = some (.int n tk)) (hd : (x == ("__debug__" : Str)) = false := by decide) : EV X B ρ O (.Name x pos) (.int n) := by
  obtain ⟨_, hm⟩ := hm
  exact ev_glob (v := .int n) hg hm ⟨_, rfl⟩ (fun _ => .int _) hd
theorem et_lstT {α : Type} {E : α → D} {xs : List α} {e : Expr} (h : EV X B ρ O e d) (w : Vw (B.L ++ O) d (xs.map E)) (he : ∀ whole, isTrue e X.env whole = (do let v ← whole; standAt e.pos; holding [v] (truthy v)) := by intro _; rfl) : ET X B ρ O e (!xs.isEmpty) :=
  et_conv (et_lst h w he) (by rw [List.isEmpty_map])
theorem rd_isB {K : PySem.W.Frag} {a b : Bool} : RD K B O rIsB (.bl a) (.bl b) (.bl (decide (a = b))) := fun x y H Q m r1 r2 k => by
  cases r1; cases r2; exact ⟨a, b, rfl, rfl, k _ H (Same.refl H) (.bl _)⟩
theorem rd_isnotB {K : PySem.W.Frag} {a b : Bool} : RD K B O rNotB (.bl a) (.bl b) (.bl (!decide (a = b))) := fun x y H Q m r1 r2 k => by
  cases r1; cases r2; exact ⟨a, b, rfl, rfl, k _ H (Same.refl H) (.bl _)⟩
end
end DL

set_option Elab.async false
set_option linter.all false
set_option maxRecDepth 100000
set_option maxHeartbeats 4000000
namespace DL
open PySem PySem.Spec PyProof.Rows L2
/-! ### dicts that grow -/
/-- d[k] = True -/
theorem d_setKi {X : Cx} {pins : List (Addr × Obj)} {σ : L2.St} {H : Hp} {s : Shared} {E : Value → Shared → Prop} {D : Addr} {y : V} {u : Value} {k : NestedKey} {ks : List NestedKey} {Q : Unit → Shared → Prop} (hu : X.A.units + 65 < cLine) (I : Inv X pins σ H s)
    {es : Array DictEntry} {ep : Nat} {bs : List V} {as : List Addr} (hD : H D = some (.ext fun h => h.DictRaw D es ep)) (dk : DctOk es bs ks as) (rl : RpL X.K H bs (dOfs ks)) (hn : numK k = true) (hd : k.depth ≤ 8) (ht : ∃ l, k = .tup l) (rk : Rp X.K H y (dOf k)) (rv : RelV y u) (hz : ks.length < sizeLine)
    (q : ∀ s' es' ep' bs' as', Inv X pins σ (upd H D (.ext fun h => h.DictRaw D es' ep')) s' → DctOk es' bs' (stepK ks k) as' → (∀ Hv, RpL X.K Hv bs (dOfs ks) → Rp X.K Hv y (dOf k) → RpL X.K Hv bs' (dOfs (stepK ks k))) → Q () s') :
    wpAny (model X.prog X.w) X.A (setItem (.ref D) u (.bool true)) Q E s := by
  obtain ⟨l, hl⟩ := ht
  have hy : ∃ b, y = .ref b := by
    subst hl
    cases rk with
    | tup _ _ => exact ⟨_, rfl⟩
  obtain ⟨b, rfl⟩ := hy
  have hu' : u = .ref b := rv
  subst hu'
  have dm := dct_of I hD dk rl
  have hlen : (entsK ks as).length = ks.length := by rw [← List.length_map (f := (·.1)), ents_keys dk.len]
  have hi : (nestedKind X.prog X.w).is s.heap k b := ⟨rp_key I k _ _ hn rk rfl, hd⟩
  refine wpAny_setItem_heap (hsz := by rw [hlen]; omega) (knd := nestedKind X.prog X.w) (show X.A.in1.units + 8 < cLine by show X.A.units + 1 + 8 < cLine; omega) hi dm fun h' hm' hs => ?_
  have old : ∀ xs : List (NestedKey × Addr × Value), (∀ x ∈ xs, x.2.2 = .bool true) → xs.map (putAt k (.bool true)) = xs := fun xs hx => by
    refine (List.map_congr_left fun x hm => ?_).trans (List.map_id xs)
    unfold putAt
    split
    · have := hx x hm
      obtain ⟨a, c, v⟩ := x
      simp only at this
      subst this; rfl
    · rfl
  have est : storedH (entsK ks as) k b (.bool true) = if k ∈ ks then entsK ks as else entsK (ks ++ [k]) (as ++ [b]) := by
    unfold storedH
    rw [atKey_ents dk.len]
    by_cases hm : k ∈ ks
    · rw [decide_eq_true hm, if_pos rfl, if_pos hm]
      exact old _ fun x hx => by obtain ⟨p, _, rfl⟩ := List.mem_map.mp hx; rfl
    · rw [decide_eq_false hm, if_neg (by decide), if_neg hm]
      rw [entsK, entsK, List.zip_append dk.len.symm]
      simp
  obtain ⟨o, es', ep', ho, hc, hdat, he, _, hnd⟩ := hm'
  have raw : h'.DictRaw D es' ep' := ⟨o, ho, hc, hdat⟩
  have I' : Inv X pins σ (upd H D (.ext fun h => h.DictRaw D es' ep')) { s with heap := h', toks := s.toks + (nestedKind X.prog X.w).draws k } :=
    d_write I (by rw [hD]; exact True.intro) hs ⟨o, ho⟩ (dict_ext_ok raw)
  rw [est] at he
  by_cases hm : k ∈ ks
  · rw [if_pos hm] at he
    refine q _ es' ep' bs as I' ?_ fun Hv r _ => ?_
    · unfold stepK; rw [if_pos hm]
      refine ⟨dk.nd, dk.num, dk.bs, dk.len, fun w => ?_, dk.lim⟩
      rw [he, List.map_map]
      refine List.map_congr_left fun p hp => ?_
      have hmem := (List.of_mem_zip hp).1
      show (⟨p.1.hash X.w, _, _⟩ : DictEntry) = _
      rw [hash_num X.w w p.1 (dk.num _ hmem).1]
    · unfold stepK; rw [if_pos hm]; exact r
  · rw [if_neg hm] at he
    refine q _ es' ep' (bs ++ [.ref b]) (as ++ [b]) I' ?_ fun Hv r r1 => ?_
    · unfold stepK; rw [if_neg hm]
      refine ⟨?_, fun k' hk' => ?_, by rw [dk.bs]; simp, by simp [dk.len], fun w => ?_, by simp; omega⟩
      · rw [List.nodup_append]
        exact ⟨dk.nd, by simp, fun a ha b' hb' e => hm (by rw [List.mem_singleton] at hb'; rw [← hb', ← e]; exact ha)⟩
      · rcases List.mem_append.mp hk' with hk' | hk'
        · exact dk.num _ hk'
        · rw [List.mem_singleton.mp hk']; exact ⟨hn, hd⟩
      · rw [he, List.map_map]
        refine List.map_congr_left fun p hp => ?_
        have hmem := (List.of_mem_zip hp).1
        have hnum : numK p.1 = true := by
          rcases List.mem_append.mp hmem with h | h
          · exact (dk.num _ h).1
          · rw [List.mem_singleton.mp h]; exact hn
        show (⟨p.1.hash X.w, _, _⟩ : DictEntry) = _
        rw [hash_num X.w w p.1 hnum]
    · unfold stepK
      rw [if_neg hm]
      rw [dOfs_eq] at r ⊢
      rw [List.map_append]
      exact r.append (.cons r1 .nil)

def rSetK (K : PySem.W.Frag) : TSet := fun o i v H Q => ∃ D es ep bs as ks k, o = .ref D ∧ H D = some (.ext fun h => h.DictRaw D es ep) ∧ DctOk es bs ks as ∧ RpL K H bs (dOfs ks) ∧ numK k = true ∧ k.depth ≤ 8 ∧ (∃ l, k = .tup l) ∧ Rp K H i (dOf k) ∧ v = .bl true ∧ ks.length < sizeLine ∧
  ∀ es' ep' bs' as', DctOk es' bs' (stepK ks k) as' → (∀ Hv, RpL K Hv bs (dOfs ks) → Rp K Hv i (dOf k) → RpL K Hv bs' (dOfs (stepK ks k))) → Q (upd H D (.ext fun h => h.DictRaw D es' ep'))
theorem set_dct {X : Cx} (hu : X.A.units + 65 < cLine) : PSet X (rSetK X.K) := by
  intro pins s σ H o i v ov iv u Q I ro ri rv ⟨D, es, ep, bs, as, ks, k, ho, hD, dk, rl, hn, hd, ht, rk, hv, hz, q⟩
  subst ho hv
  have e1 : ov = .ref D := ro
  have e2 : u = .bool true := rv
  subst e1 e2
  exact d_setKi hu I hD dk rl hn hd ht rk ri hz fun s' es' ep' bs' as' I' dk' tr => ⟨_, I', q es' ep' bs' as' dk' tr⟩
section
variable {X : Cx} {B : Gd} {A : AE} {ρ ρ' : List (Option D)} {O O' : Om} {rest ss : List Stmt} {o c e : Expr} {x : Str} {pos pos' pos2 : Pos}
/-- d[k] = True -/
theorem j_setKey {p : Addr} {k : NestedKey} {ks : List NestedKey} (hu : X.A.units + 65 < cLine) (ho : EV X B ρ O o (.rf p)) (hi : EV X B ρ O c (dOf k)) (he : EV X B ρ O e (.bl true)) (hm : Put O p (.dct ks) (.dct (stepK ks k)) O') (hn : numK k = true) (hd : k.depth ≤ 8) (ht : ∃ l, k = .tup l) (hz : ks.length < sizeLine) (h : A.nx ρ O')
    (ha : ∀ v, assign (.Subscript o c pos') X.env v = (do
      let ov ← holding [v] (eval o X.env)
      let iv ← holding [v, ov] (eval c X.env)
      standAt pos'
      holding [v, ov, iv] (setItem ov iv v)
      release [v, ov, iv] []) := by intro _; rfl)
    (hs : swapsWithSole [.Subscript o c pos'] e pos.line X.env = pure false := by rfl) (hw : swappedStores [.Subscript o c pos'] e X.env = pure none := by rfl)
    (h1 : (assignEach [.Subscript o c pos'] X.env).map (·.2) = [assign (.Subscript o c pos') X.env] := by rfl) : J1 X B (.Assign [.Subscript o c pos'] e pos) ρ O A :=
  ps_imp (ps_asg he (pg_sub ho hi (set_dct hu) ha) hs hw h1) fun Dn σ H ⟨st, pp⟩ => ⟨st, fun v H1 e1 r1 => ⟨st.same e1, fun u H2 e2 r2 => ⟨(st.same e1).same e2, fun w H3 e3 r3 => by
    cases r2
    cases r1
    have s3 := ((st.same e1).same e2).same e3
    obtain ⟨es, ep, bs, as, h2, lo, dk, r4⟩ := s3.m.mem _ _ hm.mem
    refine ⟨p, es, ep, bs, as, ks, k, rfl, h2, dk, r4.mono vis_le, hn, hd, ht, r3.mono vis_le, rfl, hz, fun es' ep' bs' as' dk' tr => ?_⟩
    obtain ⟨s4, ev⟩ := s3.putP (o := .ext fun h => h.DictRaw p es' ep') hm ⟨es', ep', bs', as', upd_same, lo, dk', tr _ r4 r3⟩
    refine pp.nx ρ _ σ _ h s4 ?_
    rw [ev]
    exact vis_same ((e1.trans e2).trans e3)⟩⟩⟩
/-- {}, to grow -/
def tN0 (K : PySem.W.Frag) (B : Gd) (ρ : List (Option D)) (O : Om) : TE := fun σ H Q => StOk K B ρ O σ H ∧ ∀ p H' es ep, H p = none → Same H H' → (p == sysModules) = false → es = #[] → H' p = some (.ext fun h => h.DictRaw p es ep) → Q (.ref p) H'
theorem e_dict0 : PE X (.Dict [] [] pos) (tN0 X.K B ρ O) := ⟨fun pins s σ H Q I ⟨st, h⟩ =>
  wpAny_Dict_empty ⟨.ref s.heap.objs.size, _, I.laid (a := s.heap.objs.size) (o := .ext fun h => h.DictRaw s.heap.objs.size #[] 0) (t' := s.toks) (fun _ _ q => Heap.get?_push_of_some _ q) (Nat.le_refl _) (dict_ext_ok ⟨_, Heap.get?_push_size _ rfl, ⟨rfl, rfl, rfl⟩, rfl⟩), rfl,
    h _ _ _ _ (I.hok.fresh (Nat.le_refl _)) (same_new (I.hok.fresh (Nat.le_refl _))) (beq_eq_false_iff_ne.mpr (Ne.symm (Nat.ne_of_lt I.big))) rfl upd_same⟩⟩
theorem j_setD0 {i : Nat} (hN : X.N.Nodup) (hi : X.N[i]? = some x) (hx : Loc X.env.scope x) (hs : swapsWith (.Dict [] [] pos2) (some (.Name x pos')) pos.line X.env = pure false) (hf : X.fn x = true ∨ X.env.scope.names.lookup x = some .local)
    (h : ∀ p, has O p = false → A.nx (ρ.set i (some (.rf p))) ((p, .dct []) :: O)) : J1 X B (.Assign [.Name x pos'] (.Dict [] [] pos2) pos) ρ O A :=
  ps_imp (ps_set hN hi hx (e_dict0 (B := B) (ρ := ρ) (O := O)) hs hf) fun Dn σ H ⟨st, p⟩ => ⟨st, fun q H1 es ep hp e1 lo hes hv => by
    subst hes
    have op := st.m.newO hp
    have vs1 : Same (vis B.F O H) (vis B.F ((q, .dct []) :: O) H1) := fun a o h => by
      obtain ⟨h1, h2, h3⟩ := vis_some.mp h
      have ne : a ≠ q := ne_of_none h3 hp
      exact vis_some.mpr ⟨h1, by rw [has_cons, h2, Bool.or_false]; exact beq_eq_false_iff_ne.mpr (Ne.symm ne), e1 _ _ h3⟩
    refine p.nx _ _ _ H1 (h q op) ⟨⟨fun a o hb => ?_, fun a m hm => ?_, ?_, fun a m hm => (st.m.lent a m hm).mono vs1 fun o q => e1 _ _ q⟩, ?_⟩ vs1
    · have := st.m.base a o hb
      have ne : a ≠ q := ne_of_none this.1 hp
      exact ⟨e1 _ _ this.1, by rw [has_cons, this.2, Bool.or_false]; exact beq_eq_false_iff_ne.mpr (Ne.symm ne)⟩
    · rcases List.mem_cons.mp hm with z | z
      · cases z; exact ⟨#[], ep, [], [], hv, lo, dct_nil, .nil⟩
      · exact (st.m.mem a m z).mono vs1 fun o q => e1 _ _ q
    · rw [List.map_cons, List.nodup_cons]
      refine ⟨fun z => ?_, st.m.nd⟩
      obtain ⟨⟨a, m⟩, hm, ea⟩ := List.mem_map.mp z
      have : has O q = true := has_mem.mpr ⟨m, by have z : a = q := ea; rw [← z]; exact hm⟩
      rw [op] at this; cases this
    · exact (st.env.mono vs1).set (.rf q)⟩
theorem StOk.frzD {K : PySem.W.Frag} {σ : L2.St} {H : Hp} {q : Addr} {ks : List NestedKey} (s : StOk K B ρ O σ H) (h : Drp O q (.dct ks) O') (i : Nat) (hi : ρ[i]? = some (some (.rf q))) : StOk K B (ρ.set i (some (.dct ks))) O' σ H := by
  have s' := s.sub (fun q hq => h.sub.subset hq) (s.m.nd.sublist (h.sub.map _))
  refine ⟨s'.m, ?_⟩
  obtain ⟨v, e1, r1⟩ := s.env.2 i _ hi
  cases r1
  obtain ⟨es, ep, bs, as, h1, lo, dk, h2⟩ := s.m.mem _ _ h.mem
  have hq : has O q = true := has_mem.mpr ⟨_, h.mem⟩
  obtain ⟨fq, _, _⟩ := vis_some.mp (s.m.visM hq h1)
  have r : Rp K (vis B.F O' H) (.ref q) (.dct ks) := .dct (vis_some.mpr ⟨fq, h.no s.m.nd, h1⟩) lo dk (h2.mono (vis_sub fun q hq => h.sub.subset hq))
  have := s'.env.set (i := i) r
  rwa [show σ.set i (some (V.ref q)) = σ from by
    apply List.ext_getElem?
    intro j
    by_cases hj : i = j
    · subst hj
      rw [e1]
      have hl := (List.getElem?_eq_some_iff.mp e1).1
      rw [List.getElem?_set_self hl]
    · rw [List.getElem?_set_ne hj]] at this
/-- the dict in slot i is a value from here on -/
theorem jc_frzD {q : Addr} {ks : List NestedKey} {α : Type} {A : α → AE} {m : Cmp α} (i : Nat) (hd : Drp O q (.dct ks) O') (hi : ρ[i]? = some (some (.rf q))) (h : JC X B ss (ρ.set i (some (.dct ks))) O' A m) : JC X B ss ρ O A m :=
  jc_conv (fun K σ H s => ⟨s.frzD hd i hi, vis_sub fun q hq => hd.sub.subset hq⟩) h
theorem step_map {β : Type} [DecidableEq β] {E : β → D} {f : β → NestedKey} (hk : KeyOk E f) (acc : List β) (x : β) : stepK (acc.map f) (f x) = (stepT acc x).map f := by
  unfold stepK stepT
  have := mem_key hk x acc
  by_cases h : x ∈ acc
  · rw [if_pos h, if_pos (List.mem_map_of_mem h)]
  · rw [if_neg h, if_neg]
    · simp
    · intro q
      rw [decide_eq_true q, decide_eq_false h] at this
      cases this
theorem jc_setD0 (i : Nat) {α β : Type} {f : β → NestedKey} {A : α → AE} {m : List β → Cmp α} (nd : X.N.Nodup) (h : ∀ q y, has O q = false → JC X B rest (ρ.set i (some (.rf q))) ((q, .dct (y.map f)) :: O) A (m y)) (hi : X.N[i]? = some x := by rfl) (hx : Loc X.env.scope x := by first | exact .inl rfl | exact .inr rfl)
    (hs : swapsWith (.Dict [] [] pos2) (some (.Name x pos')) pos.line X.env = pure false := by rfl) (hf : X.fn x = true ∨ X.env.scope.names.lookup x = some .local := by first | exact .inr rfl | exact .inl rfl) : JC X B (.Assign [.Name x pos'] (.Dict [] [] pos2) pos :: rest) ρ O A (.bnd ([] : List β) m) := fun ok =>
  j_cons (j_setD0 nd hi hx hs hf fun q hq => h q [] hq ok)
theorem jc_setKey {q : Addr} {α β : Type} [DecidableEq β] {E : β → D} {f : β → NestedKey} {v : β} {xs : List β} {A : α → AE} {m : List β → Cmp α} {O2 : List β → Om} (hu : X.A.units + 65 < cLine) (hk : KeyOk E f) (ho : EV X B ρ O o (.rf q)) (hi : EV X B ρ O c (E v)) (he : EV X B ρ O e (.bl true)) (hp : ∀ ys : List β, Put O q (.dct (xs.map f)) (.dct (ys.map f)) (O2 ys)) (hz : xs.length < sizeLine) (h : ∀ ys, JC X B rest ρ (O2 ys) A (m ys))
    (ha : ∀ v, assign (.Subscript o c pos') X.env v = (do
      let ov ← holding [v] (eval o X.env)
      let iv ← holding [v, ov] (eval c X.env)
      standAt pos'
      holding [v, ov, iv] (setItem ov iv v)
      release [v, ov, iv] []) := by intro _; rfl)
    (hs : swapsWithSole [.Subscript o c pos'] e pos.line X.env = pure false := by rfl) (hw : swappedStores [.Subscript o c pos'] e X.env = pure none := by rfl)
    (h1 : (assignEach [.Subscript o c pos'] X.env).map (·.2) = [assign (.Subscript o c pos') X.env] := by rfl) :
    JC X B (.Assign [.Subscript o c pos'] e pos :: rest) ρ O A (.bnd (stepT xs v) m) := fun ok =>
  j_cons (j_setKey hu ho (by rw [hk.eq]; exact hi) he (by rw [step_map hk]; exact hp _) (hk.num v) (hk.dep v) (hk.tup v) (by rw [List.length_map]; exact hz) (h _ ok) ha hs hw h1)
end
section
variable {K : PySem.W.Frag} {B : Gd} {O : Om} {α : Type} {E : α → D} {f : α → NestedKey} [DecidableEq α]
theorem rd_inKE {x : α} {xs : List α} {inst : Decidable (x ∈ xs)} (hk : KeyOk E f) : RD K B O (rInK K false) (E x) (dK f xs) (.bl (@decide (x ∈ xs) inst)) := by
  have e : inst = List.instDecidableMemOfLawfulBEq x xs := Subsingleton.elim _ _
  rw [e]; exact rd_inKD hk
theorem rd_notinKE {x : α} {xs : List α} {inst : Decidable (x ∈ xs)} (hk : KeyOk E f) : RD K B O (rInK K true) (E x) (dK f xs) (.bl (!@decide (x ∈ xs) inst)) := by
  have e : inst = List.instDecidableMemOfLawfulBEq x xs := Subsingleton.elim _ _
  rw [e]; exact rd_notinKD hk
end
end DL

set_option Elab.async false
set_option linter.all false
set_option maxRecDepth 100000
set_option maxHeartbeats 4000000
namespace DL
open PySem PySem.Spec PyProof.Rows L2
/-! ### a new list, or None -/
def spO (K : PySem.W.Frag) (Ar : Om → List D → Option (List D) → Prop) : Sp := fun vs H Q _ => ∃ (F : Addr → Bool) (L : Om) (ds : List D) (eo : Option (List D)), Bor K F L [] H ∧ RpL K (vis F [] H) vs ds ∧ Ar L ds eo ∧
  (eo = none → ∀ H', Same H H' → Q .non H') ∧ ∀ es, eo = some es → ∀ p H' ws, H p = none → Same H H' → H' p = some (.lst ws) → RpL K (vis F [(p, .lst es)] H') ws es → Q (.ref p) H'
abbrev rtO {α : Type} (e : α → D) : Option (List α) → D → Om → Prop := fun r d O => match r with
  | none => d = .non
  | some xs => ∃ p, d = .rf p ∧ O = [(p, .lst (xs.map e))]
def rtOD (eo : Option (List D)) (d : D) (O : Om) : Prop := match eo with
  | none => d = .non
  | some es => ∃ p, d = .rf p ∧ O = [(p, M.lst es)]
theorem fn_newO {P : Program} {w : World} {K : PySem.W.Frag} {mg : Str → Option Value} {base : Heap} {Ar : Om → List D → Option (List D) → Prop} {x qual : Str} {st : Stmt} {f : Addr} {fd : FuncData} {N ps : List Str} {k : Nat} (F : Fun K x qual st f fd) (S : FnScope N ps (defScope st)) (len : ∀ L ds d, Ar L ds d → ds.length = ps.length)
    (h : ∀ (cdv : Value) (A : Around) (outer : List Env) (s : Shared) (H : Hp) (E : XK) (B : Gd) (ds : List D) (eo : Option (List D)), Room k (A.deeper (envOfC qual (defScope st) s.heap.objs.size f cdv)) → Ar B.L ds eo →
      J (cxOf CX0 P w K mg base N qual (defScope st) f cdv A outer s H E).nox B (defBody st) (startD N ds) [] { nx := fun _ O' => rtOD eo .non O', rt := fun d' O' => rtOD eo d' O' }) : FnOk P w K mg base CX0 (k + 1) f fd ps (spO K Ar) := by
  refine F.ok S (fun vs H Q E q => ?_) (fun cdv A outer s H vs Q E hr q => ?_)
  · obtain ⟨F', L, ds, d, _, r, ha, _⟩ := q
    rw [r.length]; exact len L ds d ha
  · obtain ⟨F', L, ds, eo, bo, r, ha, k0, kk⟩ := q
    refine ⟨_, h cdv A outer s H E ⟨F', H, fun c d _ H => E c d H, L, bo.ok, bo.lF⟩ ds eo hr ha, ⟨⟨fun a o e => ⟨e, rfl⟩, (fun a m hm => nomatch hm), (by simp), bo.lent⟩, start_env r⟩, ?_, ?_, fun _ _ _ _ z => z.elim, fun _ _ _ _ z => z.elim, fun _ _ _ _ _ _ _ _ _ z => z.elim⟩
    · intro ρ O σ H' z s' _
      cases eo with
      | none => exact k0 rfl H' (fun a o q => (s'.m.base a o q).1)
      | some es => obtain ⟨p, hp, _⟩ := z; cases hp
    · intro d' O' v H' z m r'
      cases eo with
      | none =>
        replace z : d' = .non := z
        subst z; cases r'
        exact k0 rfl H' (fun a o q => (m.base a o q).1)
      | some es =>
        obtain ⟨p, rfl, rfl⟩ := z
        cases r'
        obtain ⟨ws, h1, h2⟩ := m.mem p _ List.mem_cons_self
        refine kk es rfl p H' ws ?_ (fun a o q => (m.base a o q).1) h1 h2
        cases q : H p with
        | none => rfl
        | some o =>
          have := (m.base p o q).2
          simp [has] at this
section
variable {X : Cx} {B : Gd} {ρ ρ' : List (Option D)} {O O' : Om} {a b c e o : Expr} {es : List Expr} {d : D} {ds : List D} {pos pos' p : Pos} {rest : List Stmt} {x : Str} {k : Nat} {α β : Type} {A : α → AE}
theorem j_outO {ss : List Stmt} {v : Option (List β)} {E : β → D} (h : J X B ss ρ O (aR (rtO E) v)) : J X B ss ρ O { nx := fun _ O' => rtOD (v.map (List.map E)) .non O', rt := fun d' O' => rtOD (v.map (List.map E)) d' O' } := by
  cases v with
  | none => exact h
  | some xs => exact h
/-- an expression that gives a new list or None -/
structure ENO (X : Cx) (B : Gd) (ρ : List (Option D)) (O : Om) (e : Expr) (eo : Option (List D)) : Prop where
  no : eo = none → EV X B ρ O e .non
  so : ∀ es, eo = some es → EN X B ρ O e es
theorem eo_call {Ar : Om → List D → Option (List D) → Prop} {eo : Option (List D)} (c : Cal X.prog X.w X.K X.mg X.base CX0 k x (spO X.K Ar)) (hr : Room k X.A) (hg : Gl X x) (ha : EA X B ρ O (e :: es) ds) (h : Ar (B.L ++ O) ds eo) (hdb : (x == ("__debug__" : Str)) = false := by decide)
    (he : starEach (e :: es) X.env = (false, eval e X.env) :: starEach es X.env := by rfl) (hpl : (backTo pos (starEach es X.env)).any (·.1) = false := by rfl) : ENO X B ρ O (.Call (.Name x p) (e :: es) [] pos) eo := by
  obtain ⟨f, F, hm⟩ := c.ex
  refine ⟨fun q => ?_, fun fs q => ?_⟩
  · subst q
    exact pe_imp (pe_callR (E := E0) F.raw hr hg hm F.kp pass0 ha hdb he hpl) fun σ H Q ⟨st, k⟩ => ⟨st, fun vs H1 e1 r1 => ⟨frF B O, B.L ++ O, ds, none, bor_of (st.same e1).m, by rw [vis_fr]; exact r1, h, fun _ H2 e2 => k .non H2 (e1.trans e2) .non, fun es he => nomatch he⟩⟩
  · subst q
    exact pe_imp (pe_callR (E := E0) F.raw hr hg hm F.kp pass0 ha hdb he hpl) fun σ H Q ⟨st, k⟩ => ⟨st, fun vs H1 e1 r1 => ⟨frF B O, B.L ++ O, ds, some fs, bor_of (st.same e1).m, by rw [vis_fr]; exact r1, h, (fun he => nomatch he), fun es' he p H2 ws hp e2 hv r2 => (by
      cases he
      exact k p H2 ws (e1.free hp) (e1.trans e2) hv (by rw [vis_fr1] at r2; exact r2))⟩⟩
theorem ev_ofO {E : β → D} {v : Option (List β)} (h : ENO X B ρ O e (v.map (List.map E))) : EV X B ρ O e (dO (dL E) v) := by
  cases v with
  | none => exact h.no rfl
  | some xs => exact ev_new (h.so _ rfl)
def Cmp.bndO {β α : Type} (v : Option β) (m0 : Unit → Cmp α) (m1 : β → Cmp α) : Cmp α := match v with
  | none => m0 ()
  | some x => m1 x
theorem jc_setO (i : Nat) {v : Option (List β)} {E : β → D} {m0 : Unit → Cmp α} {m1 : List β → Cmp α} (nd : X.N.Nodup) (he : ENO X B ρ O e (v.map (List.map E))) (h0 : ∀ u, JC X B rest (ρ.set i (some .non)) O A (m0 u))
    (h1 : ∀ q xs, has O q = false → JC X B rest (ρ.set i (some (.rf q))) ((q, .lst (xs.map E)) :: O) A (m1 xs)) (hi : X.N[i]? = some x := by rfl) (hx : Loc X.env.scope x := by first | exact .inl rfl | exact .inr rfl) (hs : swapsWith e (some (.Name x pos')) pos.line X.env = pure false := by rfl)
    (hf : X.fn x = true ∨ X.env.scope.names.lookup x = some .local := by first | exact .inr rfl | exact .inl rfl) : JC X B (.Assign [.Name x pos'] e pos :: rest) ρ O A (.bndO v m0 m1) := fun ok => by
  cases v with
  | none => exact j_cons (sset i nd (he.no rfl) (h0 () ok) hi hx hs hf)
  | some xs => exact j_cons (ssetN i nd (he.so _ rfl) (fun q hq => h1 q xs hq ok) hi hx hs hf)
end
instance {S L R : Type} [Inhabited S] : Inhabited (Ctl S L R) := ⟨.nx default⟩
section
variable {Q : α → Prop}
theorem sat_bndO {v : Option β} {m0 : Unit → Cmp α} {m1 : β → Cmp α} (h0 : v = none → (m0 ()).sat Q) (h1 : ∀ x, v = some x → (m1 x).sat Q) : (Cmp.bndO v m0 m1).sat Q := by
  cases v with
  | none => exact h0 rfl
  | some x => exact h1 x rfl
end
end DL

set_option Elab.async false
set_option linter.all false
set_option maxRecDepth 100000
set_option maxHeartbeats 4000000
namespace DL
open PySem PySem.Spec PyProof.Rows L2
/-! ### f-strings with a width; ints of many digits -/
def lim43 : Nat := 10 ^ 4300
structure NoD (K : PySem.W.Frag) : Prop where
  no : PySem.W.nsIn K cStatics "sys.int_max_str_digits" = some none
theorem NoD.heap {X : Cx} {pins : List (Addr × Obj)} {σ : L2.St} {H : Hp} {s : Shared} (d : NoD X.K) (I : Inv X pins σ H s) : s.heap.NoDigits :=
  let ⟨mc, hns, _⟩ := I.nolimit; ⟨mc, hns, PySem.W.ns_none_of I.kIn hns d.no⟩
section
open PySem.Builtin PySem.Builtin.Str PySem.Builtin.Int
variable {prog : Program} {w : World} {A : Around} {E : Value → Shared → Prop} {s : Shared} {a : Int} {t : Tok}
theorem call_repr_big {Q : Value → Shared → Prop} (hn : s.heap.NoDigits) (hl : a.natAbs < 10 ^ 4300) (h1 : Q (.str (toString a) s.toks) { s with toks := s.toks + 1 }) :
    wpAny (model prog w) A (call (.builtin "int.__repr__") [.int a t]) Q E s := by
  refine wpAny_call_entry F.slot_int_repr (typeIs_int s a t) F.entry_int_repr ?_ (F.args_int_repr_1 _)
  unfold Builtin.«int.__repr__»
  show wpAny _ _ (do let r ← Builtin.overDigitLimit? a; _) _ _ s
  exact wpAny_bind (overDigitLimit_any hn (fun hlt => wpAny_bind (wpAny_mkStr (wpAny_pure ⟨_, rfl, h1⟩) (int_text_fits10 hlt))) (fun hge => absurd hl (Nat.not_lt.mpr hge)))
theorem strOf_big {Q : Value → Shared → Prop} (hn : s.heap.NoDigits) (hl : a.natAbs < 10 ^ 4300) (h1 : Q (.str (toString a) s.toks) { s with toks := s.toks + 1 }) :
    wpAny (model prog w) A (PySem.Builtin.Str.strOf (.int a t)) Q E s := by
  unfold PySem.Builtin.Str.strOf
  rw [show isExactStr (.int a t) = false from rfl]
  try (have hv : [Value.int a t].any Value.onHeap = false := rfl; simp only [cRoomFor, hv, Bool.false_eq_true, if_false, pure_bind])
  refine wpAny_bind (m := callSpecial? (.int a t) (Str.ofString "__str__")) (wpAny_callSpecial?_slot (name := Str.ofString "__str__") (typeIs_int s a t) F.slot_int_str ?_)
  refine wpAny_call_entry F.slot_int_str (typeIs_int s a t) entry_object_str ?_ (args_object_str _)
  unfold Builtin.«object.__str__»
  refine wpAny_bind (m := slotArgs "__str__" 0 _) (wpAny_pure ?_)
  try (have hv : [Value.int a t].any Value.onHeap = false := rfl; simp only [cRoomFor, hv, Bool.false_eq_true, if_false, pure_bind])
  refine wpAny_bind (m := callSpecialIfBound? (.int a t) (Str.ofString "__repr__")) (wpAny_callSpecialIfBound?_slot (name := Str.ofString "__repr__") (typeIs_int s a t) F.slot_int_repr
    (call_repr_big hn hl ?_))
  exact wpAny_pure ⟨_, rfl, wpAny_pure h1⟩
theorem str_of_big {Q : Value → Shared → Prop} (hn : s.heap.NoDigits) (hl : a.natAbs < 10 ^ 4300) (h1 : Q (.str (toString a) s.toks) { s with toks := s.toks + 1 }) :
    wpAny (model prog w) A (call (.type "str") [.int a t]) Q E s :=
  callType_new F.called_str (by decide) (F.typeCall_str_1 _) (F.newCall_str_1 _) (fun obj => F.args_object_init_2 obj _) F.entry_str_new
    (meets_str_new (S := fun A R s => s.heap.NoDigits ∧ R (.ok (.ret (.str (toString a) s.toks))) { s with toks := s.toks + 1 })
      fun _ _ _ _ _ hq => strOf_big hq.1 hl hq.2)
    ⟨hn, typeIs_str _ _ _, h1⟩
end
section
variable {X : Cx} {B : Gd} {ρ : List (Option D)} {O : Om} {e sp : Expr} {es : List Expr} {d : D} {pos p : Pos} {x y z : Str}
theorem call_str_big (d : NoD X.K) : CallR X (.type "str") (fun xs H Q => ∃ i, xs = [.int i] ∧ i.natAbs < lim43 ∧ Q (.str (toString i)) H) := by
  intro pins s σ H xs us Q I r h
  obtain ⟨i, rfl, hz, q⟩ := h
  obtain ⟨u, rfl, t, rfl⟩ := vals1 r
  exact str_of_big (d.heap I) hz ⟨.str _, H, I.tok _, ⟨_, rfl⟩, q⟩
theorem rc_strB {i : Int} {K : PySem.W.Frag} (hz : i.natAbs < lim43) : RC K B O (fun xs H Q => ∃ i, xs = [.int i] ∧ i.natAbs < lim43 ∧ Q (.str (toString i)) H) [.int i] (.str (toString i)) := fun xs H Q m r k => by
  cases r with
  | cons h r => cases r; cases h; exact ⟨i, rfl, hz, k _ H (Same.refl H) (.str _)⟩
/-- {e:sp}, an int -/
theorem ev_fmtI {n : Int} (dd : NoD X.K) (he : EV X B ρ O e (.int n)) (hs : EV X B ρ O sp (.str z)) (hok : intSpecOk z = true) (hz : z.length ≤ sizeLine) (hn : n.natAbs < lim43) : EV X B ρ O (.FormattedValue e (-1) (some sp) pos) (.str (intSpecTextOf z n)) :=
  ⟨fun pins s σ H Q I ⟨st, k⟩ => wpAny_FormattedValue_spec (thn (he.run pins s σ H (fun v H1 => v = .int n ∧ Same H H1) I ⟨st, fun v H1 e1 r1 => by cases r1; exact ⟨rfl, e1⟩⟩) fun v s1 ⟨x, H1, I1, r1, ex, e1⟩ =>
    thn (hs.run pins s1 σ H1 (fun v H2 => v = .str z ∧ Same H1 H2) I1 ⟨st.same e1, fun v H2 e2 r2 => by cases r2; exact ⟨rfl, e2⟩⟩) fun u s2 ⟨y, H2, I2, r2, ey, e2⟩ => by
      subst ex ey
      obtain ⟨t, rfl⟩ := r1
      obtain ⟨t2, rfl⟩ := r2
      exact ⟨z, t2, rfl, formatField_int_specOf (dd.heap I2) hn hok (fun W _ _ => ⟨.str _, H2, I2.tok _, ⟨_, rfl⟩, k _ H2 (e1.trans e2) (.str _)⟩) hz⟩)⟩
/-- .., a text -/
theorem ev_fmtS (g : ∀ t u, Meets (Builtin.«str.__format__» ⟨[.str x t, .str z u], []⟩) (fun _ R s => ∀ t' k, R (.ok (.ret (.str y t'))) { s with toks := k })) (hne : (z.length == 0) = false) (hz : z.length ≤ sizeLine) (he : EV X B ρ O e (.str x)) (hs : EV X B ρ O sp (.str z)) :
    EV X B ρ O (.FormattedValue e (-1) (some sp) pos) (.str y) :=
  ⟨fun pins s σ H Q I ⟨st, k⟩ => wpAny_FormattedValue_spec (thn (he.run pins s σ H (fun v H1 => v = .str x ∧ Same H H1) I ⟨st, fun v H1 e1 r1 => by cases r1; exact ⟨rfl, e1⟩⟩) fun v s1 ⟨x', H1, I1, r1, ex, e1⟩ =>
    thn (hs.run pins s1 σ H1 (fun v H2 => v = .str z ∧ Same H1 H2) I1 ⟨st.same e1, fun v H2 e2 r2 => by cases r2; exact ⟨rfl, e2⟩⟩) fun u s2 ⟨y', H2, I2, r2, ey, e2⟩ => by
      subst ex ey
      obtain ⟨t, rfl⟩ := r1
      obtain ⟨t2, rfl⟩ := r2
      exact ⟨z, t2, rfl, PySem.W.KXf.field_str rfl rfl hne hz (g t) fun t' k' => ⟨.str y, H2, I2.tok _, ⟨t', rfl⟩, k _ H2 (e1.trans e2) (.str _)⟩⟩)⟩
def catS (ys : List Str) : Str := ys.foldl (· ++ ·) Str.empty
/-- the parts of an f-string -/
def EJ (X : Cx) (B : Gd) (ρ : List (Option D)) (O : Om) (es : List Expr) (ys : List Str) : Prop := ∃ ts, PJ X es ts ∧ ∀ (acc : Str) σ H (Q : Str → Hp → Prop), StOk X.K B ρ O σ H → acc.length + (ys.map (·.length)).sum ≤ sizeLine → (∀ H', Same H H' → Q (ys.foldl (· ++ ·) acc) H') → tJs ts acc σ H Q
theorem ej_nil : EJ X B ρ O [] [] := ⟨[], .nil, fun acc σ H Q _ _ k => k H (Same.refl H)⟩
theorem ej_cons {ys : List Str} (he : EV X B ρ O e (.str y)) (r : EJ X B ρ O es ys) : EJ X B ρ O (e :: es) (y :: ys) := by
  obtain ⟨ts, pj, h⟩ := r
  refine ⟨_ :: ts, .cons he pj, fun acc σ H Q st hz k => ⟨st, fun v H1 e1 r1 => ?_⟩⟩
  cases r1
  simp only [List.map_cons, List.sum_cons] at hz
  have hl : (acc ++ y).length = acc.length + y.length := by show (acc.cps ++ y.cps).size = _; exact Array.size_append
  exact ⟨y, rfl, by rw [hl]; omega, h (acc ++ y) σ H1 Q (st.same e1) (by rw [hl]; omega) fun H2 e2 => k H2 (e1.trans e2)⟩
theorem ev_joined {v1 v2 : Expr} {rest : List Expr} {ys : List Str} (h : EJ X B ρ O (v1 :: v2 :: rest) ys) (hz : (ys.map (·.length)).sum ≤ sizeLine) : EV X B ρ O (.JoinedStr (v1 :: v2 :: rest) pos) (.str (catS ys)) := by
  obtain ⟨ts, pj, h⟩ := h
  exact pe_imp (pe_joined pj) fun σ H Q ⟨st, k⟩ => h Str.empty σ H _ st (by show 0 + _ ≤ _; omega) fun H1 e1 => k _ H1 e1 (.str _)
theorem ev_joined1 (he : EV X B ρ O e d) : EV X B ρ O (.JoinedStr [e] pos) d := pe_joined1 he
end
section
open PySem.W
theorem fmt_a : ∀ t u, Meets (Builtin.«str.__format__» ⟨[.str (Str.ofString "a") t, .str (Str.ofString ">8") u], []⟩) (fun _ R s => ∀ t' k, R (.ok (.ret (.str (Str.ofString "       a") t'))) { s with toks := k }) := by
  intro t; kxf_run_s
theorem fmt_b : ∀ t u, Meets (Builtin.«str.__format__» ⟨[.str (Str.ofString "b") t, .str (Str.ofString ">8") u], []⟩) (fun _ R s => ∀ t' k, R (.ok (.ret (.str (Str.ofString "       b") t'))) { s with toks := k }) := by
  intro t; kxf_run_s
theorem fmt_c : ∀ t u, Meets (Builtin.«str.__format__» ⟨[.str (Str.ofString "c") t, .str (Str.ofString ">8") u], []⟩) (fun _ R s => ∀ t' k, R (.ok (.ret (.str (Str.ofString "       c") t'))) { s with toks := k }) := by
  intro t; kxf_run_s
end
end DL

set_option Elab.async false
set_option linter.all false
set_option maxRecDepth 100000
set_option maxHeartbeats 4000000
namespace DL
open PySem PySem.Spec PyProof.Rows L2
/-! ### def __init__(self, *names) -/
section
variable {P : Program} {w : World} {K : PySem.W.Frag} {mg : Str → Option Value} {base : Heap}
theorem body_initX {C0 : Addr} {Ar : Om → List D → OutI → Prop} {qual : Str} {st : Stmt} {f : Addr} {N : List Str} {k : Nat}
    (h : ∀ (cdv : Value) (A : Around) (outer : List Env) (s : Shared) (H : Hp) (E : XK) (B : Gd) (x : Addr) (ds : List D) (out : OutI), Room k (A.deeper (envOfC qual (defScope st) s.heap.objs.size f cdv)) → Takes (cxOf (L2.CX P w) P w K mg base N qual (defScope st) f cdv A outer s H E) B.W →
      PassesOwn (model P w) (cxOf (L2.CX P w) P w K mg base N qual (defScope st) f cdv A outer s H E).A (cxOf (L2.CX P w) P w K mg base N qual (defScope st) f cdv A outer s H E).env (cxOf (L2.CX P w) P w K mg base N qual (defScope st) f cdv A outer s H E).xe → Ar B.L ds out →
      J (cxOf (L2.CX P w) P w K mg base N qual (defScope st) f cdv A outer s H E) B (defBody st) (startD N (.rf x :: ds)) [(x, .ins C0 [] [])] (match out with
        | .val ns fs => { nx := fun _ O' => ∃ fs' O1, O' = O1 ++ [(x, .ins C0 ns fs')] ∧ FrzL O1 fs' fs, rt := fun _ _ => False }
        | .exn C n d => aX C n d)) (cdv : Value) (A : Around) (outer : List Env) (s : Shared) (H : Hp) (vs : List V) (Q : VK) (E : XK) (hr : Room k (A.deeper (envOfC qual (defScope st) s.heap.objs.size f cdv))) (q : spXI K C0 Ar vs H Q E) :
    ∃ t, PSs (cxOf (L2.CX P w) P w K mg base N qual (defScope st) f cdv A outer s H E) (defBody st) t ∧ t { nx := fun _ H' => Q .non H', rt := Q } (start N vs) H := by
  obtain ⟨F', L, x, dx, us, ds, out, rfl, bo, fx, hx, r, ha, kk⟩ := q
  let Hb : Hp := fun a => if a = x then none else H a
  have hbx : ∀ a o, Hb a = some o → a ≠ x ∧ H a = some o := fun a o e => by
    have e' : (if a = x then none else H a) = some o := e
    by_cases q : a = x
    · rw [if_pos q] at e'; cases e'
    · rw [if_neg q] at e'; exact ⟨q, e'⟩
  have hF' : ∀ a, F' a = true → ∃ o, Hb a = some o := fun a h => by
    obtain ⟨o, e⟩ := bo.ok a h
    have ne : a ≠ x := fun z => by rw [z, fx] at h; cases h
    exact ⟨o, by show (if a = x then none else H a) = _; rw [if_neg ne]; exact e⟩
  have hS : ∀ {ρ O σ H'}, StOk K ⟨F', Hb, fun c d _ H => E c d H, L, hF', bo.lF⟩ ρ O σ H' → ∀ a o, a ≠ x → H a = some o → H' a = some o := fun s' a o na q => (s'.m.base a o (by show (if a = x then none else H a) = _; rw [if_neg na]; exact q)).1
  refine ⟨_, h cdv A outer s H E ⟨F', Hb, fun c d _ H => E c d H, L, hF', bo.lF⟩ x ds out hr (takes_of rfl rfl rfl rfl) (passes_of rfl) ha, ⟨⟨fun a o e => ?_, fun a m hm => ?_, by simp, bo.lent⟩, start_env (.cons (.rf x) r)⟩, ?_⟩
  · obtain ⟨n, e⟩ := hbx a o e
    refine ⟨e, ?_⟩
    show (x == a || false) = false
    rw [Bool.or_false]
    exact beq_eq_false_iff_ne.mpr (Ne.symm n)
  · cases List.mem_singleton.mp hm
    exact ⟨dx, [], hx, rfl, .nil⟩
  · cases out with
    | exn C n d =>
      refine ⟨fun _ _ _ _ z => z.elim, fun _ _ _ _ z => z.elim, fun _ _ _ _ z => z.elim, fun _ _ _ _ z => z.elim, ?_⟩
      rintro C' n' d' ρ O σ H' ex v ⟨rfl, rfl, rfl⟩ s' _ hex _ r'
      exact kk.2 ex v H' (hS s') hex (flat_rp kk.1 r')
    | val ns fs =>
      refine ⟨?_, fun _ _ _ _ z => z.elim, fun _ _ _ _ z => z.elim, fun _ _ _ _ z => z.elim, fun _ _ _ _ _ _ _ _ _ z => z.elim⟩
      rintro ρ O' σ H' ⟨fs', O1, rfl, fz⟩ s' _
      obtain ⟨dx', fv, h1, h2, h3⟩ := s'.m.mem x _ (List.mem_append_right _ List.mem_cons_self)
      have nd := s'.m.nd
      rw [List.map_append, List.nodup_append] at nd
      have nx : ∀ p m, (p, m) ∈ O1 → p ≠ x := fun p m hp => nd.2.2 p (List.mem_map_of_mem (f := (·.1)) hp) x (by simp)
      have e1 : Same (vis F' (O1 ++ [(x, .ins C0 ns fs')]) H') (vis F' [(x, .ins C0 [] [])] H') := fun a o q => by
        obtain ⟨q1, q2, q3⟩ := vis_some.mp q
        refine vis_some.mpr ⟨q1, ?_, q3⟩
        unfold has at q2 ⊢
        rw [List.any_append, Bool.or_eq_false_iff] at q2
        exact q2.2
      refine kk H' dx' fv (hS s') h1 h2 (RpL.frz e1 (fun p m hp => ?_) fz h3)
      refine (s'.m.mem p m (List.mem_append_left _ hp)).mono (Same.refl _) fun o q => ?_
      have q' := s'.m.visM (has_mem.mpr ⟨m, List.mem_append_left _ hp⟩) q
      obtain ⟨g1, _, g3⟩ := vis_some.mp q'
      refine vis_some.mpr ⟨g1, ?_, g3⟩
      show (x == p || false) = false
      rw [Bool.or_false]
      exact beq_eq_false_iff_ne.mpr (Ne.symm (nx p m hp))
/-- a promise of def __init__(self, *names), told of the names -/
theorem star_init {C0 : Addr} {Ar : Om → List D → OutI → Prop} {x qual pv : Str} {st : Stmt} {f : Addr} {fd : FuncData} {N : List Str} {k : Nat} (F : Fun K x qual st f fd) (S : FnScope N ["self", pv] (defScope st))
    (hb : ∀ us rest : List Value, us.length = ["self"].length → bindArgs fd ⟨us ++ rest, []⟩ = (newTuple rest >>= fun t => pure ((["self"] : List Str).zip us ++ [(pv, t)])))
    (h : ∀ (cdv : Value) (A : Around) (outer : List Env) (s : Shared) (H : Hp) (vs : List V) (Q : VK) (E : XK), Room k (A.deeper (envOfC qual (defScope st) s.heap.objs.size f cdv)) → spXI K C0 Ar vs H Q E →
      ∃ t, PSs (cxOf (L2.CX P w) P w K mg base N qual (defScope st) f cdv A outer s H E) (defBody st) t ∧ t { nx := fun _ H' => Q .non H', rt := Q } (start N vs) H) :
    FnR P w K mg base (L2.CX P w) (k + 1) f (spXI K C0 fun L es out => es.length ≤ sizeLine ∧ Ar L [.tup es] out) := by
  obtain ⟨oc, od, kV, doc, pm, an, cdv, ct, osl, rfl, lk, hcd⟩ := F.ex
  refine (StX.fn_star (ps := ["self"]) lk hcd S StX.cxUp hb (h cdv)).imp fun vs H Q E ⟨F', L, x, dx, us, es, out, ev, bo, fx, hx, r, ha, kk⟩ => ?_
  subst ev
  refine ⟨[.ref x], us, rfl, rfl, by rw [r.length]; exact ha.1, fun p hp => ?_⟩
  have fp : F' p = false := by
    cases q : F' p with
    | false => rfl
    | true => obtain ⟨o, e⟩ := bo.ok p q; rw [hp] at e; cases e
  have px : p ≠ x := fun z => by rw [z, hx] at hp; cases hp
  have s1 : Same H (upd H p (.tup us)) := same_new hp
  have hv : vis F' [(x, M.ins C0 [] [])] (upd H p (.tup us)) p = some (.tup us) := vis_some.mpr ⟨fp, by
    show (x == p || false) = false
    rw [Bool.or_false]; exact beq_eq_false_iff_ne.mpr (Ne.symm px), upd_same⟩
  refine ⟨F', L, x, dx, [.ref p], [.tup es], out, rfl, ⟨fun a q => ?_, bo.lF, fun a m q => (bo.lent a m q).mono (vis_same s1) fun o e => s1 _ _ e⟩, fx, s1 _ _ hx, .cons (.tup (.inl (.inl hv)) (r.mono (vis_same s1))) .nil, ha.2, ?_⟩
  · obtain ⟨o, e⟩ := bo.ok a q
    exact ⟨o, s1 _ _ e⟩
  · cases out with
    | val ns fs => exact fun H' dx' fv g1 g2 g3 g4 => kk H' dx' fv (fun a o na e => g1 a o na (s1 _ _ e)) g2 g3 g4
    | exn C n d => exact ⟨kk.1, fun ex v H' g1 g2 g3 => kk.2 ex v H' (fun a o na e => g1 a o na (s1 _ _ e)) g2 g3⟩
theorem calm_fnR {k : Nat} {f : Addr} {sp : Sp} (F : FnR P w K mg base (L2.CX P w) k f sp) (h : ∀ vs H Q E E', sp vs H Q E → sp vs H Q E') : FnR P w K mg base CX0 k f sp :=
  fun A outer s H us vs Q E hr e0 r hs => codeAny_mono (F A outer s H us vs Q E0 hr e0 r (h _ _ _ _ _ hs)) fun r s' q => by
    cases r with
    | ok fl =>
      cases fl with
      | ret u => exact q
      | next => exact q
      | brk => exact q
      | cont => exact q
    | error e =>
      obtain ⟨_, _, _, _, _, _, _, _, _, _, _, _, z⟩ := q
      exact z.elim
theorem starI {k : Nat} {f C0 : Addr} {Ar : Om → List D → OutI → Prop} (F : FnR P w K mg base (L2.CX P w) k f (spXI K C0 Ar)) : FnR P w K mg base CX0 k f (spI K C0 fun L ds ns fs => Ar L ds (.val ns fs)) :=
  calm_fnR (F.imp fun vs H Q E ⟨F', L, x, dx, us, ds, ns, fs, a, b, c, e, g, h, i⟩ => ⟨F', L, x, dx, us, ds, .val ns fs, a, b, c, e, g, h, i⟩) fun _ _ _ _ _ z => z
theorem starR {k : Nat} {f C0 C : Addr} {n : Str} {Ar : Om → List D → OutI → Prop} (F : FnR P w K mg base (L2.CX P w) k f (spXI K C0 Ar)) : FnR P w K mg base (L2.CX P w) k f (spRI K C0 C n fun L ds d => Ar L ds (.exn C n d) ∧ FlatD d) :=
  F.imp fun vs H Q E ⟨F', L, x, dx, us, ds, d, a, b, c, e, g, h, i⟩ => ⟨F', L, x, dx, us, ds, .exn C n d, a, b, c, e, g, h.1, h.2, i⟩
end
section
variable {X : Cx} {B : Gd} {ρ : List (Option D)} {O : Om} {d : D} {C C0 f : Addr} {ds fs : List D} {k : Nat} {n x : Str} {e : Expr} {es : List Expr} {ns : List Str} {pos p : Pos}
/-- C(a, ..), by a star init -/
theorem ev_makeS {Ar : Om → List D → List Str → List D → Prop} (Mk : Mk X.K C f) (F : FnR X.prog X.w X.K X.mg X.base CX0 k f (spI X.K C Ar)) (hr : Room (k + 1) X.A) (hg : Gl X x) (hm : X.mg x = some (.ref C)) (ha : EA X B ρ O (e :: es) ds) (h : Ar (B.L ++ O) ds ns fs) (hdb : (x == ("__debug__" : Str)) = false := by decide)
    (he : starEach (e :: es) X.env = (false, eval e X.env) :: starEach es X.env := by rfl) (hpl : (backTo pos (starEach es X.env)).any (·.1) = false := by rfl) : EV X B ρ O (.Call (.Name x p) (e :: es) [] pos) (.obj C ns fs) :=
  pe_imp (StX.pe_makeR (E := E0) Mk F hr hg hm pass0 ha hdb he hpl) fun σ H Q ⟨st, k⟩ => ⟨st, fun vs H1 e1 r1 y dy hy hdy ne => made_use (st.same e1).m r1 h (fun v H2 e2 r2 => k v H2 (e1.trans e2) r2) y dy hy hdy ne⟩
theorem er_makeS {Ar : Om → List D → D → Prop} (Mk : Mk X.K C0 f) (F : FnR X.prog X.w X.K X.mg X.base (L2.CX X.prog X.w) k f (spRI X.K C0 C n Ar)) (hr : Room (k + 1) X.A) (tk : Takes X B.W) (hg : Gl X x) (hm : X.mg x = some (.ref C0)) (ha : EA X B ρ O (e :: es) ds) (h : Ar (B.L ++ O) ds d) (hdb : (x == ("__debug__" : Str)) = false := by decide)
    (he : starEach (e :: es) X.env = (false, eval e X.env) :: starEach es X.env := by rfl) (hpl : (backTo pos (starEach es X.env)).any (·.1) = false := by rfl) : ER X B ρ O (.Call (.Name x p) (e :: es) [] pos) C n d :=
  pe_imp (pe_makeRS (E := WE B.W) Mk F hr hg hm (fun σ => passAt tk σ) ha hdb he hpl) fun σ H Q ⟨st, k⟩ => ⟨st, fun vs H1 e1 r1 y dy hy hdy ne => madeR_use (st.same e1).m r1 h (fun dx v H2 e2 hx r2 => k dx v H2 (e1.trans e2) hx r2) y dy hy hdy ne⟩
/-- C(), by a star init -/
theorem ev_makeS0 {Ar : Om → List D → List Str → List D → Prop} (Mk : Mk X.K C f) (F : FnR X.prog X.w X.K X.mg X.base CX0 k f (spI X.K C Ar)) (hr : Room (k + 1) X.A) (hg : Gl X x) (hm : X.mg x = some (.ref C)) (h : Ar (B.L ++ O) [] ns fs) (hdb : (x == ("__debug__" : Str)) = false := by decide) :
    EV X B ρ O (.Call (.Name x p) [] [] pos) (.obj C ns fs) :=
  ⟨fun pins s σ H Q I ⟨st, k⟩ => by
    refine wpAny_Call_Name_kw (ld_glob I hg hm ?_ hdb)
    refine PySem.W.callWith_K0 I.kIn Mk.kp (StX.run_makeR (us := []) (vs := []) Mk F hr pass0 I .nil fun y dy hy hdy ne => ?_)
    exact made_use st.m .nil h (fun v H2 e2 r2 => k v H2 e2 r2) y dy hy hdy ne⟩
theorem er_makeS0 {Ar : Om → List D → D → Prop} (Mk : Mk X.K C0 f) (F : FnR X.prog X.w X.K X.mg X.base (L2.CX X.prog X.w) k f (spRI X.K C0 C n Ar)) (hr : Room (k + 1) X.A) (tk : Takes X B.W) (hg : Gl X x) (hm : X.mg x = some (.ref C0)) (h : Ar (B.L ++ O) [] d) (hdb : (x == ("__debug__" : Str)) = false := by decide) :
    ER X B ρ O (.Call (.Name x p) [] [] pos) C n d :=
  ⟨fun pins s σ H Q I ⟨st, k⟩ => by
    refine wpAny_Call_Name_kw (ld_glob I hg hm ?_ hdb)
    refine PySem.W.callWith_K0 I.kIn Mk.kp (run_makeRS (us := []) (vs := []) Mk F hr (passAt tk σ) I .nil ?_)
    exact fun y dy hy hdy ne => madeR_use st.m .nil h (fun dx v H2 e2 hx r2 => k dx v H2 e2 hx r2) y dy hy hdy ne⟩
end
/-! ### errors whose field is a text -/
section
variable {X : Cx} {B : Gd} {ρ : List (Option D)} {O : Om} {rest : List Stmt}
def onErrS {R : Type} [Inhabited R] (i : Nat) (er : Exn) (f : Str → Cmp R) : Cmp R := if er.c = i then (match er.d with | .str z => f z | _ => .bad) else .bad
theorem onErrS_ok {R : Type} [Inhabited R] {i : Nat} {er : Exn} {f : Str → Cmp R} (h : (onErrS i er f).ok) : ∃ z, er = ⟨i, .str z⟩ ∧ (f z).ok ∧ onErrS i er f = f z := by
  obtain ⟨c, d⟩ := er
  unfold onErrS at h
  by_cases hc : c = i
  · subst hc
    simp only [if_true] at h
    cases d with
    | str z => exact ⟨z, rfl, h, by unfold onErrS; simp⟩
    | _ => exact h.elim
  · simp only [hc, if_false] at h
    exact h.elim
theorem jc_onErrS {R : Type} [Inhabited R] {A : R → AE} {er : Exn} {f : Str → Cmp R} {j : Nat} (h : ∀ z, er = ⟨j, .str z⟩ → JC X B rest ρ O A (f z)) : JC X B rest ρ O A (onErrS j er f) := fun ok => by
  obtain ⟨z, e, o, q⟩ := onErrS_ok ok
  rw [q]; exact h z e o
end
/-! ### written tuples of texts -/
def KTupS (K : PySem.W.Frag) (a : Addr) (xs : List Str) : Prop := ∃ (o : Obj) (its : Array Value) (n : Nat), K.lookup a = some o ∧ o.cls = .type "tuple" ∧ o.data = .seq its n ∧ its.size ≤ sizeLine ∧ Vals (xs.map V.str) its.toList
theorem rp_ktup {K : PySem.W.Frag} {H : Hp} {a : Addr} {xs : List Str} (h : KTupS K a xs) : Rp K H (.ref a) (dU D.str xs) := .tup (.inr h) (RpL.ofStrs xs)
end DL

set_option Elab.async false
set_option linter.all false
set_option maxRecDepth 100000
set_option maxHeartbeats 4000000
namespace DL
open PySem PySem.Spec PyProof.Rows L2 TL
structure Ads where
  (CFormula f_Formula___init__ f_Formula_holds f_Formula___call__ p_Formula_read f_Formula_read p_Formula_text f_Formula_text p_Formula_columns f_Formula_columns p_Formula_marks f_Formula_marks p_Formula_one_sided f_Formula_one_sided f_Formula___and__ f_Formula___or__ f_Formula___xor__ f_Formula___mul__ f_Formula___neg__ f_Formula___invert__ f_Formula___le__ : Addr)
  (aOPERANDS CTooLong f_TooLong___init__ CBadFormula f_BadFormula___init__ CTableError CBadKey f_BadKey___init__ CClash CKeys f_Keys___init__ p_Keys_columns f_Keys_columns f_Keys_clash f_Keys_kept_by aKEY_NAMES : Addr)
structure FormV where
  words : List Str
  code : List (Str × Int × Int)
deriving Inhabited
def fFForm : List Str := ["words", "code"]
abbrev fVForm (v : FormV) : List D := [dU D.str v.words, dL (dP3 D.str D.int D.int) v.code]
abbrev eForm (ad : Ads) (v : FormV) : D := .obj ad.CFormula fFForm (fVForm v)
structure KeysV where
  names : List Str
deriving Inhabited
def fFKeys : List Str := ["names"]
abbrev fVKeys (v : KeysV) : List D := [dU D.str v.names]
abbrev eKeys (ad : Ads) (v : KeysV) : D := .obj ad.CKeys fFKeys (fVKeys v)
def ceT (ad : Ads) : ErrTab := fun i => match i with | 0 => (ad.CTooLong, "many") | 1 => (ad.CBadFormula, "place") | 2 => (ad.CBadKey, "name") | _ => (0, Str.empty)
abbrev keyNames : List Str := [Str.ofString "a", Str.ofString "b", Str.ofString "c", Str.ofString "ab", Str.ofString "ac", Str.ofString "bc", Str.ofString "abc"]
def opsT (z : Str) : Option Int := lookS opsL z
def m_agree (v_name : Str) (v_row : Row) (v_other : Row) : Cmp Bool :=
  .req ((∀ x1, ∀ (hx2 : x1 ∈ (charsL v_name)), 0 ≤ (Txt.find (Str.ofString "abc") (cS x1)) ∧ (Txt.find (Str.ofString "abc") (cS x1)) < 3) ∧ ((charsL v_name).length < sizeLine)) (.ret ((((charsL v_name).filter (fun _ => true)).map (fun (x1 : Nat) => (decide ((rowAt v_row (Txt.find (Str.ofString "abc") (cS x1))) = (rowAt v_other (Txt.find (Str.ofString "abc") (cS x1))))))).all id))
def mx_Keys___init__ (v_names : List Str) : Cmp (Ctl KeysV Unit Unit) :=
  .bindC (forC (L := Unit) (R := Unit) (fun (v_name : Str) (_ : Unit) => if (!decide (v_name ∈ keyNames)) = true then (.ret (.ex ⟨2, D.str v_name⟩)) else (.ret (.nx ()))) v_names ()) (fun (_ : Unit) => .bnd (v_names : List Str) fun v_self_names => .ret (.nx ⟨v_self_names⟩))
def m_Keys___init__ (v_names : List Str) : Cmp KeysV := (mx_Keys___init__ v_names).made.calm
def m_Keys_columns (v_self : KeysV) : Cmp Str :=
  .req ((∀ x1, ∀ (hx2 : x1 ∈ (charsL (Str.ofString "abc"))), v_self.names.length < sizeLine) ∧ ((((((charsL (Str.ofString "abc")).filter (fun (x1 : Nat) => (((v_self.names.filter (fun _ => true)).map (fun (x3 : Str) => (decide (x1 ∈ charsL x3)))).any id))).map (fun (x1 : Nat) => x1)).map cS).map (·.length)).sum + ((((charsL (Str.ofString "abc")).filter (fun (x1 : Nat) => (((v_self.names.filter (fun _ => true)).map (fun (x3 : Str) => (decide (x1 ∈ charsL x3)))).any id))).map (fun (x1 : Nat) => x1)).map cS).length * (Str.ofString "").length ≤ 16777216)) (.ret (Txt.join (Str.ofString "") ((((charsL (Str.ofString "abc")).filter (fun (x1 : Nat) => (((v_self.names.filter (fun _ => true)).map (fun (x3 : Str) => (decide (x1 ∈ charsL x3)))).any id))).map (fun (x1 : Nat) => x1)).map cS)))
def m_Keys_clash (v_self : KeysV) (v_row : Row) (v_other : Row) : Cmp Bool :=
  .req ((∀ x1, ∀ (hx2 : x1 ∈ v_self.names), (m_agree x1 v_row v_other).ok) ∧ (v_self.names.length < sizeLine)) (.ret (((v_self.names.filter (fun _ => true)).map (fun (x1 : Str) => (m_agree x1 v_row v_other).val)).any id))
def m_Keys_kept_by (v_self : KeysV) (v_rows : List Row) : Cmp Bool :=
  .req ((-(2 ^ 62) ≤ (v_rows.length : Int) ∧ (v_rows.length : Int) < 2 ^ 62)) (.bindR (forC (L := Unit) (R := Bool) (fun (v_at : Int) (_ : Unit) => .req ((-(2 ^ 62) ≤ (v_at + (1 : Int)) ∧ (v_at + (1 : Int)) < 2 ^ 62 ∧ -(2 ^ 62) ≤ (v_rows.length : Int) ∧ (v_rows.length : Int) < 2 ^ 62)) (.bindC (forC (L := Unit) (R := Bool) (fun (v_later : Int) (_ : Unit) => .req ((0 ≤ v_at ∧ v_at < (v_rows.length : Int)) ∧ (0 ≤ v_later ∧ v_later < (v_rows.length : Int)) ∧ ((m_Keys_clash v_self (ixL v_rows v_at) (ixL v_rows v_later)).ok)) (if (m_Keys_clash v_self (ixL v_rows v_at) (ixL v_rows v_later)).val = true then (.ret (.rt false)) else (.ret (.nx ())))) (rangeL (v_at + (1 : Int)) (v_rows.length : Int)) ()) (fun (_ : Unit) => .ret (.nx ())))) (rangeL 0 (v_rows.length : Int)) ()) (fun (_ : Unit) => .ret true))
def m_law_pool (v_script : List Int) (v_k : Int) (v_many : Int) : Cmp (List Int) :=
  .bnd ((0 : Int) : Int) fun v_cell => .bind (if (decide (v_k < (v_script.length : Int))) = true then (.req ((0 ≤ v_k ∧ v_k < (v_script.length : Int))) (.bnd ((ixL v_script v_k) : Int) fun v_cell => .ret v_cell)) else (.ret v_cell) : Cmp Int) (fun (v_cell : Int) => .bnd ((decide (v_cell ≥ (((10 : Int) : Int) ^ ((18 : Int) : Int).toNat))) : Bool) fun v_great => .bnd ([] : List Int) fun v_pool_here => .req ((-(2 ^ 62) ≤ v_many ∧ v_many < 2 ^ 62)) (.bind (forN (fun (v_j : Int) ((v_cell, v_pool_here) : Int × (List Int)) => if (v_great && (decide (v_cell > (0 : Int)))) = true then (.req ((v_pool_here.length < sizeLine)) (.bnd (v_pool_here ++ [(v_cell % (1000 : Int))]) fun v_pool_here => .bnd ((v_cell / (1000 : Int)) : Int) fun v_cell => .ret (v_cell, v_pool_here))) else (.bnd ((v_j + ((11 : Int) * v_k)) : Int) fun v_i => .bnd (((((v_cell * (37 : Int)) + (v_i * (71 : Int))) + (5 : Int)) % (509 : Int)) : Int) fun v_first => .req ((CMul v_first v_first) ∧ (v_pool_here.length < sizeLine)) (.bnd (v_pool_here ++ [((((v_first * v_first) + v_cell) + (v_i * (13 : Int))) % (499 : Int))]) fun v_pool_here => .ret (v_cell, v_pool_here)))) (rangeL 0 v_many) (v_cell, v_pool_here)) (fun ((v_cell, v_pool_here) : Int × (List Int)) => .ret v_pool_here)))
def m_law_clash (v_names : List Str) (v_row : Row) (v_other : Row) : Cmp Bool :=
  .bindR (forC (L := Unit) (R := Bool) (fun (v_name_here : Str) (_ : Unit) => .bnd (true : Bool) fun v_alike => .bind (forN (fun (v_letter : Nat) (v_alike : Bool) => .req ((0 ≤ (Txt.find (Str.ofString "abc") (cS v_letter)) ∧ (Txt.find (Str.ofString "abc") (cS v_letter)) < 3)) (if (!decide ((rowAt v_row (Txt.find (Str.ofString "abc") (cS v_letter))) = (rowAt v_other (Txt.find (Str.ofString "abc") (cS v_letter))))) = true then (.bnd (false : Bool) fun v_alike => .ret v_alike) else (.ret v_alike))) (charsL v_name_here) v_alike) (fun (v_alike : Bool) => if v_alike = true then (.ret (.rt true)) else (.ret (.nx ())))) v_names ()) (fun (_ : Unit) => .ret false)
def m_law_value (v_draw : Int) (v_base : Int) : Cmp Int :=
  if (decide ((v_draw % (11 : Int)) = (9 : Int))) = true then (.ret (-(((10 : Int) : Int) ^ ((30 : Int) : Int).toNat))) else (if (decide ((v_draw % (11 : Int)) = (10 : Int))) = true then (.ret (((10 : Int) : Int) ^ ((30 : Int) : Int).toNat)) else (.ret ((v_base + (v_draw % (11 : Int))) - (4 : Int))))
def m_law_rows (v_script : List Int) (v_start : Int) (v_many : Int) (v_base : Int) : Cmp (List Row) :=
  .bnd ([] : List Row) fun v_rows_here => .req ((-(2 ^ 62) ≤ v_many ∧ v_many < 2 ^ 62)) (.bind (forN (fun (v_k : Int) (v_rows_here : (List Row)) => .req (((m_law_pool v_script (v_start + v_k) (4 : Int)).ok)) (.bnd ((m_law_pool v_script (v_start + v_k) (4 : Int)).val : List Int) fun v_pool_here => .req ((∀ (hb4 : (decide (v_k > (0 : Int))) = true), 0 ≤ (3 : Int) ∧ (3 : Int) < (v_pool_here.length : Int))) (if ((decide (v_k > (0 : Int))) && (decide (((ixL v_pool_here (3 : Int)) % (5 : Int)) = (0 : Int)))) = true then (.req ((0 ≤ (0 : Int) ∧ (0 : Int) < (v_pool_here.length : Int)) ∧ (0 < v_k) ∧ (0 ≤ ((ixL v_pool_here (0 : Int)) % v_k) ∧ ((ixL v_pool_here (0 : Int)) % v_k) < (v_rows_here.length : Int)) ∧ (v_rows_here.length < sizeLine)) (.bnd (v_rows_here ++ [(ixL v_rows_here ((ixL v_pool_here (0 : Int)) % v_k))]) fun v_rows_here => .ret v_rows_here)) else (.req ((0 ≤ (0 : Int) ∧ (0 : Int) < (v_pool_here.length : Int)) ∧ ((m_law_value (ixL v_pool_here (0 : Int)) v_base).ok) ∧ (0 ≤ (1 : Int) ∧ (1 : Int) < (v_pool_here.length : Int)) ∧ ((m_law_value (ixL v_pool_here (1 : Int)) v_base).ok) ∧ (0 ≤ (2 : Int) ∧ (2 : Int) < (v_pool_here.length : Int)) ∧ ((m_law_value (ixL v_pool_here (2 : Int)) v_base).ok) ∧ (v_rows_here.length < sizeLine)) (.bnd (v_rows_here ++ [((m_law_value (ixL v_pool_here (0 : Int)) v_base).val, (m_law_value (ixL v_pool_here (1 : Int)) v_base).val, (m_law_value (ixL v_pool_here (2 : Int)) v_base).val)]) fun v_rows_here => .ret v_rows_here))))) (rangeL 0 v_many) v_rows_here) (fun (v_rows_here : (List Row)) => .ret v_rows_here))
def m_law_name (v_one : Int) (v_two : Int) (v_wrong : Bool) : Cmp Str :=
  .bnd ([(Str.ofString "a"), (Str.ofString "b"), (Str.ofString "c"), (Str.ofString "ab"), (Str.ofString "ac"), (Str.ofString "bc"), (Str.ofString "abc"), (Str.ofString "a"), (Str.ofString "bc"), (Str.ofString "c")] : List Str) fun v_names => .bind (if (v_wrong && (decide ((v_one % (3 : Int)) = (0 : Int)))) = true then (.bnd ([(Str.ofString ""), (Str.ofString "d"), (Str.ofString "ba"), (Str.ofString "aa"), (Str.ofString "abcd"), (Str.ofString "cb"), (Str.ofString "A"), (Str.ofString "a b"), (Str.ofString "acb"), (Str.ofString "ca"), (Str.ofString "bb"), (Str.ofString "abb"), (Str.ofString "aab"), (Str.ofString "bcc")] : List Str) fun v_names => .ret v_names) else (.ret v_names) : Cmp (List Str)) (fun (v_names : (List Str)) => .req ((0 < (v_names.length : Int)) ∧ (0 ≤ (v_two % (v_names.length : Int)) ∧ (v_two % (v_names.length : Int)) < (v_names.length : Int))) (.ret (ixL v_names (v_two % (v_names.length : Int)))))
def mx_law_made (v_names : List Str) : Cmp (Ctl Unit Unit KeysV) :=
  if (decide ((v_names.length : Int) = (0 : Int))) = true then (.req ((FlatX (mx_Keys___init__ ([] : List Str)).made.val)) (((mx_Keys___init__ ([] : List Str)).made).bindX fun v => .ret (.rt v))) else (if (decide ((v_names.length : Int) = (1 : Int))) = true then (.req ((0 ≤ (0 : Int) ∧ (0 : Int) < (v_names.length : Int)) ∧ (FlatX (mx_Keys___init__ ([(ixL v_names (0 : Int))] : List Str)).made.val)) (((mx_Keys___init__ ([(ixL v_names (0 : Int))] : List Str)).made).bindX fun v => .ret (.rt v))) else (if (decide ((v_names.length : Int) = (2 : Int))) = true then (.req ((0 ≤ (0 : Int) ∧ (0 : Int) < (v_names.length : Int)) ∧ (0 ≤ (1 : Int) ∧ (1 : Int) < (v_names.length : Int)) ∧ (FlatX (mx_Keys___init__ ([(ixL v_names (0 : Int)), (ixL v_names (1 : Int))] : List Str)).made.val)) (((mx_Keys___init__ ([(ixL v_names (0 : Int)), (ixL v_names (1 : Int))] : List Str)).made).bindX fun v => .ret (.rt v))) else (if (decide ((v_names.length : Int) = (3 : Int))) = true then (.req ((0 ≤ (0 : Int) ∧ (0 : Int) < (v_names.length : Int)) ∧ (0 ≤ (1 : Int) ∧ (1 : Int) < (v_names.length : Int)) ∧ (0 ≤ (2 : Int) ∧ (2 : Int) < (v_names.length : Int)) ∧ (FlatX (mx_Keys___init__ ([(ixL v_names (0 : Int)), (ixL v_names (1 : Int)), (ixL v_names (2 : Int))] : List Str)).made.val)) (((mx_Keys___init__ ([(ixL v_names (0 : Int)), (ixL v_names (1 : Int)), (ixL v_names (2 : Int))] : List Str)).made).bindX fun v => .ret (.rt v))) else (if (decide ((v_names.length : Int) = (4 : Int))) = true then (.req ((0 ≤ (0 : Int) ∧ (0 : Int) < (v_names.length : Int)) ∧ (0 ≤ (1 : Int) ∧ (1 : Int) < (v_names.length : Int)) ∧ (0 ≤ (2 : Int) ∧ (2 : Int) < (v_names.length : Int)) ∧ (0 ≤ (3 : Int) ∧ (3 : Int) < (v_names.length : Int)) ∧ (FlatX (mx_Keys___init__ ([(ixL v_names (0 : Int)), (ixL v_names (1 : Int)), (ixL v_names (2 : Int)), (ixL v_names (3 : Int))] : List Str)).made.val)) (((mx_Keys___init__ ([(ixL v_names (0 : Int)), (ixL v_names (1 : Int)), (ixL v_names (2 : Int)), (ixL v_names (3 : Int))] : List Str)).made).bindX fun v => .ret (.rt v))) else (.req ((0 ≤ (0 : Int) ∧ (0 : Int) < (v_names.length : Int)) ∧ (0 ≤ (1 : Int) ∧ (1 : Int) < (v_names.length : Int)) ∧ (0 ≤ (2 : Int) ∧ (2 : Int) < (v_names.length : Int)) ∧ (0 ≤ (3 : Int) ∧ (3 : Int) < (v_names.length : Int)) ∧ (0 ≤ (4 : Int) ∧ (4 : Int) < (v_names.length : Int)) ∧ (FlatX (mx_Keys___init__ ([(ixL v_names (0 : Int)), (ixL v_names (1 : Int)), (ixL v_names (2 : Int)), (ixL v_names (3 : Int)), (ixL v_names (4 : Int))] : List Str)).made.val)) (((mx_Keys___init__ ([(ixL v_names (0 : Int)), (ixL v_names (1 : Int)), (ixL v_names (2 : Int)), (ixL v_names (3 : Int)), (ixL v_names (4 : Int))] : List Str)).made).bindX fun v => .ret (.rt v)))))))
def m_law_made (v_names : List Str) : Cmp KeysV := (mx_law_made v_names).calm
def m_law_refused (v_names : List Str) : Cmp (List Str) :=
  .bindR (tryM (S := Unit) (L := Unit) (R := List Str) ((mx_law_made v_names).bindX fun _ => .ret (.nx ())) (fun er => onErrS 2 er fun v_e_name => if (false || ((!true) || (!true))) = true then (.ret [(Str.ofString "wrong")]) else (.ret [v_e_name]))) (fun (_ : Unit) => .ret [])
def m_law (v_script : List Int) : Cmp Bool :=
  .req (((m_law_pool v_script (0 : Int) (20 : Int)).ok)) (.bnd ((m_law_pool v_script (0 : Int) (20 : Int)).val : List Int) fun v_pool_here => .req ((0 ≤ (7 : Int) ∧ (7 : Int) < (v_pool_here.length : Int)) ∧ (-(2 ^ 62) ≤ ((ixL v_pool_here (7 : Int)) % (6 : Int)) ∧ ((ixL v_pool_here (7 : Int)) % (6 : Int)) < 2 ^ 62) ∧ (∀ x4, ∀ (hx5 : x4 ∈ (rangeL 0 ((ixL v_pool_here (7 : Int)) % (6 : Int)))), 0 ≤ ((10 : Int) + ((2 : Int) * x4)) ∧ ((10 : Int) + ((2 : Int) * x4)) < (v_pool_here.length : Int)) ∧ (∀ x4, ∀ (hx5 : x4 ∈ (rangeL 0 ((ixL v_pool_here (7 : Int)) % (6 : Int)))), 0 ≤ ((11 : Int) + ((2 : Int) * x4)) ∧ ((11 : Int) + ((2 : Int) * x4)) < (v_pool_here.length : Int)) ∧ (∀ x4, ∀ (hx5 : x4 ∈ (rangeL 0 ((ixL v_pool_here (7 : Int)) % (6 : Int)))), 0 ≤ (6 : Int) ∧ (6 : Int) < (v_pool_here.length : Int)) ∧ (∀ x4, ∀ (hx5 : x4 ∈ (rangeL 0 ((ixL v_pool_here (7 : Int)) % (6 : Int)))), (m_law_name (ixL v_pool_here ((10 : Int) + ((2 : Int) * x4))) (ixL v_pool_here ((11 : Int) + ((2 : Int) * x4))) (decide (((ixL v_pool_here (6 : Int)) % (2 : Int)) = (1 : Int)))).ok) ∧ ((rangeL 0 ((ixL v_pool_here (7 : Int)) % (6 : Int))).length < sizeLine)) (.bnd ((((rangeL 0 ((ixL v_pool_here (7 : Int)) % (6 : Int))).filter (fun _ => true)).map (fun (x4 : Int) => (m_law_name (ixL v_pool_here ((10 : Int) + ((2 : Int) * x4))) (ixL v_pool_here ((11 : Int) + ((2 : Int) * x4))) (decide (((ixL v_pool_here (6 : Int)) % (2 : Int)) = (1 : Int)))).val)) : List Str) fun v_names => .req ((v_names.length < sizeLine)) (.bnd (((v_names.filter (fun (x11 : Str) => (!decide (x11 ∈ ([(Str.ofString "a"), (Str.ofString "b"), (Str.ofString "c"), (Str.ofString "ab"), (Str.ofString "ac"), (Str.ofString "bc"), (Str.ofString "abc")] : List Str))))).map (fun (x11 : Str) => x11)) : List Str) fun v_wrong => .req (((m_law_refused v_names).ok) ∧ (∀ y16 ∈ ((m_law_refused v_names).val), PyData.strOk y16 = true) ∧ (∀ y16 ∈ (cutL v_wrong none (some (1 : Int))), PyData.strOk y16 = true)) (if (!decide (((m_law_refused v_names).val : List Str) = (cutL v_wrong none (some (1 : Int))))) = true then (.ret false) else (.bnd (((v_names.filter (fun (x20 : Str) => (!decide (x20 ∈ v_wrong)))).map (fun (x20 : Str) => x20)) : List Str) fun v_names => .req (((m_law_made v_names).ok)) (.bnd ((m_law_made v_names).val : KeysV) fun v_keys => .req ((∀ x24, ∀ (hx25 : x24 ∈ (charsL (Str.ofString "abc"))), (v_names.map (·.length)).sum + v_names.length * (Str.ofString "").length ≤ 16777216) ∧ ((((((charsL (Str.ofString "abc")).filter (fun (x24 : Nat) => (decide (x24 ∈ charsL (Txt.join (Str.ofString "") v_names))))).map (fun (x24 : Nat) => x24)).map cS).map (·.length)).sum + ((((charsL (Str.ofString "abc")).filter (fun (x24 : Nat) => (decide (x24 ∈ charsL (Txt.join (Str.ofString "") v_names))))).map (fun (x24 : Nat) => x24)).map cS).length * (Str.ofString "").length ≤ 16777216)) (.bnd ((Txt.join (Str.ofString "") ((((charsL (Str.ofString "abc")).filter (fun (x24 : Nat) => (decide (x24 ∈ charsL (Txt.join (Str.ofString "") v_names))))).map (fun (x24 : Nat) => x24)).map cS)) : Str) fun v_due => .req (((m_Keys_columns v_keys).ok) ∧ (∀ (hb30 : (!true) = false), (m_Keys_columns v_keys).ok)) (if ((!true) || (!decide ((m_Keys_columns v_keys).val = v_due))) = true then (.ret false) else (.req ((0 ≤ (8 : Int) ∧ (8 : Int) < (v_pool_here.length : Int)) ∧ ((m_law_rows v_script (1 : Int) ((ixL v_pool_here (8 : Int)) % (15 : Int)) (0 : Int)).ok)) (.bnd ((m_law_rows v_script (1 : Int) ((ixL v_pool_here (8 : Int)) % (15 : Int)) (0 : Int)).val : List Row) fun v_rows_here => .bnd (true : Bool) fun v_kept => .req ((-(2 ^ 62) ≤ (v_rows_here.length : Int) ∧ (v_rows_here.length : Int) < 2 ^ 62)) (.bindR (forC (L := Unit) (R := Bool) (fun (v_k : Int) (v_kept : Bool) => .bindC (forC (L := Bool) (R := Bool) (fun (v_other : Row) (v_kept : Bool) => .req ((0 ≤ v_k ∧ v_k < (v_rows_here.length : Int)) ∧ ((m_law_clash v_names (ixL v_rows_here v_k) v_other).ok)) (.bind (if (m_law_clash v_names (ixL v_rows_here v_k) v_other).val = true then (.bnd (false : Bool) fun v_kept => .ret v_kept) else (.ret v_kept) : Cmp Bool) (fun (v_kept : Bool) => .req (((m_Keys_clash v_keys (ixL v_rows_here v_k) v_other).ok) ∧ ((m_Keys_clash v_keys v_other (ixL v_rows_here v_k)).ok)) (.bindC (forC (L := Bool) (R := Bool) (fun (v_answer : Bool) (_ : Unit) => if ((!true) || (!decide (v_answer = (m_law_clash v_names (ixL v_rows_here v_k) v_other).val))) = true then (.ret (.rt false)) else (.ret (.nx ()))) [(m_Keys_clash v_keys (ixL v_rows_here v_k) v_other).val, (m_Keys_clash v_keys v_other (ixL v_rows_here v_k)).val] ()) (fun (_ : Unit) => .ret (.nx v_kept)))))) (cutL v_rows_here none (some v_k)) v_kept) (fun (v_kept : Bool) => .ret (.nx v_kept))) (rangeL 0 (v_rows_here.length : Int)) v_kept) (fun (v_kept : Bool) => .bnd (v_rows_here : List Row) fun v_table => .req (((m_Keys_kept_by v_keys v_table).ok)) (.bnd ((m_Keys_kept_by v_keys v_table).val : Bool) fun v_answer => if ((!true) || ((!decide (v_answer = v_kept)) || (!decide ((v_table : List Row) = v_rows_here)))) = true then (.ret false) else (.req ((0 ≤ (9 : Int) ∧ (9 : Int) < (v_pool_here.length : Int)) ∧ (-(2 ^ 62) ≤ ((ixL v_pool_here (9 : Int)) % (40 : Int)) ∧ ((ixL v_pool_here (9 : Int)) % (40 : Int)) < 2 ^ 62) ∧ ((rangeL 0 ((ixL v_pool_here (9 : Int)) % (40 : Int))).length < sizeLine)) (.bnd (((rangeL 0 ((ixL v_pool_here (9 : Int)) % (40 : Int))).filter (fun _ => true)).map (fun (x49 : Int) => (((100 : Int) + x49), ((100 : Int) + x49), ((100 : Int) + x49)))) fun (v_more : List (Int × Int × Int)) => .req ((v_rows_here.length + v_more.length ≤ sizeLine) ∧ ((v_rows_here ++ v_more).length + (cutL v_rows_here none (some (1 : Int))).length ≤ sizeLine) ∧ ((m_Keys_kept_by v_keys ((v_rows_here ++ v_more) ++ (cutL v_rows_here none (some (1 : Int))))).ok)) (.bnd ((m_Keys_kept_by v_keys ((v_rows_here ++ v_more) ++ (cutL v_rows_here none (some (1 : Int))))).val : Bool) fun v_answer => .bnd (((decide ((v_names.length : Int) > (0 : Int))) && (decide ((v_rows_here.length : Int) > (0 : Int)))) : Bool) fun v_twice => .req ((∀ (hb56 : true = true), ∀ (hb58 : (decide (v_answer = (v_kept && (!v_twice)))) = true), (m_Keys_kept_by v_keys []).ok)) (.ret (true && ((decide (v_answer = (v_kept && (!v_twice)))) && (decide ((m_Keys_kept_by v_keys []).val = true)))))))))))))))))))))
end DL

set_option Elab.async false
set_option linter.all false
set_option maxRecDepth 100000
set_option maxHeartbeats 4000000
namespace DL
open PySem PySem.Spec PyProof.Rows L2 TL
def top (i : Nat) : Stmt := PySem.Challenge.pw_unbettered_k09_keys_of_tables.main.body.getD i (.Pass ⟨0, 0, 0, 0⟩)
section
variable {P : Program} {w : World} {K : PySem.W.Frag} {mg : Str → Option Value} {base : Heap} {ad : Ads}
def ar_agree (ad : Ads) (L : Om) (ds : List D) (d : D) : Prop := ∃ (v_name : Str) (v_row : Row) (v_other : Row), ds = [D.str v_name, dRow v_row, dRow v_other] ∧ (m_agree v_name v_row v_other).ok ∧ d = D.bl ((m_agree v_name v_row v_other).val)
abbrev s_agree : Stmt := top 8
abbrev N_agree : List Str := ["name", "row", "other", "letter"]
theorem sc_agree : FnScope N_agree ["name", "row", "other"] (defScope s_agree) := ⟨rfl, rfl, rfl, by decide +kernel, rfl, by decide +kernel, by decide +kernel⟩
theorem ok_agree {f : Addr} {fd : FuncData} (F : Fun K "agree" "agree" s_agree f fd) (g_COLUMNS : ∃ t, mg "COLUMNS" = some (.str "abc" t)) (b_all : mg "all" = none) : FnOk P w K mg base CX0 (1) f fd ["name", "row", "other"] (spP K (ar_agree ad)) := by
  refine fn_pureV F sc_agree (fun L ds d h => ?_) (fun cdv A outer s H E B ds d hr h => ?_)
  · obtain ⟨v_name, v_row, v_other, rfl, _⟩ := h; rfl
  · obtain ⟨v_name, v_row, v_other, rfl, hok, rfl⟩ := h
    have nd := sc_agree.nd
    refine (show JC _ B (defBody s_agree) [some (D.str v_name), some (dRow v_row), some (dRow v_other), none] [] (aR (rtP D.bl)) (m_agree v_name v_row v_other) from ?_) hok
    unfold m_agree
    refine jc_req fun ⟨h3, h4⟩ => ?_
    exact jc_ret (d := D.bl (((((charsL v_name).filter (fun _ => true)).map (fun (x1 : Nat) => (decide ((rowAt v_row (Txt.find (Str.ofString "abc") (cS x1))) = (rowAt v_other (Txt.find (Str.ofString "abc") (cS x1))))))).all id) : Bool)) (ev_callB (cr_all rfl) (rc_all (Vs.vw vsI)) rfl b_all (by decide +kernel) (ea_cons (ev_new (en_lcT (F := D.bl) (pr := fun _ => true) (el := fun (x1 : Nat) => (decide ((rowAt v_row (Txt.find (Str.ofString "abc") (cS x1))) = (rowAt v_other (Txt.find (Str.ofString "abc") (cS x1)))))) [("letter", 3)] rfl nd (ei_chars (nm 0 rfl)) trivial (blkOk_by (by rfl)) (by rintro _ ⟨s, H, C, cl, fp, rfl⟩; exact (bnm 3 nd)) (by decide) (fun x1 hx2 => ⟨_, rfl, fun X' B' eL hX' => by obtain ⟨s, H, C, cl, fp, rfl⟩ := hX'; exact ets_nil, fun _ X' B' eL hX' => by obtain ⟨s, H, C, cl, fp, rfl⟩ := hX'; exact (ev_cmp op_eq rd_eqI (ev_ixT (nm 1 rfl) (ev_find (ev_globS rfl g_COLUMNS) (nm 3 rfl)) (atRow (h3 x1 hx2))) (ev_ixT (nm 2 rfl) (ev_find (ev_globS rfl g_COLUMNS) (nm 3 rfl)) (atRow (h3 x1 hx2))) (nomark _))⟩) h4)) ea_nil)) (.refl _)
def ax_Keys___init__ (ad : Ads) (L : Om) (ds : List D) (out : OutI) : Prop := ∃ (v_names : List Str), ds = [dU D.str v_names] ∧ (mx_Keys___init__ v_names).made.ok ∧ FlatX (mx_Keys___init__ v_names).made.val ∧ out = outXI (ceT ad) fFKeys fVKeys (mx_Keys___init__ v_names).made.val
def ar_Keys___init__ (ad : Ads) (L : Om) (ds : List D) (ns : List Str) (fs : List D) : Prop := ∃ (v_names : List Str), ds = [dU D.str v_names] ∧ (m_Keys___init__ v_names).ok ∧ ns = fFKeys ∧ fs = fVKeys (m_Keys___init__ v_names).val
abbrev s_Keys___init__ : Stmt := inClass (top 7) 0
abbrev N_Keys___init__ : List Str := ["self", "names", "name"]
theorem sc_Keys___init__ : FnScope N_Keys___init__ ["self", "names"] (defScope s_Keys___init__) := ⟨rfl, rfl, rfl, by decide +kernel, rfl, by decide +kernel, by decide +kernel⟩
theorem okx_Keys___init__ {f : Addr} {fd : FuncData} (F : Fun K "__init__" "Keys.__init__" s_Keys___init__ f fd) (hb : ∀ us rest : List Value, us.length = (["self"] : List Str).length → bindArgs fd ⟨us ++ rest, []⟩ = (newTuple rest >>= fun t => pure ((["self"] : List Str).zip us ++ [(("names" : Str), t)]))) (g_KEY_NAMES : mg "KEY_NAMES" = some (.ref ad.aKEY_NAMES)) (ktu_KEY_NAMES : KTupS K ad.aKEY_NAMES keyNames) (e_BadKey : PySem.ErX.ErrT P K mg ad.CBadKey ad.f_BadKey___init__ "name") (g_BadKey : mg "BadKey" = some (.ref ad.CBadKey)) (k_Keys : Cls K ad.CKeys) (na_Keys_names : NoAttr K ad.CKeys "names") : FnR P w K mg base (L2.CX P w) (1) f (spXI K ad.CKeys (fun L es out => es.length ≤ sizeLine ∧ ax_Keys___init__ ad L [.tup es] out)) := by
  refine star_init (Ar := ax_Keys___init__ ad) F sc_Keys___init__ hb (body_initX (st := s_Keys___init__) fun cdv A outer s H E B x_self ds out hr tk po_ h => ?_)
  · obtain ⟨v_names, rfl, hok, hfl, rfl⟩ := h
    have nd := sc_Keys___init__.nd
    refine j_outXI hok (show JC _ B (defBody s_Keys___init__) [some (.rf x_self), some (dU D.str v_names), none] [(x_self, .ins ad.CKeys [] [])] (aC (S := KeysV) (L := Unit) (R := Unit) (fun v _ O' => ∃ fs' O1, O' = O1 ++ [(x_self, .ins ad.CKeys fFKeys fs')] ∧ FrzL O1 fs' (fVKeys v)) (fun _ _ _ => False) (fun _ _ _ => False) (exq (ceT ad))) (mx_Keys___init__ v_names) from ?_)
    unfold mx_Keys___init__
    refine jc_seqC (st1 := (fun (_ : Unit) (ρ : List (Option D)) (O : Om) => ρ = [some (.rf x_self), some (dU D.str v_names), none] ∧ O = [(x_self, M.ins ad.CKeys [] [])])) (jc1_forC (E := D.str) po_ rfl (ei_tup (nm 1 rfl)) (bnm 2 nd) (fun _ _ _ hst => by obtain ⟨rfl, rfl⟩ := hst; exact trivial) ⟨_, (wk_some rfl (wk_some rfl (wk_nn wk_nil))), rfl, rfl⟩ (fun v_name _ _ _ hst => ?_)) (fun _ _ _ hst => ?_)
    · obtain ⟨rfl, rfl⟩ := hst
      refine ⟨_, rfl, ?_⟩
      show JC _ _ _ [some (.rf x_self), some (dU D.str v_names), some (D.str v_name)] _ _ _
      refine jc_one (jc1_ite (et_cmp op_notIn_seq (rd_notinS (.inr rfl)) (nm 2 rfl) (ev_glob (v := .ref ad.aKEY_NAMES) rfl g_KEY_NAMES rfl (fun _ => rp_ktup ktu_KEY_NAMES)) (by rfl)) (fun hc1 => ?_) (fun hc1 => ?_))
      · exact jc_raise (ce := ceT ad) (er := 2) (m := .non) rfl e_BadKey g_BadKey hr tk rfl (nm 2 rfl) (And.intro rfl (And.intro rfl rfl))
      · exact jc_nil ⟨_, (wk_some rfl (wk_some rfl (wk_none wk_nil))), rfl, rfl⟩
    obtain ⟨rfl, rfl⟩ := hst
    show JC _ _ _ [some (.rf x_self), some (dU D.str v_names), none] _ _ _
    refine jc_fldNew (E := dU D.str) (v := (v_names : List Str)) (nm 0 rfl) (nm 1 rfl) k_Keys na_Keys_names (fun _ => .head) (by decide +kernel) (by decide) (fun v_self_names => ?_)
    exact jc_nil ⟨_, wk_refl, _, [], rfl, .refl _⟩
def ar_Keys_columns (ad : Ads) (L : Om) (ds : List D) (d : D) : Prop := ∃ (v_self : KeysV), ds = [(eKeys ad) v_self] ∧ (m_Keys_columns v_self).ok ∧ d = D.str ((m_Keys_columns v_self).val)
abbrev s_Keys_columns : Stmt := inClass (top 7) 1
abbrev N_Keys_columns : List Str := ["self", "letter", "name"]
theorem sc_Keys_columns : FnScope N_Keys_columns ["self"] (defScope s_Keys_columns) := ⟨rfl, rfl, rfl, by decide +kernel, rfl, by decide +kernel, by decide +kernel⟩
theorem ok_Keys_columns {f : Addr} {fd : FuncData} (F : Fun K "columns" "Keys.columns" s_Keys_columns f fd) (g_COLUMNS : ∃ t, mg "COLUMNS" = some (.str "abc" t)) (k_Keys : Cls K ad.CKeys) (na_Keys_names : NoAttr K ad.CKeys "names") (b_any : mg "any" = none) : FnOk P w K mg base CX0 (1) f fd ["self"] (spP K (ar_Keys_columns ad)) := by
  refine fn_pureV F sc_Keys_columns (fun L ds d h => ?_) (fun cdv A outer s H E B ds d hr h => ?_)
  · obtain ⟨v_self, rfl, _⟩ := h; rfl
  · obtain ⟨v_self, rfl, hok, rfl⟩ := h
    have nd := sc_Keys_columns.nd
    refine (show JC _ B (defBody s_Keys_columns) [some ((eKeys ad) v_self), none, none] [] (aR (rtP D.str)) (m_Keys_columns v_self) from ?_) hok
    unfold m_Keys_columns
    refine jc_req fun ⟨h5, h7⟩ => ?_
    exact jc_ret (d := D.str ((Txt.join (Str.ofString "") ((((charsL (Str.ofString "abc")).filter (fun (x1 : Nat) => (((v_self.names.filter (fun _ => true)).map (fun (x3 : Str) => (decide (x1 ∈ charsL x3)))).any id))).map (fun (x1 : Nat) => x1)).map cS)) : Str)) (ev_join (ys := (((charsL (Str.ofString "abc")).filter (fun (x1 : Nat) => (((v_self.names.filter (fun _ => true)).map (fun (x3 : Str) => (decide (x1 ∈ charsL x3)))).any id))).map (fun (x1 : Nat) => x1)).map cS) ev_str (ev_conv (d' := .lst (((((charsL (Str.ofString "abc")).filter (fun (x1 : Nat) => (((v_self.names.filter (fun _ => true)).map (fun (x3 : Str) => (decide (x1 ∈ charsL x3)))).any id))).map (fun (x1 : Nat) => x1)).map cS).map D.str)) (ev_new (en_lcT (F := eC) (pr := fun (x1 : Nat) => (((v_self.names.filter (fun _ => true)).map (fun (x3 : Str) => (decide (x1 ∈ charsL x3)))).any id)) (el := fun (x1 : Nat) => x1) [("letter", 1)] rfl nd (ei_chars (ev_globS rfl g_COLUMNS)) trivial (blkOk_by (by rfl)) (by rintro _ ⟨s, H, C, cl, fp, rfl⟩; exact (bnm 1 nd)) (by decide) (fun x1 hx2 => ⟨_, rfl, fun X' B' eL hX' => by obtain ⟨s, H, C, cl, fp, rfl⟩ := hX'; exact (ets_one (et_of (ev_callB (cr_any rfl) (rc_any (Vs.vw vsI)) rfl b_any (by decide +kernel) (ea_cons (ev_new (en_lcT (F := D.bl) (pr := fun _ => true) (el := fun (x3 : Str) => (decide (x1 ∈ charsL x3))) [("name", 2)] rfl nd (ei_tup (ev_fld (i := 0) (nm 0 rfl) (.inl rfl) k_Keys na_Keys_names (by decide +kernel) rfl)) trivial (blkOk_by (by rfl)) (by rintro _ ⟨s, H, C, cl, fp, rfl⟩; exact (bnm 2 nd)) (by decide) (fun x3 hx4 => ⟨_, rfl, fun X' B' eL hX' => by obtain ⟨s, H, C, cl, fp, rfl⟩ := hX'; exact ets_nil, fun _ X' B' eL hX' => by obtain ⟨s, H, C, cl, fp, rfl⟩ := hX'; exact (ev_cmp op_in_sign rd_inC (nm 1 rfl) (nm 2 rfl) (by rfl))⟩) (h5 x1 hx2))) ea_nil)))), fun hp6 X' B' eL hX' => by obtain ⟨s, H, C, cl, fp, rfl⟩ := hX'; exact (nm 1 rfl)⟩) (by first | decide | (show 3 < sizeLine; decide)))) (by simp only [List.map_map]; rfl)) (Vw.vq (Vs.vw vsI)) h7) (.refl _)
def ar_Keys_clash (ad : Ads) (L : Om) (ds : List D) (d : D) : Prop := ∃ (v_self : KeysV) (v_row : Row) (v_other : Row), ds = [(eKeys ad) v_self, dRow v_row, dRow v_other] ∧ (m_Keys_clash v_self v_row v_other).ok ∧ d = D.bl ((m_Keys_clash v_self v_row v_other).val)
abbrev s_Keys_clash : Stmt := inClass (top 7) 2
abbrev N_Keys_clash : List Str := ["self", "row", "other", "name"]
theorem sc_Keys_clash : FnScope N_Keys_clash ["self", "row", "other"] (defScope s_Keys_clash) := ⟨rfl, rfl, rfl, by decide +kernel, rfl, by decide +kernel, by decide +kernel⟩
theorem ok_Keys_clash {f : Addr} {fd : FuncData} (F : Fun K "clash" "Keys.clash" s_Keys_clash f fd) (k_Keys : Cls K ad.CKeys) (na_Keys_names : NoAttr K ad.CKeys "names") (c_agree : Cal P w K mg base CX0 1 "agree" (spP K (ar_agree ad))) (b_any : mg "any" = none) : FnOk P w K mg base CX0 (2) f fd ["self", "row", "other"] (spP K (ar_Keys_clash ad)) := by
  refine fn_pureV F sc_Keys_clash (fun L ds d h => ?_) (fun cdv A outer s H E B ds d hr h => ?_)
  · obtain ⟨v_self, v_row, v_other, rfl, _⟩ := h; rfl
  · obtain ⟨v_self, v_row, v_other, rfl, hok, rfl⟩ := h
    have nd := sc_Keys_clash.nd
    refine (show JC _ B (defBody s_Keys_clash) [some ((eKeys ad) v_self), some (dRow v_row), some (dRow v_other), none] [] (aR (rtP D.bl)) (m_Keys_clash v_self v_row v_other) from ?_) hok
    unfold m_Keys_clash
    refine jc_req fun ⟨h3, h4⟩ => ?_
    exact jc_ret (d := D.bl ((((v_self.names.filter (fun _ => true)).map (fun (x1 : Str) => (m_agree x1 v_row v_other).val)).any id) : Bool)) (ev_callB (cr_any rfl) (rc_any (Vs.vw vsI)) rfl b_any (by decide +kernel) (ea_cons (ev_new (en_lcT (F := D.bl) (pr := fun _ => true) (el := fun (x1 : Str) => (m_agree x1 v_row v_other).val) [("name", 3)] rfl nd (ei_tup (ev_fld (i := 0) (nm 0 rfl) (.inl rfl) k_Keys na_Keys_names (by decide +kernel) rfl)) trivial (blkOk_by (by rfl)) (by rintro _ ⟨s, H, C, cl, fp, rfl⟩; exact (bnm 3 nd)) (by decide) (fun x1 hx2 => ⟨_, rfl, fun X' B' eL hX' => by obtain ⟨s, H, C, cl, fp, rfl⟩ := hX'; exact ets_nil, fun _ X' B' eL hX' => by obtain ⟨s, H, C, cl, fp, rfl⟩ := hX'; exact (ev_call c_agree (hr.mono (by first | decide | omega)) rfl (ea_cons (nm 3 rfl) (ea_cons (nm 1 rfl) (ea_cons (nm 2 rfl) ea_nil))) (by exact ⟨x1, v_row, v_other, rfl, (h3 x1 hx2), rfl⟩))⟩) h4)) ea_nil)) (.refl _)
def ar_Keys_kept_by (ad : Ads) (L : Om) (ds : List D) (d : D) : Prop := ∃ (v_self : KeysV) (d_rows : D) (v_rows : List Row), ds = [(eKeys ad) v_self, d_rows] ∧ Vs L d_rows (v_rows.map dRow) ∧ (m_Keys_kept_by v_self v_rows).ok ∧ d = D.bl ((m_Keys_kept_by v_self v_rows).val)
abbrev s_Keys_kept_by : Stmt := inClass (top 7) 3
abbrev N_Keys_kept_by : List Str := ["self", "rows", "at", "later"]
theorem sc_Keys_kept_by : FnScope N_Keys_kept_by ["self", "rows"] (defScope s_Keys_kept_by) := ⟨rfl, rfl, rfl, by decide +kernel, rfl, by decide +kernel, by decide +kernel⟩
theorem ok_Keys_kept_by {f : Addr} {fd : FuncData} (F : Fun K "kept_by" "Keys.kept_by" s_Keys_kept_by f fd) (b_len : mg "len" = none) (b_range : mg "range" = none) (Fm_Keys_clash : Fok P w K mg base CX0 2 ad.f_Keys_clash (spP K (ar_Keys_clash ad))) (mt_Keys_clash : Meth K ad.CKeys "clash" ad.f_Keys_clash) (k_Keys : Cls K ad.CKeys) : FnOk P w K mg base CX0 (4) f fd ["self", "rows"] (spP K (ar_Keys_kept_by ad)) := by
  refine fn_pureV F sc_Keys_kept_by (fun L ds d h => ?_) (fun cdv A outer s H E B ds d hr h => ?_)
  · obtain ⟨v_self, d_rows, v_rows, rfl, _⟩ := h; rfl
  · obtain ⟨v_self, d_rows, v_rows, rfl, w_rows, hok, rfl⟩ := h
    have nd := sc_Keys_kept_by.nd
    refine (show JC _ B (defBody s_Keys_kept_by) [some ((eKeys ad) v_self), some (d_rows), none, none] [] (aR (rtP D.bl)) (m_Keys_kept_by v_self v_rows) from ?_) hok
    unfold m_Keys_kept_by
    refine jc_req fun h1 => ?_
    refine jc_seqR (st1 := (fun (_ : Unit) (ρ : List (Option D)) (O : Om) => ρ = [some ((eKeys ad) v_self), some (d_rows), none, none] ∧ O = [])) (sl := fun (_ : Unit) _ _ => False) (ex := fun _ _ _ _ _ _ => False) (jc1_forC (E := D.int) PassesOwn.never rfl (ei_rng1 (by rfl) b_range (ea_cons (ev_conv (ev_callB call_len_seq (rc_len (Vw.vq (Vs.vw (vsL w_rows)))) rfl b_len PySem.boot_len (ea_cons (nm 1 rfl) ea_nil)) (by rw [List.length_map])) ea_nil) h1) (bnm 2 nd) (fun _ _ _ hst => by obtain ⟨rfl, rfl⟩ := hst; exact trivial) ⟨_, (wk_some rfl (wk_some rfl (wk_nn (wk_nn wk_nil)))), rfl, rfl⟩ (fun v_at _ _ _ hst => ?_)) (fun _ _ _ hst => ?_)
    · obtain ⟨rfl, rfl⟩ := hst
      refine ⟨_, rfl, ?_⟩
      show JC _ _ _ [some ((eKeys ad) v_self), some (d_rows), some (D.int v_at), none] _ _ _
      refine jc_req fun h2 => ?_
      refine jc_seqC (st1 := (fun (_ : Unit) (ρ : List (Option D)) (O : Om) => ρ = [some ((eKeys ad) v_self), some (d_rows), some (D.int v_at), none] ∧ O = [])) (jc1_forC (E := D.int) PassesOwn.never rfl (ei_rng2 (by rfl) b_range (ea_cons (ev_op op_add rd_I0 (nm 2 rfl) ev_int) (ea_cons (ev_conv (ev_callB call_len_seq (rc_len (Vw.vq (Vs.vw (vsL w_rows)))) rfl b_len PySem.boot_len (ea_cons (nm 1 rfl) ea_nil)) (by rw [List.length_map])) ea_nil)) h2) (bnm 3 nd) (fun _ _ _ hst => by obtain ⟨rfl, rfl⟩ := hst; exact trivial) ⟨_, (wk_some rfl (wk_some rfl (wk_some rfl (wk_nn wk_nil)))), rfl, rfl⟩ (fun v_later _ _ _ hst => ?_)) (fun _ _ _ hst => ?_)
      · obtain ⟨rfl, rfl⟩ := hst
        refine ⟨_, rfl, ?_⟩
        show JC _ _ _ [some ((eKeys ad) v_self), some (d_rows), some (D.int v_at), some (D.int v_later)] _ _ _
        refine jc_req fun ⟨h3, h4, h5⟩ => ?_
        refine jc_one (jc1_ite (et_of (ev_meth (nm 0 rfl) k_Keys mt_Keys_clash Fm_Keys_clash (hr.mono (by first | decide | omega)) (ea_cons (ev_ixL (nm 1 rfl) (nm 2 rfl) (Vs.vw (vsL w_rows)) (atG (E := dRow) h3)) (ea_cons (ev_ixL (nm 1 rfl) (nm 3 rfl) (Vs.vw (vsL w_rows)) (atG (E := dRow) h4)) ea_nil)) (by decide +kernel) (by exact ⟨v_self, (ixL v_rows v_at), (ixL v_rows v_later), rfl, h5, rfl⟩) _)) (fun hc6 => ?_) (fun hc6 => ?_))
        · exact jc_ret (d := D.bl (false : Bool)) ev_bl (.refl _)
        · exact jc_nil ⟨_, (wk_some rfl (wk_some rfl (wk_some rfl (wk_none wk_nil)))), rfl, rfl⟩
      obtain ⟨rfl, rfl⟩ := hst
      show JC _ _ _ [some ((eKeys ad) v_self), some (d_rows), some (D.int v_at), none] _ _ _
      exact jc_nil ⟨_, (wk_some rfl (wk_some rfl (wk_none (wk_nn wk_nil)))), rfl, rfl⟩
    obtain ⟨rfl, rfl⟩ := hst
    show JC _ _ _ [some ((eKeys ad) v_self), some (d_rows), none, none] _ _ _
    exact jc_ret (d := D.bl (true : Bool)) ev_bl (.refl _)
def ar_law_pool (ad : Ads) (L : Om) (ds : List D) (es : List D) : Prop := ∃ (d_script : D) (v_script : List Int) (v_k : Int) (v_many : Int), ds = [d_script, D.int v_k, D.int v_many] ∧ Vw L d_script (v_script.map D.int) ∧ (m_law_pool v_script v_k v_many).ok ∧ es = (m_law_pool v_script v_k v_many).val.map D.int
abbrev s_law_pool : Stmt := top 10
abbrev N_law_pool : List Str := ["_law_script", "_law_k", "_law_many", "_law_cell", "_law_great", "_law_pool_here", "_law_j", "_law_i", "_law_first"]
theorem sc_law_pool : FnScope N_law_pool ["_law_script", "_law_k", "_law_many"] (defScope s_law_pool) := ⟨rfl, rfl, rfl, by decide +kernel, rfl, by decide +kernel, by decide +kernel⟩
theorem ok_law_pool {f : Addr} {fd : FuncData} (F : Fun K "_law_pool" "_law_pool" s_law_pool f fd) (b_len : mg "len" = none) (b_range : mg "range" = none) (b_int : mg "int" = none) : FnOk P w K mg base CX0 (1) f fd ["_law_script", "_law_k", "_law_many"] (spN K (ar_law_pool ad)) := by
  refine fn_newV F sc_law_pool (fun L ds d h => ?_) (fun cdv A outer s H E B ds d hr h => ?_)
  · obtain ⟨d_script, v_script, v_k, v_many, rfl, _⟩ := h; rfl
  · obtain ⟨d_script, v_script, v_k, v_many, rfl, w_script, hok, rfl⟩ := h
    have nd := sc_law_pool.nd
    refine (show JC _ B (defBody s_law_pool) [some (d_script), some (D.int v_k), some (D.int v_many), none, none, none, none, none, none] [] (aR (rtN D.int)) (m_law_pool v_script v_k v_many) from ?_) hok
    unfold m_law_pool
    refine jc_set (E := D.int) (v := ((0 : Int) : Int)) 3 nd ev_int (fun v_cell => ?_)
    show JC _ _ _ [some (d_script), some (D.int v_k), some (D.int v_many), some (D.int v_cell), none, none, none, none, none] _ _ _
    refine jc_seqN (st1 := (fun (v_cell : Int) (ρ : List (Option D)) (O : Om) => ρ = [some (d_script), some (D.int v_k), some (D.int v_many), some (D.int v_cell), none, none, none, none, none] ∧ O = [])) (jc1_ite (et_cmp op_lt rd_B0 (nm 1 rfl) (ev_conv (ev_callB call_len_seq (rc_len (Vw.vq (vwL w_script))) rfl b_len PySem.boot_len (ea_cons (nm 0 rfl) ea_nil)) (by rw [List.length_map])) (nomark _)) (fun hc1 => ?_) (fun hc1 => ?_)) (fun v_cell _ _ hst => ?_)
    · refine jc_req fun h2 => ?_
      refine jc_set (E := D.int) (v := ((ixL v_script v_k) : Int)) 3 nd (ev_ixL (nm 0 rfl) (nm 1 rfl) (vwL w_script) (atG (E := D.int) h2)) (fun v_cell => ?_)
      show JC _ _ _ [some (d_script), some (D.int v_k), some (D.int v_many), some (D.int v_cell), none, none, none, none, none] _ _ _
      exact jc_nil ⟨_, (wk_some rfl (wk_some rfl (wk_some rfl (wk_some rfl (wk_nn (wk_nn (wk_nn (wk_nn (wk_nn wk_nil))))))))), rfl, rfl⟩
    · exact jc_nil ⟨_, (wk_some rfl (wk_some rfl (wk_some rfl (wk_some rfl (wk_nn (wk_nn (wk_nn (wk_nn (wk_nn wk_nil))))))))), rfl, rfl⟩
    obtain ⟨rfl, rfl⟩ := hst
    show JC _ _ _ [some (d_script), some (D.int v_k), some (D.int v_many), some (D.int v_cell), none, none, none, none, none] _ _ _
    refine jc_set (E := D.bl) (v := ((decide (v_cell ≥ (((10 : Int) : Int) ^ ((18 : Int) : Int).toNat))) : Bool)) 4 nd (ev_cmp op_ge rd_B0 (nm 3 rfl) (ev_op op_pow (rd_I ⟨by decide, by decide, by decide⟩) ev_int ev_int) (nomark _)) (fun v_great => ?_)
    show JC _ _ _ [some (d_script), some (D.int v_k), some (D.int v_many), some (D.int v_cell), some (D.bl v_great), none, none, none, none] _ _ _
    refine jc_setN (E := D.int) 5 nd (en_lst ea_nil (by show 0 ≤ sizeLine; decide)) (fun q3 v_pool_here _ => ?_)
    show JC _ _ _ [some (d_script), some (D.int v_k), some (D.int v_many), some (D.int v_cell), some (D.bl v_great), some (.rf q3), none, none, none] _ _ _
    refine jc_req fun h4 => ?_
    refine jc_seqN (st1 := (fun ((v_cell, v_pool_here) : Int × (List Int)) (ρ : List (Option D)) (O : Om) => ρ = [some (d_script), some (D.int v_k), some (D.int v_many), some (D.int v_cell), some (D.bl v_great), some (.rf q3), none, none, none] ∧ O = [(q3, M.lst (v_pool_here.map D.int))])) (jc1_for (E := D.int) PassesOwn.never rfl (ei_rng1 (by rfl) b_range (ea_cons (nm 2 rfl) ea_nil) h4) (bnm 6 nd) (fun ⟨v_cell, v_pool_here⟩ _ _ hst => by obtain ⟨rfl, rfl⟩ := hst; exact trivial) ⟨_, (wk_some rfl (wk_some rfl (wk_some rfl (wk_some rfl (wk_some rfl (wk_some rfl (wk_nn (wk_nn (wk_nn wk_nil))))))))), rfl, rfl⟩ (fun v_j ⟨v_cell, v_pool_here⟩ _ _ hst => ?_)) (fun ⟨v_cell, v_pool_here⟩ _ _ hst => ?_)
    · obtain ⟨rfl, rfl⟩ := hst
      refine ⟨_, rfl, ?_⟩
      show JC _ _ _ [some (d_script), some (D.int v_k), some (D.int v_many), some (D.int v_cell), some (D.bl v_great), some (.rf q3), some (D.int v_j), none, none] _ _ _
      refine jc_one (jc1_ite (et_w (ew_and (et_of (nm 4 rfl)) (fun hb5 => (ew_and1 (et_cmp op_gt rd_B0 (nm 3 rfl) ev_int (nomark _)))))) (fun hc6 => ?_) (fun hc6 => ?_))
      · refine jc_req fun h7 => ?_
        refine jc_append (E := D.int) (v := (v_cell % (1000 : Int))) (nm 5 rfl) (.head _) (ev_op op_mod (rd_I (by decide)) (ev_callTy call_int1 rc_int (by rfl) b_int (by decide +kernel) (ea_cons (nm 3 rfl) ea_nil)) ev_int) (fun _ => .head) h7 (fun v_pool_here => ?_)
        refine jc_set (E := D.int) (v := ((v_cell / (1000 : Int)) : Int)) 3 nd (ev_op op_fdiv (rd_I ⟨by decide, by decide⟩) (nm 3 rfl) ev_int) (fun v_cell => ?_)
        show JC _ _ _ [some (d_script), some (D.int v_k), some (D.int v_many), some (D.int v_cell), some (D.bl v_great), some (.rf q3), some (D.int v_j), none, none] _ _ _
        exact jc_nil ⟨_, (wk_some rfl (wk_some rfl (wk_some rfl (wk_some rfl (wk_some rfl (wk_some rfl (wk_none (wk_nn (wk_nn wk_nil))))))))), rfl, rfl⟩
      · refine jc_set (E := D.int) (v := ((v_j + ((11 : Int) * v_k)) : Int)) 7 nd (ev_op op_add rd_I0 (nm 6 rfl) (ev_op op_mul (rd_I (.inl ⟨by decide, by decide⟩)) ev_int (nm 1 rfl))) (fun v_i => ?_)
        show JC _ _ _ [some (d_script), some (D.int v_k), some (D.int v_many), some (D.int v_cell), some (D.bl v_great), some (.rf q3), some (D.int v_j), some (D.int v_i), none] _ _ _
        refine jc_set (E := D.int) (v := (((((v_cell * (37 : Int)) + (v_i * (71 : Int))) + (5 : Int)) % (509 : Int)) : Int)) 8 nd (ev_op op_mod (rd_I (by decide)) (ev_callTy call_int1 rc_int (by rfl) b_int (by decide +kernel) (ea_cons (ev_op op_add rd_I0 (ev_op op_add rd_I0 (ev_op op_mul (rd_I (.inr ⟨by decide, by decide⟩)) (nm 3 rfl) ev_int) (ev_op op_mul (rd_I (.inr ⟨by decide, by decide⟩)) (nm 7 rfl) ev_int)) ev_int) ea_nil)) ev_int) (fun v_first => ?_)
        show JC _ _ _ [some (d_script), some (D.int v_k), some (D.int v_many), some (D.int v_cell), some (D.bl v_great), some (.rf q3), some (D.int v_j), some (D.int v_i), some (D.int v_first)] _ _ _
        refine jc_req fun ⟨h8, h9⟩ => ?_
        refine jc_append (E := D.int) (v := ((((v_first * v_first) + v_cell) + (v_i * (13 : Int))) % (499 : Int))) (nm 5 rfl) (.head _) (ev_op op_mod (rd_I (by decide)) (ev_callTy call_int1 rc_int (by rfl) b_int (by decide +kernel) (ea_cons (ev_op op_add rd_I0 (ev_op op_add rd_I0 (ev_op op_mul (rd_I h8) (nm 8 rfl) (nm 8 rfl)) (nm 3 rfl)) (ev_op op_mul (rd_I (.inr ⟨by decide, by decide⟩)) (nm 7 rfl) ev_int)) ea_nil)) ev_int) (fun _ => .head) h9 (fun v_pool_here => ?_)
        exact jc_nil ⟨_, (wk_some rfl (wk_some rfl (wk_some rfl (wk_some rfl (wk_some rfl (wk_some rfl (wk_none (wk_none (wk_none wk_nil))))))))), rfl, rfl⟩
    obtain ⟨rfl, rfl⟩ := hst
    show JC _ _ _ [some (d_script), some (D.int v_k), some (D.int v_many), some (D.int v_cell), some (D.bl v_great), some (.rf q3), none, none, none] _ _ _
    exact jc_ret (nm 5 rfl) ⟨_, rfl, rfl⟩
def ar_law_clash (ad : Ads) (L : Om) (ds : List D) (d : D) : Prop := ∃ (d_names : D) (v_names : List Str) (v_row : Row) (v_other : Row), ds = [d_names, dRow v_row, dRow v_other] ∧ Vs L d_names (v_names.map D.str) ∧ (m_law_clash v_names v_row v_other).ok ∧ d = D.bl ((m_law_clash v_names v_row v_other).val)
abbrev s_law_clash : Stmt := top 11
abbrev N_law_clash : List Str := ["_law_names", "_law_row", "_law_other", "_law_name_here", "_law_alike", "_law_letter"]
theorem sc_law_clash : FnScope N_law_clash ["_law_names", "_law_row", "_law_other"] (defScope s_law_clash) := ⟨rfl, rfl, rfl, by decide +kernel, rfl, by decide +kernel, by decide +kernel⟩
theorem ok_law_clash {f : Addr} {fd : FuncData} (F : Fun K "_law_clash" "_law_clash" s_law_clash f fd)  : FnOk P w K mg base CX0 (1) f fd ["_law_names", "_law_row", "_law_other"] (spP K (ar_law_clash ad)) := by
  refine fn_pureV F sc_law_clash (fun L ds d h => ?_) (fun cdv A outer s H E B ds d hr h => ?_)
  · obtain ⟨d_names, v_names, v_row, v_other, rfl, _⟩ := h; rfl
  · obtain ⟨d_names, v_names, v_row, v_other, rfl, w_names, hok, rfl⟩ := h
    have nd := sc_law_clash.nd
    refine (show JC _ B (defBody s_law_clash) [some (d_names), some (dRow v_row), some (dRow v_other), none, none, none] [] (aR (rtP D.bl)) (m_law_clash v_names v_row v_other) from ?_) hok
    unfold m_law_clash
    refine jc_seqR (st1 := (fun (_ : Unit) (ρ : List (Option D)) (O : Om) => ρ = [some (d_names), some (dRow v_row), some (dRow v_other), none, none, none] ∧ O = [])) (sl := fun (_ : Unit) _ _ => False) (ex := fun _ _ _ _ _ _ => False) (jc1_forC (E := D.str) PassesOwn.never rfl (ei_list (nm 0 rfl) (Vs.vw (vsL w_names))) (bnm 3 nd) (fun _ _ _ hst => by obtain ⟨rfl, rfl⟩ := hst; exact (Vs.vw (vsL w_names))) ⟨_, (wk_some rfl (wk_some rfl (wk_some rfl (wk_nn (wk_nn (wk_nn wk_nil)))))), rfl, rfl⟩ (fun v_name_here _ _ _ hst => ?_)) (fun _ _ _ hst => ?_)
    · obtain ⟨rfl, rfl⟩ := hst
      refine ⟨_, rfl, ?_⟩
      show JC _ _ _ [some (d_names), some (dRow v_row), some (dRow v_other), some (D.str v_name_here), none, none] _ _ _
      refine jc_set (E := D.bl) (v := (true : Bool)) 4 nd ev_bl (fun v_alike => ?_)
      show JC _ _ _ [some (d_names), some (dRow v_row), some (dRow v_other), some (D.str v_name_here), some (D.bl v_alike), none] _ _ _
      refine jc_seqN (st1 := (fun (v_alike : Bool) (ρ : List (Option D)) (O : Om) => ρ = [some (d_names), some (dRow v_row), some (dRow v_other), some (D.str v_name_here), some (D.bl v_alike), none] ∧ O = [])) (jc1_for (E := eC) PassesOwn.never rfl (ei_chars (nm 3 rfl)) (bnm 5 nd) (fun v_alike _ _ hst => by obtain ⟨rfl, rfl⟩ := hst; exact trivial) ⟨_, (wk_some rfl (wk_some rfl (wk_some rfl (wk_some rfl (wk_some rfl (wk_nn wk_nil)))))), rfl, rfl⟩ (fun v_letter v_alike _ _ hst => ?_)) (fun v_alike _ _ hst => ?_)
      · obtain ⟨rfl, rfl⟩ := hst
        refine ⟨_, rfl, ?_⟩
        show JC _ _ _ [some (d_names), some (dRow v_row), some (dRow v_other), some (D.str v_name_here), some (D.bl v_alike), some (eC v_letter)] _ _ _
        refine jc_req fun h1 => ?_
        refine jc_one (jc1_ite (et_cmp op_ne rd_neI (ev_ixT (nm 1 rfl) (ev_find ev_str (nm 5 rfl)) (atRow h1)) (ev_ixT (nm 2 rfl) (ev_find ev_str (nm 5 rfl)) (atRow h1)) (nomark _)) (fun hc2 => ?_) (fun hc2 => ?_))
        · refine jc_set (E := D.bl) (v := (false : Bool)) 4 nd ev_bl (fun v_alike => ?_)
          show JC _ _ _ [some (d_names), some (dRow v_row), some (dRow v_other), some (D.str v_name_here), some (D.bl v_alike), some (eC v_letter)] _ _ _
          exact jc_nil ⟨_, (wk_some rfl (wk_some rfl (wk_some rfl (wk_some rfl (wk_some rfl (wk_none wk_nil)))))), rfl, rfl⟩
        · exact jc_nil ⟨_, (wk_some rfl (wk_some rfl (wk_some rfl (wk_some rfl (wk_some rfl (wk_none wk_nil)))))), rfl, rfl⟩
      obtain ⟨rfl, rfl⟩ := hst
      show JC _ _ _ [some (d_names), some (dRow v_row), some (dRow v_other), some (D.str v_name_here), some (D.bl v_alike), none] _ _ _
      refine jc_one (jc1_ite (et_of (nm 4 rfl)) (fun hc3 => ?_) (fun hc3 => ?_))
      · exact jc_ret (d := D.bl (true : Bool)) ev_bl (.refl _)
      · exact jc_nil ⟨_, (wk_some rfl (wk_some rfl (wk_some rfl (wk_none (wk_none (wk_nn wk_nil)))))), rfl, rfl⟩
    obtain ⟨rfl, rfl⟩ := hst
    show JC _ _ _ [some (d_names), some (dRow v_row), some (dRow v_other), none, none, none] _ _ _
    exact jc_ret (d := D.bl (false : Bool)) ev_bl (.refl _)
def ar_law_value (ad : Ads) (L : Om) (ds : List D) (d : D) : Prop := ∃ (v_draw : Int) (v_base : Int), ds = [D.int v_draw, D.int v_base] ∧ (m_law_value v_draw v_base).ok ∧ d = D.int ((m_law_value v_draw v_base).val)
abbrev s_law_value : Stmt := top 12
abbrev N_law_value : List Str := ["_law_draw", "_law_base"]
theorem sc_law_value : FnScope N_law_value ["_law_draw", "_law_base"] (defScope s_law_value) := ⟨rfl, rfl, rfl, by decide +kernel, rfl, by decide +kernel, by decide +kernel⟩
theorem ok_law_value {f : Addr} {fd : FuncData} (F : Fun K "_law_value" "_law_value" s_law_value f fd) (b_int : mg "int" = none) : FnOk P w K mg base CX0 (1) f fd ["_law_draw", "_law_base"] (spP K (ar_law_value ad)) := by
  refine fn_pureV F sc_law_value (fun L ds d h => ?_) (fun cdv A outer s H E B ds d hr h => ?_)
  · obtain ⟨v_draw, v_base, rfl, _⟩ := h; rfl
  · obtain ⟨v_draw, v_base, rfl, hok, rfl⟩ := h
    have nd := sc_law_value.nd
    refine (show JC _ B (defBody s_law_value) [some (D.int v_draw), some (D.int v_base)] [] (aR (rtP D.int)) (m_law_value v_draw v_base) from ?_) hok
    unfold m_law_value
    refine jc_ifr (et_cmp op_eq rd_eqI (ev_op op_mod (rd_I (by decide)) (ev_callTy call_int1 rc_int (by rfl) b_int (by decide +kernel) (ea_cons (nm 0 rfl) ea_nil)) ev_int) ev_int (nomark _)) (fun hc1 => ?_) (fun hc1 => ?_)
    · exact jc_ret (d := D.int ((-(((10 : Int) : Int) ^ ((30 : Int) : Int).toNat)) : Int)) (ev_neg (ev_op op_pow (rd_I ⟨by decide, by decide, by decide⟩) ev_int ev_int)) (.refl _)
    · refine jc_ifr (et_cmp op_eq rd_eqI (ev_op op_mod (rd_I (by decide)) (ev_callTy call_int1 rc_int (by rfl) b_int (by decide +kernel) (ea_cons (nm 0 rfl) ea_nil)) ev_int) ev_int (nomark _)) (fun hc2 => ?_) (fun hc2 => ?_)
      · exact jc_ret (d := D.int ((((10 : Int) : Int) ^ ((30 : Int) : Int).toNat) : Int)) (ev_op op_pow (rd_I ⟨by decide, by decide, by decide⟩) ev_int ev_int) (.refl _)
      · exact jc_ret (d := D.int (((v_base + (v_draw % (11 : Int))) - (4 : Int)) : Int)) (ev_op op_sub rd_I0 (ev_op op_add rd_I0 (nm 1 rfl) (ev_op op_mod (rd_I (by decide)) (ev_callTy call_int1 rc_int (by rfl) b_int (by decide +kernel) (ea_cons (nm 0 rfl) ea_nil)) ev_int)) ev_int) (.refl _)
def ar_law_rows (ad : Ads) (L : Om) (ds : List D) (es : List D) : Prop := ∃ (d_script : D) (v_script : List Int) (v_start : Int) (v_many : Int) (v_base : Int), ds = [d_script, D.int v_start, D.int v_many, D.int v_base] ∧ Vw L d_script (v_script.map D.int) ∧ (m_law_rows v_script v_start v_many v_base).ok ∧ es = (m_law_rows v_script v_start v_many v_base).val.map dRow
abbrev s_law_rows : Stmt := top 13
abbrev N_law_rows : List Str := ["_law_script", "_law_start", "_law_many", "_law_base", "_law_rows_here", "_law_k", "_law_pool_here"]
theorem sc_law_rows : FnScope N_law_rows ["_law_script", "_law_start", "_law_many", "_law_base"] (defScope s_law_rows) := ⟨rfl, rfl, rfl, by decide +kernel, rfl, by decide +kernel, by decide +kernel⟩
theorem ok_law_rows {f : Addr} {fd : FuncData} (F : Fun K "_law_rows" "_law_rows" s_law_rows f fd) (b_range : mg "range" = none) (c_law_pool : Cal P w K mg base CX0 1 "_law_pool" (spN K (ar_law_pool ad))) (b_int : mg "int" = none) (c_law_value : Cal P w K mg base CX0 1 "_law_value" (spP K (ar_law_value ad))) : FnOk P w K mg base CX0 (2) f fd ["_law_script", "_law_start", "_law_many", "_law_base"] (spN K (ar_law_rows ad)) := by
  refine fn_newV F sc_law_rows (fun L ds d h => ?_) (fun cdv A outer s H E B ds d hr h => ?_)
  · obtain ⟨d_script, v_script, v_start, v_many, v_base, rfl, _⟩ := h; rfl
  · obtain ⟨d_script, v_script, v_start, v_many, v_base, rfl, w_script, hok, rfl⟩ := h
    have nd := sc_law_rows.nd
    refine (show JC _ B (defBody s_law_rows) [some (d_script), some (D.int v_start), some (D.int v_many), some (D.int v_base), none, none, none] [] (aR (rtN dRow)) (m_law_rows v_script v_start v_many v_base) from ?_) hok
    unfold m_law_rows
    refine jc_setN (E := dRow) 4 nd (en_lst ea_nil (by show 0 ≤ sizeLine; decide)) (fun q1 v_rows_here _ => ?_)
    show JC _ _ _ [some (d_script), some (D.int v_start), some (D.int v_many), some (D.int v_base), some (.rf q1), none, none] _ _ _
    refine jc_req fun h2 => ?_
    refine jc_seqN (st1 := (fun (v_rows_here : (List Row)) (ρ : List (Option D)) (O : Om) => ρ = [some (d_script), some (D.int v_start), some (D.int v_many), some (D.int v_base), some (.rf q1), none, none] ∧ O = [(q1, M.lst (v_rows_here.map dRow))])) (jc1_for (E := D.int) PassesOwn.never rfl (ei_rng1 (by rfl) b_range (ea_cons (nm 2 rfl) ea_nil) h2) (bnm 5 nd) (fun v_rows_here _ _ hst => by obtain ⟨rfl, rfl⟩ := hst; exact trivial) ⟨_, (wk_some rfl (wk_some rfl (wk_some rfl (wk_some rfl (wk_some rfl (wk_nn (wk_nn wk_nil))))))), rfl, rfl⟩ (fun v_k v_rows_here _ _ hst => ?_)) (fun v_rows_here _ _ hst => ?_)
    · obtain ⟨rfl, rfl⟩ := hst
      refine ⟨_, rfl, ?_⟩
      show JC _ _ _ [some (d_script), some (D.int v_start), some (D.int v_many), some (D.int v_base), some (.rf q1), some (D.int v_k), none] _ _ _
      refine jc_req fun h3 => ?_
      refine jc_set (E := dL D.int) (v := ((m_law_pool v_script (v_start + v_k) (4 : Int)).val : List Int)) 6 nd (ev_new (en_call c_law_pool (hr.mono (by first | decide | omega)) rfl (ea_cons (nm 0 rfl) (ea_cons (ev_op op_add rd_I0 (nm 1 rfl) (nm 5 rfl)) (ea_cons ev_int ea_nil))) (by exact ⟨_, v_script, (v_start + v_k), (4 : Int), rfl, (vwL w_script), h3, rfl⟩))) (fun v_pool_here => ?_)
      show JC _ _ _ [some (d_script), some (D.int v_start), some (D.int v_many), some (D.int v_base), some (.rf q1), some (D.int v_k), some (dL D.int v_pool_here)] _ _ _
      refine jc_req fun h5 => ?_
      refine jc_one (jc1_ite (et_w (ew_and (et_cmp op_gt rd_B0 (nm 5 rfl) ev_int (nomark _)) (fun hb4 => (ew_and1 (et_cmp op_eq rd_eqI (ev_op op_mod (rd_I (by decide)) (ev_callTy call_int1 rc_int (by rfl) b_int (by decide +kernel) (ea_cons (ev_ixL (nm 6 rfl) ev_int (Vs.vw vsI) (atG (E := D.int) (h5 hb4))) ea_nil)) ev_int) ev_int (nomark _)))))) (fun hc6 => ?_) (fun hc6 => ?_))
      · refine jc_req fun ⟨h7, h8, h9, h10⟩ => ?_
        refine jc_append (E := dRow) (v := (ixL v_rows_here ((ixL v_pool_here (0 : Int)) % v_k))) (nm 4 rfl) (.head _) (ev_ixL (nm 4 rfl) (ev_op op_mod (rd_I h8) (ev_callTy call_int1 rc_int (by rfl) b_int (by decide +kernel) (ea_cons (ev_ixL (nm 6 rfl) ev_int (Vs.vw vsI) (atG (E := D.int) h7)) ea_nil)) (nm 5 rfl)) (Vs.vw (vsM (.head _))) (atG (E := dRow) h9)) (fun _ => .head) h10 (fun v_rows_here => ?_)
        exact jc_nil ⟨_, (wk_some rfl (wk_some rfl (wk_some rfl (wk_some rfl (wk_some rfl (wk_none (wk_none wk_nil))))))), rfl, rfl⟩
      · refine jc_req fun ⟨h11, h12, h13, h14, h15, h16, h17⟩ => ?_
        refine jc_append (E := dRow) (v := ((m_law_value (ixL v_pool_here (0 : Int)) v_base).val, (m_law_value (ixL v_pool_here (1 : Int)) v_base).val, (m_law_value (ixL v_pool_here (2 : Int)) v_base).val)) (nm 4 rfl) (.head _) (ev_tup (ea_cons (ev_call c_law_value (hr.mono (by first | decide | omega)) rfl (ea_cons (ev_ixL (nm 6 rfl) ev_int (Vs.vw vsI) (atG (E := D.int) h11)) (ea_cons (nm 3 rfl) ea_nil)) (by exact ⟨(ixL v_pool_here (0 : Int)), v_base, rfl, h12, rfl⟩)) (ea_cons (ev_call c_law_value (hr.mono (by first | decide | omega)) rfl (ea_cons (ev_ixL (nm 6 rfl) ev_int (Vs.vw vsI) (atG (E := D.int) h13)) (ea_cons (nm 3 rfl) ea_nil)) (by exact ⟨(ixL v_pool_here (1 : Int)), v_base, rfl, h14, rfl⟩)) (ea_cons (ev_call c_law_value (hr.mono (by first | decide | omega)) rfl (ea_cons (ev_ixL (nm 6 rfl) ev_int (Vs.vw vsI) (atG (E := D.int) h15)) (ea_cons (nm 3 rfl) ea_nil)) (by exact ⟨(ixL v_pool_here (2 : Int)), v_base, rfl, h16, rfl⟩)) ea_nil))) (by show 3 ≤ sizeLine; decide)) (fun _ => .head) h17 (fun v_rows_here => ?_)
        exact jc_nil ⟨_, (wk_some rfl (wk_some rfl (wk_some rfl (wk_some rfl (wk_some rfl (wk_none (wk_none wk_nil))))))), rfl, rfl⟩
    obtain ⟨rfl, rfl⟩ := hst
    show JC _ _ _ [some (d_script), some (D.int v_start), some (D.int v_many), some (D.int v_base), some (.rf q1), none, none] _ _ _
    exact jc_ret (nm 4 rfl) ⟨_, rfl, rfl⟩
def ar_law_name (ad : Ads) (L : Om) (ds : List D) (d : D) : Prop := ∃ (v_one : Int) (v_two : Int) (v_wrong : Bool), ds = [D.int v_one, D.int v_two, D.bl v_wrong] ∧ (m_law_name v_one v_two v_wrong).ok ∧ d = D.str ((m_law_name v_one v_two v_wrong).val)
abbrev s_law_name : Stmt := top 14
abbrev N_law_name : List Str := ["_law_one", "_law_two", "_law_wrong", "_law_names"]
theorem sc_law_name : FnScope N_law_name ["_law_one", "_law_two", "_law_wrong"] (defScope s_law_name) := ⟨rfl, rfl, rfl, by decide +kernel, rfl, by decide +kernel, by decide +kernel⟩
theorem ok_law_name {f : Addr} {fd : FuncData} (F : Fun K "_law_name" "_law_name" s_law_name f fd) (b_int : mg "int" = none) (b_len : mg "len" = none) : FnOk P w K mg base CX0 (1) f fd ["_law_one", "_law_two", "_law_wrong"] (spP K (ar_law_name ad)) := by
  refine fn_pureV F sc_law_name (fun L ds d h => ?_) (fun cdv A outer s H E B ds d hr h => ?_)
  · obtain ⟨v_one, v_two, v_wrong, rfl, _⟩ := h; rfl
  · obtain ⟨v_one, v_two, v_wrong, rfl, hok, rfl⟩ := h
    have nd := sc_law_name.nd
    refine (show JC _ B (defBody s_law_name) [some (D.int v_one), some (D.int v_two), some (D.bl v_wrong), none] [] (aR (rtP D.str)) (m_law_name v_one v_two v_wrong) from ?_) hok
    unfold m_law_name
    refine jc_set (E := dL D.str) (v := ([(Str.ofString "a"), (Str.ofString "b"), (Str.ofString "c"), (Str.ofString "ab"), (Str.ofString "ac"), (Str.ofString "bc"), (Str.ofString "abc"), (Str.ofString "a"), (Str.ofString "bc"), (Str.ofString "c")] : List Str)) 3 nd (ev_new (en_lst (ea_cons ev_str (ea_cons ev_str (ea_cons ev_str (ea_cons ev_str (ea_cons ev_str (ea_cons ev_str (ea_cons ev_str (ea_cons ev_str (ea_cons ev_str (ea_cons ev_str ea_nil)))))))))) (by show 10 ≤ sizeLine; decide))) (fun v_names => ?_)
    show JC _ _ _ [some (D.int v_one), some (D.int v_two), some (D.bl v_wrong), some (dL D.str v_names)] _ _ _
    refine jc_seqN (st1 := (fun (v_names : (List Str)) (ρ : List (Option D)) (O : Om) => ρ = [some (D.int v_one), some (D.int v_two), some (D.bl v_wrong), some (dL D.str v_names)] ∧ O = [])) (jc1_ite (et_w (ew_and (et_of (nm 2 rfl)) (fun hb1 => (ew_and1 (et_cmp op_eq rd_eqI (ev_op op_mod (rd_I (by decide)) (ev_callTy call_int1 rc_int (by rfl) b_int (by decide +kernel) (ea_cons (nm 0 rfl) ea_nil)) ev_int) ev_int (nomark _)))))) (fun hc2 => ?_) (fun hc2 => ?_)) (fun v_names _ _ hst => ?_)
    · refine jc_set (E := dL D.str) (v := ([(Str.ofString ""), (Str.ofString "d"), (Str.ofString "ba"), (Str.ofString "aa"), (Str.ofString "abcd"), (Str.ofString "cb"), (Str.ofString "A"), (Str.ofString "a b"), (Str.ofString "acb"), (Str.ofString "ca"), (Str.ofString "bb"), (Str.ofString "abb"), (Str.ofString "aab"), (Str.ofString "bcc")] : List Str)) 3 nd (ev_new (en_lst (ea_cons ev_str (ea_cons ev_str (ea_cons ev_str (ea_cons ev_str (ea_cons ev_str (ea_cons ev_str (ea_cons ev_str (ea_cons ev_str (ea_cons ev_str (ea_cons ev_str (ea_cons ev_str (ea_cons ev_str (ea_cons ev_str (ea_cons ev_str ea_nil)))))))))))))) (by show 14 ≤ sizeLine; decide))) (fun v_names => ?_)
      show JC _ _ _ [some (D.int v_one), some (D.int v_two), some (D.bl v_wrong), some (dL D.str v_names)] _ _ _
      exact jc_nil ⟨_, (wk_some rfl (wk_some rfl (wk_some rfl (wk_some rfl wk_nil)))), rfl, rfl⟩
    · exact jc_nil ⟨_, (wk_some rfl (wk_some rfl (wk_some rfl (wk_some rfl wk_nil)))), rfl, rfl⟩
    obtain ⟨rfl, rfl⟩ := hst
    show JC _ _ _ [some (D.int v_one), some (D.int v_two), some (D.bl v_wrong), some (dL D.str v_names)] _ _ _
    refine jc_req fun ⟨h3, h4⟩ => ?_
    exact jc_ret (d := D.str ((ixL v_names (v_two % (v_names.length : Int))) : Str)) (ev_ixL (nm 3 rfl) (ev_op op_mod (rd_I h3) (ev_callTy call_int1 rc_int (by rfl) b_int (by decide +kernel) (ea_cons (nm 1 rfl) ea_nil)) (ev_conv (ev_callB call_len_seq (rc_len (Vw.vq (Vs.vw vsI))) rfl b_len PySem.boot_len (ea_cons (nm 3 rfl) ea_nil)) (by rw [List.length_map]))) (Vs.vw vsI) (atG (E := D.str) h4)) (.refl _)
def ax_law_made (ad : Ads) (L : Om) (ds : List D) (out : Out) : Prop := ∃ (d_names : D) (v_names : List Str), ds = [d_names] ∧ Vs L d_names (v_names.map D.str) ∧ (mx_law_made v_names).ok ∧ out = outX (ceT ad) (eKeys ad) (mx_law_made v_names).val
def ar_law_made (ad : Ads) (L : Om) (ds : List D) (d : D) : Prop := ∃ (d_names : D) (v_names : List Str), ds = [d_names] ∧ Vs L d_names (v_names.map D.str) ∧ (m_law_made v_names).ok ∧ d = (eKeys ad) ((m_law_made v_names).val)
abbrev s_law_made : Stmt := top 15
abbrev N_law_made : List Str := ["_law_names"]
theorem sc_law_made : FnScope N_law_made ["_law_names"] (defScope s_law_made) := ⟨rfl, rfl, rfl, by decide +kernel, rfl, by decide +kernel, by decide +kernel⟩
theorem okx_law_made {f : Addr} {fd : FuncData} (F : Fun K "_law_made" "_law_made" s_law_made f fd) (b_len : mg "len" = none) (mk_Keys : Mk K ad.CKeys ad.f_Keys___init__) (ix_Keys : FnR P w K mg base (L2.CX P w) 1 ad.f_Keys___init__ (spXI K ad.CKeys (fun L es out => es.length ≤ sizeLine ∧ ax_Keys___init__ ad L [.tup es] out))) (g_Keys : mg "Keys" = some (.ref ad.CKeys)) : FnOk P w K mg base (L2.CX P w) (3) f fd ["_law_names"] (spX K (ax_law_made ad)) := by
  refine fn_pureX F sc_law_made (fun L ds out h => ?_) (fun cdv A outer s H E B ds out hr tk po_ h => ?_)
  · obtain ⟨d_names, v_names, rfl, _⟩ := h; rfl
  · obtain ⟨d_names, v_names, rfl, w_names, hok, rfl⟩ := h
    have nd := sc_law_made.nd
    refine j_outX ((show JC _ B (defBody s_law_made) [some (d_names)] [] (aC (S := Unit) (L := Unit) (R := KeysV) (fun _ _ _ => False) (fun _ _ _ => False) (rtP (eKeys ad)) (exq (ceT ad))) (mx_law_made v_names) from ?_) hok)
    unfold mx_law_made
    refine jc_ifr (et_cmp op_eq rd_eqI (ev_conv (ev_callB call_len_seq (rc_len (Vw.vq (Vs.vw (vsL w_names)))) rfl b_len PySem.boot_len (ea_cons (nm 0 rfl) ea_nil)) (by rw [List.length_map])) ev_int (nomark _)) (fun hc1 => ?_) (fun hc1 => ?_)
    · refine jc_req fun h2 => ?_
      exact jc_retX (ce := ceT ad) (E := (eKeys ad)) (f := fun v => v) (fun v hok hm => ev_makeS0 mk_Keys (starI ix_Keys) (hr.mono (by first | decide | omega)) rfl g_Keys (by exact ⟨by show 0 ≤ sizeLine; decide, [], rfl, hok, by rw [hm]; trivial, by rw [hm]; rfl⟩)) (fun er hok hm => er_makeS0 mk_Keys (starR ix_Keys) (hr.mono (by first | decide | omega)) tk rfl g_Keys (by exact ⟨⟨by show 0 ≤ sizeLine; decide, [], rfl, hok, h2, by rw [hm]; rfl⟩, by have := h2; rw [hm] at this; exact this⟩)) (fun v => (show Frz _ _ _ from .refl _)) (fun er => (And.intro rfl (And.intro rfl rfl)))
    · refine jc_ifr (et_cmp op_eq rd_eqI (ev_conv (ev_callB call_len_seq (rc_len (Vw.vq (Vs.vw (vsL w_names)))) rfl b_len PySem.boot_len (ea_cons (nm 0 rfl) ea_nil)) (by rw [List.length_map])) ev_int (nomark _)) (fun hc3 => ?_) (fun hc3 => ?_)
      · refine jc_req fun ⟨h4, h5⟩ => ?_
        exact jc_retX (ce := ceT ad) (E := (eKeys ad)) (f := fun v => v) (fun v hok hm => ev_makeS mk_Keys (starI ix_Keys) (hr.mono (by first | decide | omega)) rfl g_Keys (ea_cons (ev_ixL (nm 0 rfl) ev_int (Vs.vw (vsL w_names)) (atG (E := D.str) h4)) ea_nil) (by exact ⟨by show 1 ≤ sizeLine; decide, [(ixL v_names (0 : Int))], rfl, hok, by rw [hm]; trivial, by rw [hm]; rfl⟩)) (fun er hok hm => er_makeS mk_Keys (starR ix_Keys) (hr.mono (by first | decide | omega)) tk rfl g_Keys (ea_cons (ev_ixL (nm 0 rfl) ev_int (Vs.vw (vsL w_names)) (atG (E := D.str) h4)) ea_nil) (by exact ⟨⟨by show 1 ≤ sizeLine; decide, [(ixL v_names (0 : Int))], rfl, hok, h5, by rw [hm]; rfl⟩, by have := h5; rw [hm] at this; exact this⟩)) (fun v => (show Frz _ _ _ from .refl _)) (fun er => (And.intro rfl (And.intro rfl rfl)))
      · refine jc_ifr (et_cmp op_eq rd_eqI (ev_conv (ev_callB call_len_seq (rc_len (Vw.vq (Vs.vw (vsL w_names)))) rfl b_len PySem.boot_len (ea_cons (nm 0 rfl) ea_nil)) (by rw [List.length_map])) ev_int (nomark _)) (fun hc6 => ?_) (fun hc6 => ?_)
        · refine jc_req fun ⟨h7, h8, h9⟩ => ?_
          exact jc_retX (ce := ceT ad) (E := (eKeys ad)) (f := fun v => v) (fun v hok hm => ev_makeS mk_Keys (starI ix_Keys) (hr.mono (by first | decide | omega)) rfl g_Keys (ea_cons (ev_ixL (nm 0 rfl) ev_int (Vs.vw (vsL w_names)) (atG (E := D.str) h7)) (ea_cons (ev_ixL (nm 0 rfl) ev_int (Vs.vw (vsL w_names)) (atG (E := D.str) h8)) ea_nil)) (by exact ⟨by show 2 ≤ sizeLine; decide, [(ixL v_names (0 : Int)), (ixL v_names (1 : Int))], rfl, hok, by rw [hm]; trivial, by rw [hm]; rfl⟩)) (fun er hok hm => er_makeS mk_Keys (starR ix_Keys) (hr.mono (by first | decide | omega)) tk rfl g_Keys (ea_cons (ev_ixL (nm 0 rfl) ev_int (Vs.vw (vsL w_names)) (atG (E := D.str) h7)) (ea_cons (ev_ixL (nm 0 rfl) ev_int (Vs.vw (vsL w_names)) (atG (E := D.str) h8)) ea_nil)) (by exact ⟨⟨by show 2 ≤ sizeLine; decide, [(ixL v_names (0 : Int)), (ixL v_names (1 : Int))], rfl, hok, h9, by rw [hm]; rfl⟩, by have := h9; rw [hm] at this; exact this⟩)) (fun v => (show Frz _ _ _ from .refl _)) (fun er => (And.intro rfl (And.intro rfl rfl)))
        · refine jc_ifr (et_cmp op_eq rd_eqI (ev_conv (ev_callB call_len_seq (rc_len (Vw.vq (Vs.vw (vsL w_names)))) rfl b_len PySem.boot_len (ea_cons (nm 0 rfl) ea_nil)) (by rw [List.length_map])) ev_int (nomark _)) (fun hc10 => ?_) (fun hc10 => ?_)
          · refine jc_req fun ⟨h11, h12, h13, h14⟩ => ?_
            exact jc_retX (ce := ceT ad) (E := (eKeys ad)) (f := fun v => v) (fun v hok hm => ev_makeS mk_Keys (starI ix_Keys) (hr.mono (by first | decide | omega)) rfl g_Keys (ea_cons (ev_ixL (nm 0 rfl) ev_int (Vs.vw (vsL w_names)) (atG (E := D.str) h11)) (ea_cons (ev_ixL (nm 0 rfl) ev_int (Vs.vw (vsL w_names)) (atG (E := D.str) h12)) (ea_cons (ev_ixL (nm 0 rfl) ev_int (Vs.vw (vsL w_names)) (atG (E := D.str) h13)) ea_nil))) (by exact ⟨by show 3 ≤ sizeLine; decide, [(ixL v_names (0 : Int)), (ixL v_names (1 : Int)), (ixL v_names (2 : Int))], rfl, hok, by rw [hm]; trivial, by rw [hm]; rfl⟩)) (fun er hok hm => er_makeS mk_Keys (starR ix_Keys) (hr.mono (by first | decide | omega)) tk rfl g_Keys (ea_cons (ev_ixL (nm 0 rfl) ev_int (Vs.vw (vsL w_names)) (atG (E := D.str) h11)) (ea_cons (ev_ixL (nm 0 rfl) ev_int (Vs.vw (vsL w_names)) (atG (E := D.str) h12)) (ea_cons (ev_ixL (nm 0 rfl) ev_int (Vs.vw (vsL w_names)) (atG (E := D.str) h13)) ea_nil))) (by exact ⟨⟨by show 3 ≤ sizeLine; decide, [(ixL v_names (0 : Int)), (ixL v_names (1 : Int)), (ixL v_names (2 : Int))], rfl, hok, h14, by rw [hm]; rfl⟩, by have := h14; rw [hm] at this; exact this⟩)) (fun v => (show Frz _ _ _ from .refl _)) (fun er => (And.intro rfl (And.intro rfl rfl)))
          · refine jc_ifr (et_cmp op_eq rd_eqI (ev_conv (ev_callB call_len_seq (rc_len (Vw.vq (Vs.vw (vsL w_names)))) rfl b_len PySem.boot_len (ea_cons (nm 0 rfl) ea_nil)) (by rw [List.length_map])) ev_int (nomark _)) (fun hc15 => ?_) (fun hc15 => ?_)
            · refine jc_req fun ⟨h16, h17, h18, h19, h20⟩ => ?_
              exact jc_retX (ce := ceT ad) (E := (eKeys ad)) (f := fun v => v) (fun v hok hm => ev_makeS mk_Keys (starI ix_Keys) (hr.mono (by first | decide | omega)) rfl g_Keys (ea_cons (ev_ixL (nm 0 rfl) ev_int (Vs.vw (vsL w_names)) (atG (E := D.str) h16)) (ea_cons (ev_ixL (nm 0 rfl) ev_int (Vs.vw (vsL w_names)) (atG (E := D.str) h17)) (ea_cons (ev_ixL (nm 0 rfl) ev_int (Vs.vw (vsL w_names)) (atG (E := D.str) h18)) (ea_cons (ev_ixL (nm 0 rfl) ev_int (Vs.vw (vsL w_names)) (atG (E := D.str) h19)) ea_nil)))) (by exact ⟨by show 4 ≤ sizeLine; decide, [(ixL v_names (0 : Int)), (ixL v_names (1 : Int)), (ixL v_names (2 : Int)), (ixL v_names (3 : Int))], rfl, hok, by rw [hm]; trivial, by rw [hm]; rfl⟩)) (fun er hok hm => er_makeS mk_Keys (starR ix_Keys) (hr.mono (by first | decide | omega)) tk rfl g_Keys (ea_cons (ev_ixL (nm 0 rfl) ev_int (Vs.vw (vsL w_names)) (atG (E := D.str) h16)) (ea_cons (ev_ixL (nm 0 rfl) ev_int (Vs.vw (vsL w_names)) (atG (E := D.str) h17)) (ea_cons (ev_ixL (nm 0 rfl) ev_int (Vs.vw (vsL w_names)) (atG (E := D.str) h18)) (ea_cons (ev_ixL (nm 0 rfl) ev_int (Vs.vw (vsL w_names)) (atG (E := D.str) h19)) ea_nil)))) (by exact ⟨⟨by show 4 ≤ sizeLine; decide, [(ixL v_names (0 : Int)), (ixL v_names (1 : Int)), (ixL v_names (2 : Int)), (ixL v_names (3 : Int))], rfl, hok, h20, by rw [hm]; rfl⟩, by have := h20; rw [hm] at this; exact this⟩)) (fun v => (show Frz _ _ _ from .refl _)) (fun er => (And.intro rfl (And.intro rfl rfl)))
            · refine jc_req fun ⟨h21, h22, h23, h24, h25, h26⟩ => ?_
              exact jc_retX (ce := ceT ad) (E := (eKeys ad)) (f := fun v => v) (fun v hok hm => ev_makeS mk_Keys (starI ix_Keys) (hr.mono (by first | decide | omega)) rfl g_Keys (ea_cons (ev_ixL (nm 0 rfl) ev_int (Vs.vw (vsL w_names)) (atG (E := D.str) h21)) (ea_cons (ev_ixL (nm 0 rfl) ev_int (Vs.vw (vsL w_names)) (atG (E := D.str) h22)) (ea_cons (ev_ixL (nm 0 rfl) ev_int (Vs.vw (vsL w_names)) (atG (E := D.str) h23)) (ea_cons (ev_ixL (nm 0 rfl) ev_int (Vs.vw (vsL w_names)) (atG (E := D.str) h24)) (ea_cons (ev_ixL (nm 0 rfl) ev_int (Vs.vw (vsL w_names)) (atG (E := D.str) h25)) ea_nil))))) (by exact ⟨by show 5 ≤ sizeLine; decide, [(ixL v_names (0 : Int)), (ixL v_names (1 : Int)), (ixL v_names (2 : Int)), (ixL v_names (3 : Int)), (ixL v_names (4 : Int))], rfl, hok, by rw [hm]; trivial, by rw [hm]; rfl⟩)) (fun er hok hm => er_makeS mk_Keys (starR ix_Keys) (hr.mono (by first | decide | omega)) tk rfl g_Keys (ea_cons (ev_ixL (nm 0 rfl) ev_int (Vs.vw (vsL w_names)) (atG (E := D.str) h21)) (ea_cons (ev_ixL (nm 0 rfl) ev_int (Vs.vw (vsL w_names)) (atG (E := D.str) h22)) (ea_cons (ev_ixL (nm 0 rfl) ev_int (Vs.vw (vsL w_names)) (atG (E := D.str) h23)) (ea_cons (ev_ixL (nm 0 rfl) ev_int (Vs.vw (vsL w_names)) (atG (E := D.str) h24)) (ea_cons (ev_ixL (nm 0 rfl) ev_int (Vs.vw (vsL w_names)) (atG (E := D.str) h25)) ea_nil))))) (by exact ⟨⟨by show 5 ≤ sizeLine; decide, [(ixL v_names (0 : Int)), (ixL v_names (1 : Int)), (ixL v_names (2 : Int)), (ixL v_names (3 : Int)), (ixL v_names (4 : Int))], rfl, hok, h26, by rw [hm]; rfl⟩, by have := h26; rw [hm] at this; exact this⟩)) (fun v => (show Frz _ _ _ from .refl _)) (fun er => (And.intro rfl (And.intro rfl rfl)))
theorem okc_law_made {f : Addr} {fd : FuncData} (F : FnOk P w K mg base (L2.CX P w) (3) f fd ["_law_names"] (spX K (ax_law_made ad))) : FnOk P w K mg base CX0 (3) f fd ["_law_names"] (spP K (ar_law_made ad)) := fn_calmP F fun L ds d h => by
  obtain ⟨d_names, v_names, rfl, w_names, hok, rfl⟩ := h
  obtain ⟨h1, h2⟩ := calm_ok hok
  exact ⟨d_names, v_names, rfl, w_names, h1, by rw [h2]; rfl⟩
def ar_law_refused (ad : Ads) (L : Om) (ds : List D) (d : D) : Prop := ∃ (d_names : D) (v_names : List Str), ds = [d_names] ∧ Vs L d_names (v_names.map D.str) ∧ (m_law_refused v_names).ok ∧ d = dL D.str ((m_law_refused v_names).val)
abbrev s_law_refused : Stmt := top 16
abbrev N_law_refused : List Str := ["_law_names", "e"]
theorem sc_law_refused : FnScope N_law_refused ["_law_names"] (defScope s_law_refused) := ⟨rfl, rfl, rfl, by decide +kernel, rfl, by decide +kernel, by decide +kernel⟩
theorem ok_law_refused {f : Addr} {fd : FuncData} (F : Fun K "_law_refused" "_law_refused" s_law_refused f fd) (cx_law_made : Cal P w K mg base (L2.CX P w) 3 "_law_made" (spX K (ax_law_made ad))) (e_BadKey : PySem.ErX.ErrT P K mg ad.CBadKey ad.f_BadKey___init__ "name") (g_BadKey : mg "BadKey" = some (.ref ad.CBadKey)) (xm_BadKey : PySem.W.exmOne K (.ref ad.CBadKey) (.ref ad.CBadKey) = some true) (xc_BadKey : ExcC K ad.CBadKey) (g_Clash : mg "Clash" = some (.ref ad.CClash)) (kt_BadKey_Clash : PySem.W.kitOne K (.ref ad.CBadKey) (.ref ad.CClash) = some false) (b_isinstance : mg "isinstance" = none) (g_TableError : mg "TableError" = some (.ref ad.CTableError)) (kt_BadKey_TableError : PySem.W.kitOne K (.ref ad.CBadKey) (.ref ad.CTableError) = some true) (b_ValueError : mg "ValueError" = none) (kt_BadKey_ValueError : PySem.W.kitOne K (.ref ad.CBadKey) (.type "ValueError") = some true) : FnOk P w K mg base CX0 (5) f fd ["_law_names"] (spP K (ar_law_refused ad)) := by
  refine fn_pureV F sc_law_refused (fun L ds d h => ?_) (fun cdv A outer s H E B ds d hr h => ?_)
  · obtain ⟨d_names, v_names, rfl, _⟩ := h; rfl
  · obtain ⟨d_names, v_names, rfl, w_names, hok, rfl⟩ := h
    have nd := sc_law_refused.nd
    refine (show JC _ B (defBody s_law_refused) [some (d_names), none] [] (aR (rtP (dL D.str))) (m_law_refused v_names) from ?_) hok
    unfold m_law_refused
    refine jc_seqR (st1 := (fun (_ : Unit) (ρ : List (Option D)) (O : Om) => ρ = [some (d_names), none] ∧ O = [])) (sl := fun (_ : Unit) _ _ => False) (ex := fun _ _ _ _ _ _ => False) (jc1_try (ce := ceT ad) (ρ0 := [some (d_names), none]) (O0 := []) 1 rfl rfl nd rfl rfl ⟨rfl, by decide, .inl g_BadKey⟩ takes_no (fun W pn xe tk po_ => ?_) (fun er hok hm hok2 => by obtain ⟨z, rfl, _⟩ := onErrS_ok hok2; exact ⟨xm_BadKey, .inr ⟨z, rfl⟩⟩) (fun er hok hm a_ oe pn dx v_ hz hf hrp => ?_)) (fun _ _ _ hst => ?_)
    · refine jc_exprX (ce := ceT ad) (E := (eKeys ad)) (fun v hok hm => ev_call cx_law_made.xP (hr.mono (by first | decide | omega)) rfl (ea_cons (nm 0 rfl) ea_nil) (by exact ⟨_, v_names, rfl, (vsL w_names), hok, by rw [hm]; rfl⟩)) (fun er hok hm => er_call cx_law_made.xR (hr.mono (by first | decide | omega)) tk rfl (ea_cons (nm 0 rfl) ea_nil) (by exact ⟨_, v_names, rfl, (vsL w_names), hok, by rw [hm]; rfl⟩)) ?_ (fun er => (And.intro (And.intro rfl (And.intro rfl rfl)) (And.intro wk_refl rfl)))
      exact jc_nil ⟨_, (wk_some rfl (wk_nn wk_nil)), rfl, rfl⟩
    · refine jc_onErrS (fun v_e_name her => ?_)
      subst her
      refine jc_ifr (et_w (ew_or (et_of (ev_callB (call_isED xc_BadKey hz hf) (rc_isED (fun _ _ _ => cls_ref) kt_BadKey_Clash) rfl b_isinstance (by decide +kernel) (ea_cons (nm 1 rfl) (ea_cons (ev_glob (v := .ref ad.CClash) rfl g_Clash rfl (fun _ => .rf _)) ea_nil)))) (fun hb1 => (ew_or (et_not (et_of (ev_callB (call_isED xc_BadKey hz hf) (rc_isED (fun _ _ _ => cls_ref) kt_BadKey_TableError) rfl b_isinstance (by decide +kernel) (ea_cons (nm 1 rfl) (ea_cons (ev_glob (v := .ref ad.CTableError) rfl g_TableError rfl (fun _ => .rf _)) ea_nil))))) (fun hb2 => (ew_or1 (et_not (et_of (ev_callB (call_isED xc_BadKey hz hf) (rc_isED (fun _ _ _ => cls_ty) kt_BadKey_ValueError) rfl b_isinstance (by decide +kernel) (ea_cons (nm 1 rfl) (ea_cons (ev_bltn (v := .ty "ValueError") (u := .type "ValueError") rfl b_ValueError (by decide +kernel) rfl (fun _ => .ty _)) ea_nil))))))))))) (fun hc3 => ?_) (fun hc3 => ?_)
      · exact jc_ret (d := dL D.str ([(Str.ofString "wrong")] : List Str)) (ev_new (en_lst (ea_cons ev_str ea_nil) (by show 1 ≤ sizeLine; decide))) (.refl _)
      · exact jc_ret (d := dL D.str ([v_e_name] : List Str)) (ev_new (en_lst (ea_cons (ev_errF e_BadKey hz hf hrp (nm 1 rfl)) ea_nil) (by show 1 ≤ sizeLine; decide))) (.refl _)
    obtain ⟨rfl, rfl⟩ := hst
    show JC _ _ _ [some (d_names), none] _ _ _
    exact jc_ret (d := dL D.str ([] : List Str)) (ev_new (en_lst ea_nil (by show 0 ≤ sizeLine; decide))) (.refl _)
def ar_law (ad : Ads) (L : Om) (ds : List D) (d : D) : Prop := ∃ (d_script : D) (v_script : List Int), ds = [d_script] ∧ Vw L d_script (v_script.map D.int) ∧ (m_law v_script).ok ∧ d = D.bl ((m_law v_script).val)
abbrev s_law : Stmt := top 17
abbrev N_law : List Str := ["_law_script", "_law_pool_here", "_law_names", "_law_k", "_law_wrong", "_law_name_here", "_law_keys", "_law_due", "_law_letter", "_law_rows_here", "_law_kept", "_law_other", "_law_answer", "_law_table", "_law_more", "_law_twice"]
theorem sc_law : FnScope N_law ["_law_script"] (defScope s_law) := ⟨rfl, rfl, rfl, by decide +kernel, rfl, by decide +kernel, by decide +kernel⟩
theorem ok_law {f : Addr} {fd : FuncData} (F : Fun K "law" "law" s_law f fd) (c_law_pool : Cal P w K mg base CX0 1 "_law_pool" (spN K (ar_law_pool ad))) (b_int : mg "int" = none) (b_range : mg "range" = none) (c_law_name : Cal P w K mg base CX0 1 "_law_name" (spP K (ar_law_name ad))) (b_list : mg "list" = none) (c_law_refused : Cal P w K mg base CX0 5 "_law_refused" (spP K (ar_law_refused ad))) (c_law_made : Cal P w K mg base CX0 3 "_law_made" (spP K (ar_law_made ad))) (Fp_Keys_columns : Fok P w K mg base CX0 1 ad.f_Keys_columns (spP K (ar_Keys_columns ad))) (p_Keys_columns : PropOf K ad.CKeys "columns" ad.p_Keys_columns ad.f_Keys_columns) (k_Keys : Cls K ad.CKeys) (b_isinstance : mg "isinstance" = none) (b_str : mg "str" = none) (c_law_rows : Cal P w K mg base CX0 2 "_law_rows" (spN K (ar_law_rows ad))) (b_len : mg "len" = none) (c_law_clash : Cal P w K mg base CX0 1 "_law_clash" (spP K (ar_law_clash ad))) (Fm_Keys_clash : Fok P w K mg base CX0 2 ad.f_Keys_clash (spP K (ar_Keys_clash ad))) (mt_Keys_clash : Meth K ad.CKeys "clash" ad.f_Keys_clash) (b_bool : mg "bool" = none) (Fm_Keys_kept_by : Fok P w K mg base CX0 4 ad.f_Keys_kept_by (spP K (ar_Keys_kept_by ad))) (mt_Keys_kept_by : Meth K ad.CKeys "kept_by" ad.f_Keys_kept_by) : FnOk P w K mg base CX0 (6) f fd ["_law_script"] (spP K (ar_law ad)) := by
  refine fn_pureV F sc_law (fun L ds d h => ?_) (fun cdv A outer s H E B ds d hr h => ?_)
  · obtain ⟨d_script, v_script, rfl, _⟩ := h; rfl
  · obtain ⟨d_script, v_script, rfl, w_script, hok, rfl⟩ := h
    have nd := sc_law.nd
    refine (show JC _ B (defBody s_law) [some (d_script), none, none, none, none, none, none, none, none, none, none, none, none, none, none, none] [] (aR (rtP D.bl)) (m_law v_script) from ?_) hok
    unfold m_law
    refine jc_req fun h1 => ?_
    refine jc_set (E := dL D.int) (v := ((m_law_pool v_script (0 : Int) (20 : Int)).val : List Int)) 1 nd (ev_new (en_call c_law_pool (hr.mono (by first | decide | omega)) rfl (ea_cons (nm 0 rfl) (ea_cons ev_int (ea_cons ev_int ea_nil))) (by exact ⟨_, v_script, (0 : Int), (20 : Int), rfl, (vwL w_script), h1, rfl⟩))) (fun v_pool_here => ?_)
    show JC _ _ _ [some (d_script), some (dL D.int v_pool_here), none, none, none, none, none, none, none, none, none, none, none, none, none, none] _ _ _
    refine jc_req fun ⟨h2, h3, h6, h7, h8, h9, h10⟩ => ?_
    refine jc_set (E := dL D.str) (v := ((((rangeL 0 ((ixL v_pool_here (7 : Int)) % (6 : Int))).filter (fun _ => true)).map (fun (x4 : Int) => (m_law_name (ixL v_pool_here ((10 : Int) + ((2 : Int) * x4))) (ixL v_pool_here ((11 : Int) + ((2 : Int) * x4))) (decide (((ixL v_pool_here (6 : Int)) % (2 : Int)) = (1 : Int)))).val)) : List Str)) 2 nd (ev_new (en_lcT (F := D.str) (pr := fun _ => true) (el := fun (x4 : Int) => (m_law_name (ixL v_pool_here ((10 : Int) + ((2 : Int) * x4))) (ixL v_pool_here ((11 : Int) + ((2 : Int) * x4))) (decide (((ixL v_pool_here (6 : Int)) % (2 : Int)) = (1 : Int)))).val) [("_law_k", 3)] rfl nd (ei_rng1 (by rfl) b_range (ea_cons (ev_op op_mod (rd_I (by decide)) (ev_callTy call_int1 rc_int (by rfl) b_int (by decide +kernel) (ea_cons (ev_ixL (nm 1 rfl) ev_int (Vs.vw vsI) (atG (E := D.int) h2)) ea_nil)) ev_int) ea_nil) h3) trivial (blkOk_by (by rfl)) (by rintro _ ⟨s, H, C, cl, fp, rfl⟩; exact (bnm 3 nd)) (by decide) (fun x4 hx5 => ⟨_, rfl, fun X' B' eL hX' => by obtain ⟨s, H, C, cl, fp, rfl⟩ := hX'; exact ets_nil, fun _ X' B' eL hX' => by obtain ⟨s, H, C, cl, fp, rfl⟩ := hX'; exact (ev_call c_law_name (hr.mono (by first | decide | omega)) rfl (ea_cons (ev_ixL (nm 1 rfl) (ev_op op_add rd_I0 ev_int (ev_op op_mul (rd_I (.inl ⟨by decide, by decide⟩)) ev_int (nm 3 rfl))) (Vs.vw vsI) (atG (E := D.int) (h6 x4 hx5))) (ea_cons (ev_ixL (nm 1 rfl) (ev_op op_add rd_I0 ev_int (ev_op op_mul (rd_I (.inl ⟨by decide, by decide⟩)) ev_int (nm 3 rfl))) (Vs.vw vsI) (atG (E := D.int) (h7 x4 hx5))) (ea_cons (ev_cmp op_eq rd_eqI (ev_op op_mod (rd_I (by decide)) (ev_callTy call_int1 rc_int (by rfl) b_int (by decide +kernel) (ea_cons (ev_ixL (nm 1 rfl) ev_int (Vs.vw vsI) (atG (E := D.int) (h8 x4 hx5))) ea_nil)) ev_int) ev_int (nomark _)) ea_nil))) (by exact ⟨(ixL v_pool_here ((10 : Int) + ((2 : Int) * x4))), (ixL v_pool_here ((11 : Int) + ((2 : Int) * x4))), (decide (((ixL v_pool_here (6 : Int)) % (2 : Int)) = (1 : Int))), rfl, (h9 x4 hx5), rfl⟩))⟩) h10)) (fun v_names => ?_)
    show JC _ _ _ [some (d_script), some (dL D.int v_pool_here), some (dL D.str v_names), none, none, none, none, none, none, none, none, none, none, none, none, none] _ _ _
    refine jc_req fun h14 => ?_
    refine jc_set (E := dL D.str) (v := (((v_names.filter (fun (x11 : Str) => (!decide (x11 ∈ ([(Str.ofString "a"), (Str.ofString "b"), (Str.ofString "c"), (Str.ofString "ab"), (Str.ofString "ac"), (Str.ofString "bc"), (Str.ofString "abc")] : List Str))))).map (fun (x11 : Str) => x11)) : List Str)) 4 nd (ev_new (en_lcT (F := D.str) (pr := fun (x11 : Str) => (!decide (x11 ∈ ([(Str.ofString "a"), (Str.ofString "b"), (Str.ofString "c"), (Str.ofString "ab"), (Str.ofString "ac"), (Str.ofString "bc"), (Str.ofString "abc")] : List Str)))) (el := fun (x11 : Str) => x11) [("_law_name_here", 5)] rfl nd (ei_list (nm 2 rfl) (Vs.vw vsI)) (Vs.vw vsI) (blkOk_by (by rfl)) (by rintro _ ⟨s, H, C, cl, fp, rfl⟩; exact (bnm 5 nd)) (by decide) (fun x11 hx12 => ⟨_, rfl, fun X' B' eL hX' => by obtain ⟨s, H, C, cl, fp, rfl⟩ := hX'; exact (ets_one (et_cmp op_notIn_seq (rd_notinS (ys := [(Str.ofString "a"), (Str.ofString "b"), (Str.ofString "c"), (Str.ofString "ab"), (Str.ofString "ac"), (Str.ofString "bc"), (Str.ofString "abc")]) (Vw.vq (Vs.vw vsI))) (nm 5 rfl) (ev_new (en_lst (ea_cons ev_str (ea_cons ev_str (ea_cons ev_str (ea_cons ev_str (ea_cons ev_str (ea_cons ev_str (ea_cons ev_str ea_nil))))))) (by show 7 ≤ sizeLine; decide))) (by rfl))), fun hp13 X' B' eL hX' => by obtain ⟨s, H, C, cl, fp, rfl⟩ := hX'; exact (nm 5 rfl)⟩) h14)) (fun v_wrong => ?_)
    show JC _ _ _ [some (d_script), some (dL D.int v_pool_here), some (dL D.str v_names), none, some (dL D.str v_wrong), none, none, none, none, none, none, none, none, none, none, none] _ _ _
    refine jc_req fun ⟨h15, h17, h18⟩ => ?_
    refine jc_ifr (et_cmp (op_neD hr.units) (rd_neD (x := (m_law_refused v_names).val) (y := (cutL v_wrong none (some (1 : Int)))) (EqOk.lst EqOk.str) (by decide) vdI vdI h17 h18) (ev_call c_law_refused (hr.mono (by first | decide | omega)) rfl (ea_cons (ev_new (en_callTy call_list_of (rcn_list (Vw.vq (Vs.vw vsI))) rfl b_list (by decide +kernel) (ea_cons (nm 2 rfl) ea_nil))) ea_nil) (by exact ⟨_, v_names, rfl, vsI, h15, rfl⟩)) (ev_new (en_conv (en_slice (nm 4 rfl) (Vs.vw vsI) eo_none (eo_some ev_int)) (cutD_map _ _ _))) (nomark _)) (fun hc19 => ?_) (fun hc19 => ?_)
    · exact jc_ret (d := D.bl (false : Bool)) ev_bl (.refl _)
    · refine jc_set (E := dL D.str) (v := (((v_names.filter (fun (x20 : Str) => (!decide (x20 ∈ v_wrong)))).map (fun (x20 : Str) => x20)) : List Str)) 2 nd (ev_new (en_lcT (F := D.str) (pr := fun (x20 : Str) => (!decide (x20 ∈ v_wrong))) (el := fun (x20 : Str) => x20) [("_law_name_here", 5)] rfl nd (ei_list (nm 2 rfl) (Vs.vw vsI)) (Vs.vw vsI) (blkOk_by (by rfl)) (by rintro _ ⟨s, H, C, cl, fp, rfl⟩; exact (bnm 5 nd)) (by decide) (fun x20 hx21 => ⟨_, rfl, fun X' B' eL hX' => by obtain ⟨s, H, C, cl, fp, rfl⟩ := hX'; exact (ets_one (et_cmp op_notIn_seq (rd_notinS (Vw.vq (Vs.vw vsI))) (nm 5 rfl) (nm 4 rfl) (by rfl))), fun hp22 X' B' eL hX' => by obtain ⟨s, H, C, cl, fp, rfl⟩ := hX'; exact (nm 5 rfl)⟩) h14)) (fun v_names => ?_)
      show JC _ _ _ [some (d_script), some (dL D.int v_pool_here), some (dL D.str v_names), none, some (dL D.str v_wrong), none, none, none, none, none, none, none, none, none, none, none] _ _ _
      refine jc_req fun h23 => ?_
      refine jc_set (E := (eKeys ad)) (v := ((m_law_made v_names).val : KeysV)) 6 nd (ev_call c_law_made (hr.mono (by first | decide | omega)) rfl (ea_cons (nm 2 rfl) ea_nil) (by exact ⟨_, v_names, rfl, vsI, h23, rfl⟩)) (fun v_keys => ?_)
      show JC _ _ _ [some (d_script), some (dL D.int v_pool_here), some (dL D.str v_names), none, some (dL D.str v_wrong), none, some ((eKeys ad) v_keys), none, none, none, none, none, none, none, none, none] _ _ _
      refine jc_req fun ⟨h26, h28⟩ => ?_
      refine jc_set (E := D.str) (v := ((Txt.join (Str.ofString "") ((((charsL (Str.ofString "abc")).filter (fun (x24 : Nat) => (decide (x24 ∈ charsL (Txt.join (Str.ofString "") v_names))))).map (fun (x24 : Nat) => x24)).map cS)) : Str)) 7 nd (ev_join (ys := (((charsL (Str.ofString "abc")).filter (fun (x24 : Nat) => (decide (x24 ∈ charsL (Txt.join (Str.ofString "") v_names))))).map (fun (x24 : Nat) => x24)).map cS) ev_str (ev_conv (d' := .lst (((((charsL (Str.ofString "abc")).filter (fun (x24 : Nat) => (decide (x24 ∈ charsL (Txt.join (Str.ofString "") v_names))))).map (fun (x24 : Nat) => x24)).map cS).map D.str)) (ev_new (en_lcT (F := eC) (pr := fun (x24 : Nat) => (decide (x24 ∈ charsL (Txt.join (Str.ofString "") v_names)))) (el := fun (x24 : Nat) => x24) [("_law_letter", 8)] rfl nd (ei_chars ev_str) trivial (blkOk_by (by rfl)) (by rintro _ ⟨s, H, C, cl, fp, rfl⟩; exact (bnm 8 nd)) (by decide) (fun x24 hx25 => ⟨_, rfl, fun X' B' eL hX' => by obtain ⟨s, H, C, cl, fp, rfl⟩ := hX'; exact (ets_one (et_cmp op_in_sign rd_inC (nm 8 rfl) (ev_join (ys := v_names) ev_str (nm 2 rfl) (Vw.vq (Vs.vw vsI)) (h26 x24 hx25)) (by rfl))), fun hp27 X' B' eL hX' => by obtain ⟨s, H, C, cl, fp, rfl⟩ := hX'; exact (nm 8 rfl)⟩) (by first | decide | (show 3 < sizeLine; decide)))) (by simp only [List.map_map]; rfl)) (Vw.vq (Vs.vw vsI)) h28) (fun v_due => ?_)
      show JC _ _ _ [some (d_script), some (dL D.int v_pool_here), some (dL D.str v_names), none, some (dL D.str v_wrong), none, some ((eKeys ad) v_keys), some (D.str v_due), none, none, none, none, none, none, none, none] _ _ _
      refine jc_req fun ⟨h29, h31⟩ => ?_
      refine jc_ifr (et_w (ew_or (et_not (et_of (ev_callB call_isi (rc_isi (c := "str") .str (by rfl)) rfl b_isinstance (by decide +kernel) (ea_cons (ev_prop (nm 6 rfl) k_Keys p_Keys_columns Fp_Keys_columns (hr.mono (by first | decide | omega)) (by exact ⟨v_keys, rfl, h29, rfl⟩)) (ea_cons (ev_bltn (v := .ty "str") (u := .type "str") rfl b_str (by decide +kernel) rfl (fun _ => .ty _)) ea_nil))))) (fun hb30 => (ew_or1 (et_cmp op_ne rd_neS (ev_prop (nm 6 rfl) k_Keys p_Keys_columns Fp_Keys_columns (hr.mono (by first | decide | omega)) (by exact ⟨v_keys, rfl, (h31 hb30), rfl⟩)) (nm 7 rfl) (nomark _)))))) (fun hc32 => ?_) (fun hc32 => ?_)
      · exact jc_ret (d := D.bl (false : Bool)) ev_bl (.refl _)
      · refine jc_req fun ⟨h33, h34⟩ => ?_
        refine jc_set (E := dL dRow) (v := ((m_law_rows v_script (1 : Int) ((ixL v_pool_here (8 : Int)) % (15 : Int)) (0 : Int)).val : List Row)) 9 nd (ev_new (en_call c_law_rows (hr.mono (by first | decide | omega)) rfl (ea_cons (nm 0 rfl) (ea_cons ev_int (ea_cons (ev_op op_mod (rd_I (by decide)) (ev_callTy call_int1 rc_int (by rfl) b_int (by decide +kernel) (ea_cons (ev_ixL (nm 1 rfl) ev_int (Vs.vw vsI) (atG (E := D.int) h33)) ea_nil)) ev_int) (ea_cons ev_int ea_nil)))) (by exact ⟨_, v_script, (1 : Int), ((ixL v_pool_here (8 : Int)) % (15 : Int)), (0 : Int), rfl, (vwL w_script), h34, rfl⟩))) (fun v_rows_here => ?_)
        show JC _ _ _ [some (d_script), some (dL D.int v_pool_here), some (dL D.str v_names), none, some (dL D.str v_wrong), none, some ((eKeys ad) v_keys), some (D.str v_due), none, some (dL dRow v_rows_here), none, none, none, none, none, none] _ _ _
        refine jc_set (E := D.bl) (v := (true : Bool)) 10 nd ev_bl (fun v_kept => ?_)
        show JC _ _ _ [some (d_script), some (dL D.int v_pool_here), some (dL D.str v_names), none, some (dL D.str v_wrong), none, some ((eKeys ad) v_keys), some (D.str v_due), none, some (dL dRow v_rows_here), some (D.bl v_kept), none, none, none, none, none] _ _ _
        refine jc_req fun h35 => ?_
        refine jc_seqR (st1 := (fun (v_kept : Bool) (ρ : List (Option D)) (O : Om) => ρ = [some (d_script), some (dL D.int v_pool_here), some (dL D.str v_names), none, some (dL D.str v_wrong), none, some ((eKeys ad) v_keys), some (D.str v_due), none, some (dL dRow v_rows_here), some (D.bl v_kept), none, none, none, none, none] ∧ O = [])) (sl := fun (_ : Unit) _ _ => False) (ex := fun _ _ _ _ _ _ => False) (jc1_forC (E := D.int) PassesOwn.never rfl (ei_rng1 (by rfl) b_range (ea_cons (ev_conv (ev_callB call_len_seq (rc_len (Vw.vq (Vs.vw vsI))) rfl b_len PySem.boot_len (ea_cons (nm 9 rfl) ea_nil)) (by rw [List.length_map])) ea_nil) h35) (bnm 3 nd) (fun v_kept _ _ hst => by obtain ⟨rfl, rfl⟩ := hst; exact trivial) ⟨_, (wk_some rfl (wk_some rfl (wk_some rfl (wk_nn (wk_some rfl (wk_nn (wk_some rfl (wk_some rfl (wk_nn (wk_some rfl (wk_some rfl (wk_nn (wk_nn (wk_nn (wk_nn (wk_nn wk_nil)))))))))))))))), rfl, rfl⟩ (fun v_k v_kept _ _ hst => ?_)) (fun v_kept _ _ hst => ?_)
        · obtain ⟨rfl, rfl⟩ := hst
          refine ⟨_, rfl, ?_⟩
          show JC _ _ _ [some (d_script), some (dL D.int v_pool_here), some (dL D.str v_names), some (D.int v_k), some (dL D.str v_wrong), none, some ((eKeys ad) v_keys), some (D.str v_due), none, some (dL dRow v_rows_here), some (D.bl v_kept), none, none, none, none, none] _ _ _
          refine jc_seqC (st1 := (fun (v_kept : Bool) (ρ : List (Option D)) (O : Om) => ρ = [some (d_script), some (dL D.int v_pool_here), some (dL D.str v_names), some (D.int v_k), some (dL D.str v_wrong), none, some ((eKeys ad) v_keys), some (D.str v_due), none, some (dL dRow v_rows_here), some (D.bl v_kept), none, none, none, none, none] ∧ O = [])) (jc1_forC (E := dRow) PassesOwn.never rfl (ei_list (ev_new (en_conv (en_slice (nm 9 rfl) (Vs.vw vsI) eo_none (eo_some (nm 3 rfl))) (cutD_map _ _ _))) (Vs.vw vsI)) (bnm 11 nd) (fun v_kept _ _ hst => by obtain ⟨rfl, rfl⟩ := hst; exact (Vs.vw vsI)) ⟨_, (wk_some rfl (wk_some rfl (wk_some rfl (wk_some rfl (wk_some rfl (wk_nn (wk_some rfl (wk_some rfl (wk_nn (wk_some rfl (wk_some rfl (wk_nn (wk_nn (wk_nn (wk_nn (wk_nn wk_nil)))))))))))))))), rfl, rfl⟩ (fun v_other v_kept _ _ hst => ?_)) (fun v_kept _ _ hst => ?_)
          · obtain ⟨rfl, rfl⟩ := hst
            refine ⟨_, rfl, ?_⟩
            show JC _ _ _ [some (d_script), some (dL D.int v_pool_here), some (dL D.str v_names), some (D.int v_k), some (dL D.str v_wrong), none, some ((eKeys ad) v_keys), some (D.str v_due), none, some (dL dRow v_rows_here), some (D.bl v_kept), some (dRow v_other), none, none, none, none] _ _ _
            refine jc_req fun ⟨h36, h37⟩ => ?_
            refine jc_seqN (st1 := (fun (v_kept : Bool) (ρ : List (Option D)) (O : Om) => ρ = [some (d_script), some (dL D.int v_pool_here), some (dL D.str v_names), some (D.int v_k), some (dL D.str v_wrong), none, some ((eKeys ad) v_keys), some (D.str v_due), none, some (dL dRow v_rows_here), some (D.bl v_kept), some (dRow v_other), none, none, none, none] ∧ O = [])) (jc1_ite (et_of (ev_call c_law_clash (hr.mono (by first | decide | omega)) rfl (ea_cons (nm 2 rfl) (ea_cons (ev_ixL (nm 9 rfl) (nm 3 rfl) (Vs.vw vsI) (atG (E := dRow) h36)) (ea_cons (nm 11 rfl) ea_nil))) (by exact ⟨_, v_names, (ixL v_rows_here v_k), v_other, rfl, vsI, h37, rfl⟩))) (fun hc38 => ?_) (fun hc38 => ?_)) (fun v_kept _ _ hst => ?_)
            · refine jc_set (E := D.bl) (v := (false : Bool)) 10 nd ev_bl (fun v_kept => ?_)
              show JC _ _ _ [some (d_script), some (dL D.int v_pool_here), some (dL D.str v_names), some (D.int v_k), some (dL D.str v_wrong), none, some ((eKeys ad) v_keys), some (D.str v_due), none, some (dL dRow v_rows_here), some (D.bl v_kept), some (dRow v_other), none, none, none, none] _ _ _
              exact jc_nil ⟨_, (wk_some rfl (wk_some rfl (wk_some rfl (wk_some rfl (wk_some rfl (wk_nn (wk_some rfl (wk_some rfl (wk_nn (wk_some rfl (wk_some rfl (wk_some rfl (wk_nn (wk_nn (wk_nn (wk_nn wk_nil)))))))))))))))), rfl, rfl⟩
            · exact jc_nil ⟨_, (wk_some rfl (wk_some rfl (wk_some rfl (wk_some rfl (wk_some rfl (wk_nn (wk_some rfl (wk_some rfl (wk_nn (wk_some rfl (wk_some rfl (wk_some rfl (wk_nn (wk_nn (wk_nn (wk_nn wk_nil)))))))))))))))), rfl, rfl⟩
            obtain ⟨rfl, rfl⟩ := hst
            show JC _ _ _ [some (d_script), some (dL D.int v_pool_here), some (dL D.str v_names), some (D.int v_k), some (dL D.str v_wrong), none, some ((eKeys ad) v_keys), some (D.str v_due), none, some (dL dRow v_rows_here), some (D.bl v_kept), some (dRow v_other), none, none, none, none] _ _ _
            refine jc_req fun ⟨h39, h40⟩ => ?_
            refine jc_seqC (st1 := (fun (_ : Unit) (ρ : List (Option D)) (O : Om) => ρ = [some (d_script), some (dL D.int v_pool_here), some (dL D.str v_names), some (D.int v_k), some (dL D.str v_wrong), none, some ((eKeys ad) v_keys), some (D.str v_due), none, some (dL dRow v_rows_here), some (D.bl v_kept), some (dRow v_other), none, none, none, none] ∧ O = [])) (jc1_forC (E := D.bl) PassesOwn.never rfl (ei_list (ev_new (en_lst (ea_cons (ev_meth (nm 6 rfl) k_Keys mt_Keys_clash Fm_Keys_clash (hr.mono (by first | decide | omega)) (ea_cons (ev_ixL (nm 9 rfl) (nm 3 rfl) (Vs.vw vsI) (atG (E := dRow) h36)) (ea_cons (nm 11 rfl) ea_nil)) (by decide +kernel) (by exact ⟨v_keys, (ixL v_rows_here v_k), v_other, rfl, h39, rfl⟩) _) (ea_cons (ev_meth (nm 6 rfl) k_Keys mt_Keys_clash Fm_Keys_clash (hr.mono (by first | decide | omega)) (ea_cons (nm 11 rfl) (ea_cons (ev_ixL (nm 9 rfl) (nm 3 rfl) (Vs.vw vsI) (atG (E := dRow) h36)) ea_nil)) (by decide +kernel) (by exact ⟨v_keys, v_other, (ixL v_rows_here v_k), rfl, h40, rfl⟩) _) ea_nil)) (by show 2 ≤ sizeLine; decide))) (Vs.vw vsI)) (bnm 12 nd) (fun _ _ _ hst => by obtain ⟨rfl, rfl⟩ := hst; exact (Vs.vw vsI)) ⟨_, (wk_some rfl (wk_some rfl (wk_some rfl (wk_some rfl (wk_some rfl (wk_nn (wk_some rfl (wk_some rfl (wk_nn (wk_some rfl (wk_some rfl (wk_some rfl (wk_nn (wk_nn (wk_nn (wk_nn wk_nil)))))))))))))))), rfl, rfl⟩ (fun v_answer _ _ _ hst => ?_)) (fun _ _ _ hst => ?_)
            · obtain ⟨rfl, rfl⟩ := hst
              refine ⟨_, rfl, ?_⟩
              show JC _ _ _ [some (d_script), some (dL D.int v_pool_here), some (dL D.str v_names), some (D.int v_k), some (dL D.str v_wrong), none, some ((eKeys ad) v_keys), some (D.str v_due), none, some (dL dRow v_rows_here), some (D.bl v_kept), some (dRow v_other), some (D.bl v_answer), none, none, none] _ _ _
              refine jc_one (jc1_ite (et_w (ew_or (et_not (et_of (ev_callB call_isi (rc_isi (c := "bool") .bl (by rfl)) rfl b_isinstance (by decide +kernel) (ea_cons (nm 12 rfl) (ea_cons (ev_bltn (v := .ty "bool") (u := .type "bool") rfl b_bool (by decide +kernel) rfl (fun _ => .ty _)) ea_nil))))) (fun hb41 => (ew_or1 (et_cmp op_ne rd_neB (nm 12 rfl) (ev_call c_law_clash (hr.mono (by first | decide | omega)) rfl (ea_cons (nm 2 rfl) (ea_cons (ev_ixL (nm 9 rfl) (nm 3 rfl) (Vs.vw vsI) (atG (E := dRow) h36)) (ea_cons (nm 11 rfl) ea_nil))) (by exact ⟨_, v_names, (ixL v_rows_here v_k), v_other, rfl, vsI, h37, rfl⟩)) (nomark _)))))) (fun hc42 => ?_) (fun hc42 => ?_))
              · exact jc_ret (d := D.bl (false : Bool)) ev_bl (.refl _)
              · exact jc_nil ⟨_, (wk_some rfl (wk_some rfl (wk_some rfl (wk_some rfl (wk_some rfl (wk_nn (wk_some rfl (wk_some rfl (wk_nn (wk_some rfl (wk_some rfl (wk_some rfl (wk_none (wk_nn (wk_nn (wk_nn wk_nil)))))))))))))))), rfl, rfl⟩
            obtain ⟨rfl, rfl⟩ := hst
            show JC _ _ _ [some (d_script), some (dL D.int v_pool_here), some (dL D.str v_names), some (D.int v_k), some (dL D.str v_wrong), none, some ((eKeys ad) v_keys), some (D.str v_due), none, some (dL dRow v_rows_here), some (D.bl v_kept), some (dRow v_other), none, none, none, none] _ _ _
            exact jc_nil ⟨_, (wk_some rfl (wk_some rfl (wk_some rfl (wk_some rfl (wk_some rfl (wk_nn (wk_some rfl (wk_some rfl (wk_nn (wk_some rfl (wk_some rfl (wk_none (wk_nn (wk_nn (wk_nn (wk_nn wk_nil)))))))))))))))), rfl, rfl⟩
          obtain ⟨rfl, rfl⟩ := hst
          show JC _ _ _ [some (d_script), some (dL D.int v_pool_here), some (dL D.str v_names), some (D.int v_k), some (dL D.str v_wrong), none, some ((eKeys ad) v_keys), some (D.str v_due), none, some (dL dRow v_rows_here), some (D.bl v_kept), none, none, none, none, none] _ _ _
          exact jc_nil ⟨_, (wk_some rfl (wk_some rfl (wk_some rfl (wk_none (wk_some rfl (wk_nn (wk_some rfl (wk_some rfl (wk_nn (wk_some rfl (wk_some rfl (wk_nn (wk_nn (wk_nn (wk_nn (wk_nn wk_nil)))))))))))))))), rfl, rfl⟩
        obtain ⟨rfl, rfl⟩ := hst
        show JC _ _ _ [some (d_script), some (dL D.int v_pool_here), some (dL D.str v_names), none, some (dL D.str v_wrong), none, some ((eKeys ad) v_keys), some (D.str v_due), none, some (dL dRow v_rows_here), some (D.bl v_kept), none, none, none, none, none] _ _ _
        refine jc_set (E := dL dRow) (v := (v_rows_here : List Row)) 13 nd (ev_new (en_callTy call_list_of (rcn_list (Vw.vq (Vs.vw vsI))) rfl b_list (by decide +kernel) (ea_cons (nm 9 rfl) ea_nil))) (fun v_table => ?_)
        show JC _ _ _ [some (d_script), some (dL D.int v_pool_here), some (dL D.str v_names), none, some (dL D.str v_wrong), none, some ((eKeys ad) v_keys), some (D.str v_due), none, some (dL dRow v_rows_here), some (D.bl v_kept), none, none, some (dL dRow v_table), none, none] _ _ _
        refine jc_req fun h43 => ?_
        refine jc_set (E := D.bl) (v := ((m_Keys_kept_by v_keys v_table).val : Bool)) 12 nd (ev_meth (nm 6 rfl) k_Keys mt_Keys_kept_by Fm_Keys_kept_by (hr.mono (by first | decide | omega)) (ea_cons (nm 13 rfl) ea_nil) (by decide +kernel) (by exact ⟨v_keys, _, v_table, rfl, vsI, h43, rfl⟩) _) (fun v_answer => ?_)
        show JC _ _ _ [some (d_script), some (dL D.int v_pool_here), some (dL D.str v_names), none, some (dL D.str v_wrong), none, some ((eKeys ad) v_keys), some (D.str v_due), none, some (dL dRow v_rows_here), some (D.bl v_kept), none, some (D.bl v_answer), some (dL dRow v_table), none, none] _ _ _
        refine jc_ifr (et_w (ew_or (et_not (et_of (ev_callB call_isi (rc_isi (c := "bool") .bl (by rfl)) rfl b_isinstance (by decide +kernel) (ea_cons (nm 12 rfl) (ea_cons (ev_bltn (v := .ty "bool") (u := .type "bool") rfl b_bool (by decide +kernel) rfl (fun _ => .ty _)) ea_nil))))) (fun hb44 => (ew_or (et_cmp op_ne rd_neB (nm 12 rfl) (nm 10 rfl) (nomark _)) (fun hb45 => (ew_or1 (et_cmp (op_neD hr.units) (rd_neD (x := v_table) (y := v_rows_here) (EqOk.lst EqOk.row) (by decide) vdI vdI (okRs _) (okRs _)) (nm 13 rfl) (nm 9 rfl) (nomark _)))))))) (fun hc46 => ?_) (fun hc46 => ?_)
        · exact jc_ret (d := D.bl (false : Bool)) ev_bl (.refl _)
        · refine jc_req fun ⟨h47, h48, h51⟩ => ?_
          refine jc_setLc (F := dP3 D.int D.int D.int) (pr := fun _ => true) (el := fun (x49 : Int) => (((100 : Int) + x49), ((100 : Int) + x49), ((100 : Int) + x49))) [("_law_k", 3)] rfl nd (ei_rng1 (by rfl) b_range (ea_cons (ev_op op_mod (rd_I (by decide)) (ev_callTy call_int1 rc_int (by rfl) b_int (by decide +kernel) (ea_cons (ev_ixL (nm 1 rfl) ev_int (Vs.vw vsI) (atG (E := D.int) h47)) ea_nil)) ev_int) ea_nil) h48) trivial (blkOk_by (by rfl)) (by rintro _ ⟨s, H, C, cl, fp, rfl⟩; exact (bnm 3 nd)) (by decide) (fun x49 hx50 => ⟨_, rfl, fun X' B' eL hX' => by obtain ⟨s, H, C, cl, fp, rfl⟩ := hX'; exact ets_nil, fun _ X' B' eL hX' => by obtain ⟨s, H, C, cl, fp, rfl⟩ := hX'; exact (ev_tup (ea_cons (ev_op op_add rd_I0 ev_int (nm 3 rfl)) (ea_cons (ev_op op_add rd_I0 ev_int (nm 3 rfl)) (ea_cons (ev_op op_add rd_I0 ev_int (nm 3 rfl)) ea_nil))) (by show 3 ≤ sizeLine; decide))⟩) h51 14 rfl rfl rfl (fun v_more => ?_)
          show JC _ _ _ [some (d_script), some (dL D.int v_pool_here), some (dL D.str v_names), none, some (dL D.str v_wrong), none, some ((eKeys ad) v_keys), some (D.str v_due), none, some (dL dRow v_rows_here), some (D.bl v_kept), none, some (D.bl v_answer), some (dL dRow v_table), some (dL (dP3 D.int D.int D.int) v_more), none] _ _ _
          refine jc_req fun ⟨h52, h53, h54⟩ => ?_
          refine jc_set (E := D.bl) (v := ((m_Keys_kept_by v_keys ((v_rows_here ++ v_more) ++ (cutL v_rows_here none (some (1 : Int))))).val : Bool)) 12 nd (ev_meth (nm 6 rfl) k_Keys mt_Keys_kept_by Fm_Keys_kept_by (hr.mono (by first | decide | omega)) (ea_cons (ev_new (en_cat (E := dRow) (xs := (v_rows_here ++ v_more)) (ys := (cutL v_rows_here none (some (1 : Int)))) (ev_new (en_cat (E := dRow) (xs := v_rows_here) (ys := v_more) (nm 9 rfl) (nm 14 rfl) vsI vsI h52)) (ev_new (en_conv (en_slice (nm 9 rfl) (Vs.vw vsI) eo_none (eo_some ev_int)) (cutD_map _ _ _))) vsI vsI h53)) ea_nil) (by decide +kernel) (by exact ⟨v_keys, _, ((v_rows_here ++ v_more) ++ (cutL v_rows_here none (some (1 : Int)))), rfl, vsI, h54, rfl⟩) _) (fun v_answer => ?_)
          show JC _ _ _ [some (d_script), some (dL D.int v_pool_here), some (dL D.str v_names), none, some (dL D.str v_wrong), none, some ((eKeys ad) v_keys), some (D.str v_due), none, some (dL dRow v_rows_here), some (D.bl v_kept), none, some (D.bl v_answer), some (dL dRow v_table), some (dL (dP3 D.int D.int D.int) v_more), none] _ _ _
          refine jc_set (E := D.bl) (v := (((decide ((v_names.length : Int) > (0 : Int))) && (decide ((v_rows_here.length : Int) > (0 : Int)))) : Bool)) 15 nd (ev_and (ev_cmp op_gt rd_B0 (ev_conv (ev_callB call_len_seq (rc_len (Vw.vq (Vs.vw vsI))) rfl b_len PySem.boot_len (ea_cons (nm 2 rfl) ea_nil)) (by rw [List.length_map])) ev_int (nomark _)) (fun hb55 => (ev_one (ev_cmp op_gt rd_B0 (ev_conv (ev_callB call_len_seq (rc_len (Vw.vq (Vs.vw vsI))) rfl b_len PySem.boot_len (ea_cons (nm 9 rfl) ea_nil)) (by rw [List.length_map])) ev_int (nomark _))))) (fun v_twice => ?_)
          show JC _ _ _ [some (d_script), some (dL D.int v_pool_here), some (dL D.str v_names), none, some (dL D.str v_wrong), none, some ((eKeys ad) v_keys), some (D.str v_due), none, some (dL dRow v_rows_here), some (D.bl v_kept), none, some (D.bl v_answer), some (dL dRow v_table), some (dL (dP3 D.int D.int D.int) v_more), some (D.bl v_twice)] _ _ _
          refine jc_req fun h59 => ?_
          exact jc_ret (d := D.bl ((true && ((decide (v_answer = (v_kept && (!v_twice)))) && (decide ((m_Keys_kept_by v_keys []).val = true)))) : Bool)) (ev_and (ev_callB call_isi (rc_isi (c := "bool") .bl (by rfl)) rfl b_isinstance (by decide +kernel) (ea_cons (nm 12 rfl) (ea_cons (ev_bltn (v := .ty "bool") (u := .type "bool") rfl b_bool (by decide +kernel) rfl (fun _ => .ty _)) ea_nil))) (fun hb56 => (ev_and (ev_cmp op_eq rd_eqB (nm 12 rfl) (ev_and (nm 10 rfl) (fun hb57 => (ev_one (ev_not (nm 15 rfl))))) (nomark _)) (fun hb58 => (ev_one (ev_cmp op_isBl rd_isB (ev_meth (nm 6 rfl) k_Keys mt_Keys_kept_by Fm_Keys_kept_by (hr.mono (by first | decide | omega)) (ea_cons (ev_new (en_lst ea_nil (by show 0 ≤ sizeLine; decide))) ea_nil) (by decide +kernel) (by exact ⟨v_keys, _, [], rfl, vsI, (h59 hb56 hb58), rfl⟩) _) ev_bl (nomark _))))))) (.refl _)
end
end DL

set_option Elab.async false
set_option linter.all false
set_option maxRecDepth 100000
set_option maxHeartbeats 4000000
namespace DL
open PySem PySem.Spec PyProof.Rows L2 TL
abbrev sg (z : Str) (i : Nat) : Nat := z.cps.toList.getD i 0
abbrev ch (z : Str) (i : Nat) : Str := ⟨#[z.cps.toList.getD i 0]⟩
def digs (z : Str) : Str := if decide (ch z 0 = ("-" : Str)) = true then cutS z (some 1) none else z
abbrev tab : List Nat := (Str.ofString "0123456789").cps.toList
def constM (z : Str) : Option Int :=
  if ¬ ((1 : Int) ≤ ((digs z).length : Int) ∧ ((digs z).length : Int) ≤ 18) then none
  else if (digs z).cps.toList.all (fun c => decide (c ∈ tab)) = false then none
  else if ch (digs z) 0 = ("0" : Str) ∧ ¬ z = ("0" : Str) then none
  else some (intD z)
theorem digs_some {z : Str} (h0 : 0 < z.length) (h : (1 : Int) ≤ ((digs z).length : Int) ∧ ((digs z).length : Int) ≤ 18) (hd : (digs z).cps.toList.all (fun c => decide (c ∈ tab)) = true) : PySem.intText? z = some (intD z) := by
  have hn : ∃ n, PySem.intText? z = some n := by
    have hdig : ∀ c ∈ tab, 48 ≤ c ∧ c ≤ 57 := by decide +kernel
    have hall : ∀ c ∈ (digs z).cps.toList, 48 ≤ c ∧ c ≤ 57 := fun c hc => hdig c (of_decide_eq_true (List.all_eq_true.mp hd c hc))
    unfold digs at h hall
    by_cases hm : ch z 0 = ("-" : Str)
    · rw [if_pos (decide_eq_true hm)] at h hall
      have e0 : sg z 0 = 45 := by
        have : ch z 0 = (⟨#[45]⟩ : Str) := hm.trans (by decide +kernel)
        injection this with h1
        injection h1 with h2
        injection h2
      have hz : z.cps.toList.length = z.length := Array.length_toList
      cases hl : z.cps.toList with
      | nil => rw [hl] at hz; simp at hz; omega
      | cons c cs =>
        have e1 : c = 45 := by simpa [sg, hl] using e0
        subst e1
        have e2 : cutS z (some 1) none = (⟨cs.toArray⟩ : Str) := by
          unfold cutS
          rw [hl]
          have a1 : HT.sIx z.length 0 (some 1) = 1 := by
            have := HT.sIx_nat z.length 0 1
            rw [show (some ((1 : Nat) : Int)) = some (1 : Int) from rfl] at this
            rw [this]; omega
          have a2 : HT.sIx z.length z.length none = z.length := rfl
          rw [a1, a2]
          have : (List.drop 1 (45 :: cs)).take (z.length - 1) = cs := by
            rw [List.drop_succ_cons, List.drop_zero]
            refine List.take_of_length_le ?_
            rw [← hz, hl, List.length_cons]; omega
          rw [this]
        rw [e2] at h hall
        refine ⟨_, intText_neg hl (fun c hc => hall c (by simpa using hc)) ?_ ?_⟩
        · intro e; subst e; simp [Str.length] at h
        · have : (⟨cs.toArray⟩ : Str).length = cs.length := by simp [Str.length]
          rw [this] at h
          rw [← hz, hl, List.length_cons]; omega
    · rw [if_neg (by simpa using hm)] at h hall
      refine ⟨_, intText_digits hall ?_ (by omega)⟩
      intro e
      have : z.cps.toList.length = z.length := Array.length_toList
      rw [e] at this; simp at this; omega
  obtain ⟨n, hn⟩ := hn
  rw [hn]; unfold intD; rw [hn]; rfl
theorem app_len (a b : Str) : (a ++ b).length = a.length + b.length := by
  show (a.cps ++ b.cps).size = _
  rw [Array.size_append]; rfl
theorem cut2_len {z : Str} : (cutS z (some 2) none).length = z.length - 2 := by
  have hz : z.cps.toList.length = z.length := Array.length_toList
  have := HT.sIx_nat z.length 0 2
  rw [show (some ((2 : Nat) : Int)) = some (2 : Int) from rfl] at this
  show ((⟨_⟩ : Str)).cps.size = _
  simp only [cutS, this, HT.sIx_none, List.size_toArray, List.length_take, List.length_drop, hz]
  omega
theorem cut2_pos {z : Str} (h : 3 ≤ z.length) : 0 < (cutS z (some 2) none).length := by rw [cut2_len]; omega
theorem cut2_le {z : Str} {n : Nat} (h : z.length ≤ n) : (cutS z (some 2) none).length ≤ n := by rw [cut2_len]; omega
theorem digs_le (z : Str) : (digs z).length ≤ z.length := by
  unfold digs
  split
  · show ((⟨_⟩ : Str)).cps.size ≤ _
    simp only [cutS, HT.sIx_none, List.size_toArray, List.length_take, List.length_drop]
    have hz : z.cps.toList.length = z.length := Array.length_toList
    omega
  · exact Nat.le_refl _
theorem one_len (c : Nat) : ((⟨#[c]⟩ : Str)).length = 1 := rfl
theorem row_len : (Str.ofString "row").length = 3 := by decide +kernel
theorem numL_first : ∀ n : Nat, 0 < n → ∃ c cs, numL n = c :: cs ∧ c ≠ 48 := by
  intro n
  induction n using Nat.strongRecOn with
  | _ n ih =>
    intro h0
    by_cases h : n < 10
    · exact ⟨48 + n, [], numL_lt h, by omega⟩
    · obtain ⟨c, cs, e, hc⟩ := ih (n / 10) (by omega) (by omega)
      exact ⟨c, cs ++ [48 + n % 10], by rw [numL_step (by omega), e]; rfl, hc⟩
theorem tl_neg (n : Nat) : tl (Str.ofString (toString (Int.negSucc n))) = 45 :: numL (n + 1) := by
  have h := tl_num (n + 1)
  have e : toString (Int.negSucc n) = "-" ++ toString (((n + 1 : Nat)) : Int) := rfl
  unfold tl at h ⊢
  rw [Str.ofString_eq_toList] at h ⊢
  rw [e, String.toList_append]
  simp only [List.map_append]
  simp only at h
  rw [h]
  rfl
theorem constM_num {c : Int} (h : c.natAbs < 10 ^ 18) : constM (Str.ofString (toString c)) = some c ∧ (Str.ofString (toString c)).length ≤ 19 ∧ 0 < (Str.ofString (toString c)).length ∧ ∀ x ∈ tl (Str.ofString (toString c)), x = 45 ∨ (48 ≤ x ∧ x ≤ 57) := by
  have hd : ∀ n : Nat, (numL n).all (fun c => decide (c ∈ tab)) = true := fun n => by
    refine List.all_eq_true.mpr fun x hx => ?_
    have := numL_digits n x hx
    refine decide_eq_true ?_
    have q : ∀ m : Fin 10, 48 + m.val ∈ tab := by decide +kernel
    have := q ⟨x - 48, by omega⟩
    have e : 48 + (x - 48) = x := by omega
    simp only [e] at this
    exact this
  have two : ∀ (z : Str) (n : Nat), tl (digs z) = numL n → n < 10 ^ 18 → (n = 0 → z = ("0" : Str)) → (z = ("0" : Str) ∨ ¬ ch (digs z) 0 = ("0" : Str)) → constM z = some (intD z) := fun z n e hn _ hz => by
    have hl : (digs z).length = (numL n).length := by rw [len_tl, e]
    have h1 : (numL n).length ≤ 18 := numL_len (by decide) hn
    have h2 : 0 < (numL n).length := List.length_pos_iff.mpr (numL_ne n)
    unfold constM
    rw [if_neg (by rw [hl]; omega), if_neg (by rw [show (digs z).cps.toList = numL n from e, hd n]; decide)]
    rw [if_neg]
    rintro ⟨a, b⟩
    rcases hz with hz | hz
    · exact b hz
    · exact hz a
  have chz : ∀ (z : Str) (c : Nat) (cs : List Nat), tl z = c :: cs → ch z 0 = (⟨#[c]⟩ : Str) := fun z c cs e => by
    show (⟨#[(tl z).getD 0 0]⟩ : Str) = _
    rw [e]; rfl
  cases c with
  | ofNat n =>
    have hn : n < 10 ^ 18 := h
    have e0 : tl (Str.ofString (toString (Int.ofNat n))) = numL n := tl_num n
    have hm : ¬ ch (Str.ofString (toString (Int.ofNat n))) 0 = ("-" : Str) := by
      intro hm
      cases hl : numL n with
      | nil => exact numL_ne n hl
      | cons c cs =>
        rw [chz _ c cs (e0.trans hl)] at hm
        have : (⟨#[c]⟩ : Str) = ⟨#[45]⟩ := hm.trans (by decide +kernel)
        injection this with h1
        injection h1 with h2
        injection h2 with h3
        have := numL_digits n c (by rw [hl]; exact List.mem_cons_self)
        omega
    have ed : digs (Str.ofString (toString (Int.ofNat n))) = Str.ofString (toString (Int.ofNat n)) := by
      unfold digs; rw [if_neg (by simpa using hm)]
    have hl2 : (numL n).length ≤ 18 := numL_len (by decide) hn
    have hi : PySem.intText? (Str.ofString (toString (Int.ofNat n))) = some (Int.ofNat n) := int_num (by omega)
    refine ⟨?_, by rw [len_tl, e0]; omega, by rw [len_tl, e0]; exact List.length_pos_iff.mpr (numL_ne n), fun x hx => by rw [e0] at hx; exact .inr (numL_digits n x hx)⟩
    rw [two _ n (by rw [ed]; exact e0) hn (fun hz => by subst hz; decide +kernel) ?_]
    · unfold intD; rw [hi]; rfl
    · rw [ed]
      by_cases hz : n = 0
      · subst hz; exact .inl (by decide +kernel)
      · right
        intro q
        obtain ⟨c, cs, e, hc⟩ := numL_first n (by omega)
        rw [chz _ c cs (e0.trans e)] at q
        have : (⟨#[c]⟩ : Str) = ⟨#[48]⟩ := q.trans (by decide +kernel)
        injection this with h1
        injection h1 with h2
        injection h2 with h3
        exact hc h3
  | negSucc n =>
    have hn : n + 1 < 10 ^ 18 := h
    have e0 := tl_neg n
    have hm : ch (Str.ofString (toString (Int.negSucc n))) 0 = ("-" : Str) := (chz _ _ _ e0).trans (by decide +kernel)
    have hl2 : (numL (n + 1)).length ≤ 18 := numL_len (by decide) hn
    have hlen : (Str.ofString (toString (Int.negSucc n))).length = (numL (n + 1)).length + 1 := by rw [len_tl, e0]; rfl
    have ed : tl (digs (Str.ofString (toString (Int.negSucc n)))) = numL (n + 1) := by
      unfold digs
      rw [if_pos (decide_eq_true hm)]
      show ((⟨_⟩ : Str)).cps.toList = _
      simp only [cutS]
      have a1 : HT.sIx (Str.ofString (toString (Int.negSucc n))).length 0 (some 1) = 1 := by
        have := HT.sIx_nat (Str.ofString (toString (Int.negSucc n))).length 0 1
        rw [show (some ((1 : Nat) : Int)) = some (1 : Int) from rfl] at this
        rw [this]; omega
      have a2 : HT.sIx (Str.ofString (toString (Int.negSucc n))).length (Str.ofString (toString (Int.negSucc n))).length none = (Str.ofString (toString (Int.negSucc n))).length := rfl
      rw [a1, a2, show (Str.ofString (toString (Int.negSucc n))).cps.toList = 45 :: numL (n + 1) from e0, List.drop_succ_cons, List.drop_zero]
      exact List.take_of_length_le (by omega)
    have hi : PySem.intText? (Str.ofString (toString (Int.negSucc n))) = some (Int.negSucc n) := by
      rw [intText_neg (cs := numL (n + 1)) e0 (numL_digits _) (numL_ne _) (by omega), numL_val]; rfl
    refine ⟨?_, by omega, by omega, fun x hx => by
      rw [e0] at hx
      rcases List.mem_cons.mp hx with hx | hx
      · exact .inl hx
      · exact .inr (numL_digits _ x hx)⟩
    rw [two _ (n + 1) ed hn (fun hz => absurd hz (by omega)) ?_]
    · unfold intD; rw [hi]; rfl
    · right
      intro q
      obtain ⟨c, cs, e, hc⟩ := numL_first (n + 1) (by omega)
      rw [chz _ c cs (ed.trans e)] at q
      have : (⟨#[c]⟩ : Str) = ⟨#[48]⟩ := q.trans (by decide +kernel)
      injection this with h1
      injection h1 with h2
      injection h2 with h3
      exact hc h3
theorem cut_len (z : Str) (lo hi : Option Int) : (cutS z lo hi).length ≤ z.length := by
  show ((⟨_⟩ : Str)).cps.size ≤ _
  simp only [cutS, List.size_toArray, List.length_take, List.length_drop]
  have hz : z.cps.toList.length = z.length := Array.length_toList
  omega
theorem tl_app (a b : Str) : tl (a ++ b) = tl a ++ tl b := by
  show (a.cps ++ b.cps).toList = _
  exact Array.toList_append
theorem drop2 {l g : Nat} {t z : Str} (h : tl z = l :: g :: tl t) : cutS z (some 2) none = t := by
  have hz : z.length = t.length + 2 := by rw [len_tl, h, len_tl t]; rfl
  have e1 := HT.sIx_nat z.length 0 2
  rw [show (some ((2 : Nat) : Int)) = some (2 : Int) from rfl] at e1
  have inj : ∀ a b : Str, tl a = tl b → a = b := by
    rintro ⟨⟨a⟩⟩ ⟨⟨b⟩⟩ h
    exact congrArg (fun l => (⟨⟨l⟩⟩ : Str)) h
  refine inj _ _ ?_
  show ((⟨_⟩ : Str)).cps.toList = _
  simp only [cutS, e1, HT.sIx_none]
  rw [show z.cps.toList = l :: g :: tl t from h, show min 2 z.length = 2 by omega]
  show (tl t).take (z.length - 2) = tl t
  exact List.take_of_length_le (by rw [← len_tl]; omega)
abbrev wideT (small : Int) : Str := Txt.mul (Str.ofString (toString (1 + small / 108 % 9))) (1 + small / 6 % 18)
abbrev wideI (small : Int) : Int := intD (wideT small)
theorem wide_all : ∀ a : Fin 9, ∀ b : Fin 18, (let t := Txt.mul (Str.ofString (toString (1 + (a.val : Int)))) (1 + (b.val : Int)); PySem.intText? t = some (intD t) ∧ 0 ≤ intD t ∧ intD t < 10 ^ 18 ∧ t.length ≤ 18) := by decide +kernel
theorem wide_ok {small : Int} (h0 : 0 ≤ small) : PySem.intText? (wideT small) = some (wideI small) ∧ 0 ≤ wideI small ∧ wideI small < 10 ^ 18 ∧ (wideT small).length ≤ 18 := by
  have h := wide_all ⟨(small / 108 % 9).toNat, by omega⟩ ⟨(small / 6 % 18).toNat, by omega⟩
  have e1 : (((small / 108 % 9).toNat : Nat) : Int) = small / 108 % 9 := by omega
  have e2 : (((small / 6 % 18).toNat : Nat) : Int) = small / 6 % 18 := by omega
  simp only [e1, e2] at h
  exact h
theorem log2_small {i : Int} (h : i.natAbs < 10 ^ 18) : i.natAbs.log2 < 1920 := by
  by_cases h0 : i.natAbs = 0
  · rw [h0]; decide
  · exact (Nat.log2_lt h0).mpr (Nat.lt_of_lt_of_le h (by decide +kernel))
theorem mulOk_small {z : Str} {n : Int} (h0 : 1 ≤ n) (h1 : n ≤ 1000) (hz : z.length ≤ 1000) : MulOk z n := by
  have hk : z.length * n.toNat ≤ 1000 * 1000 := Nat.mul_le_mul hz (by omega)
  refine ⟨?_, fun _ _ => ?_, fun _ _ => ?_⟩
  · simp only [Bool.or_eq_false_iff, decide_eq_false_iff_not]; omega
  · have : (1000 : Int) ≤ (2 ^ 63 - 1) / n := by
      refine Int.le_ediv_of_mul_le (by omega) ?_
      omega
    omega
  · show decide (_ > sizeLine) = false
    refine decide_eq_false ?_
    have : sizeLine ≥ 1000000 := by decide
    omega
end DL

set_option Elab.async false
set_option linter.all false
set_option maxRecDepth 100000
set_option maxHeartbeats 4000000
namespace DL
open PySem PySem.Spec PyProof.Rows L2 TL
/-! ### the script's pools -/
theorem size_big : (sizeLine : Nat) = 16777216 := sizeLine_eq
theorem p1018 : ((10 : Int) ^ (18 : Int).toNat) = 1000000000000000000 := by decide
/-- what is known of a pool -/
def PoolOk (n : Int) (l : List Int) : Prop := (l.length : Int) = n ∧ ∀ x ∈ l, 0 ≤ x ∧ x < 1000
theorem pool_sat (s : List Int) {k n : Int} (hk : 0 ≤ k) (hn : 0 ≤ n) (hn1 : n ≤ 1000000) : (m_law_pool s k n).sat (PoolOk n) := by
  unfold m_law_pool
  refine sat_bnd (sat_bind (P := fun _ => True) (sat_ite (fun h => sat_req ⟨hk, by simpa using h⟩ (sat_ret trivial)) fun _ => sat_ret trivial) fun cell _ => sat_bnd (sat_bnd (sat_req (by omega) ?_)))
  refine sat_bind (sat_forR (fun i (q : Int × List Int) => q.2.length = i ∧ ∀ x ∈ q.2, 0 ≤ x ∧ x < 1000) ⟨rfl, fun x h => by cases h⟩ fun i q hi hq => ?_) fun q hq => sat_ret ⟨by rw [hq.1]; omega, hq.2⟩
  obtain ⟨c, l⟩ := q
  obtain ⟨h1, h2⟩ := hq
  simp only at h1 h2
  have hz : l.length < sizeLine := by rw [size_big]; omega
  refine sat_ite (fun _ => sat_req hz (sat_ret ⟨by simp [h1], fun x hx => ?_⟩)) fun _ => sat_bnd (sat_bnd (sat_req ⟨?_, hz⟩ (sat_ret ⟨by simp [h1], fun x hx => ?_⟩)))
  · rcases List.mem_append.mp hx with hx | hx
    · exact h2 x hx
    · rw [List.mem_singleton.mp hx]; omega
  · refine .inl ⟨?_, ?_⟩ <;> omega
  · rcases List.mem_append.mp hx with hx | hx
    · exact h2 x hx
    · rw [List.mem_singleton.mp hx]
      generalize (_ : Int) + _ = z
      omega
theorem PoolOk.at {n : Int} {l : List Int} (h : PoolOk n l) {i : Int} (h0 : 0 ≤ i) (h1 : i < n) : (0 ≤ i ∧ i < (l.length : Int)) ∧ 0 ≤ ixL l i ∧ ixL l i < 1000 := by
  obtain ⟨a, b⟩ := h
  refine ⟨⟨h0, by omega⟩, ?_⟩
  have hi : i.toNat < l.length := by omega
  have e : ixL l i = l[i.toNat] := by unfold ixL; simp [hi]
  rw [e]
  exact b _ (List.getElem_mem hi)
end DL

set_option Elab.async false
set_option linter.all false
set_option maxRecDepth 100000
set_option maxHeartbeats 4000000
namespace DL
open PySem PySem.Spec PyProof.Rows L2 TL
/-! ### small things of lists -/
theorem take_at {α : Type} {xs : List α} {i : Nat} {x : α} (h : xs[i]? = some x) : xs.take (i + 1) = xs.take i ++ [x] := by rw [List.take_succ, h]; rfl
theorem filter_t {α : Type} (xs : List α) : (xs.filter (fun _ => true)) = xs := List.filter_eq_self.mpr fun _ _ => rfl
/-- a loop that says nothing -/
theorem sat_quiet {α R : Type} {L : Type} {xs : List α} {f : α → Unit → Cmp (Ctl Unit Unit R)} (hs : ∀ x ∈ xs, (f x ()).sat (· = .nx ())) : (forC (L := L) f xs ()).sat (· = .nx ()) := by
  refine sat_mono (sat_forC (fun _ _ => True) trivial fun i x s hx _ => sat_mono (hs x (List.mem_of_getElem? hx)) fun c hc => ⟨(), .inl hc, trivial⟩) fun c hc => ?_
  obtain ⟨s', e, _⟩ := hc
  exact e
theorem range_mem {n : Nat} {x : Int} (h : x ∈ rangeL 0 (n : Int)) : 0 ≤ x ∧ x < (n : Int) := by
  unfold rangeL at h
  obtain ⟨i, hi, e⟩ := List.mem_map.mp h
  have := List.mem_range.mp hi
  omega
end DL

set_option Elab.async false
set_option linter.all false
set_option maxRecDepth 100000
set_option maxHeartbeats 4000000
namespace DL
open PySem PySem.Spec PyProof.Rows L2 TL
/-! ### keys -/
abbrev badOf (ns : List Str) : List Str := ns.filter fun z => !decide (z ∈ keyNames)
def outK (ns : List Str) : Ctl Unit Unit KeysV := match badOf ns with
  | [] => .rt ⟨ns⟩
  | z :: _ => .ex ⟨2, .str z⟩
theorem flat_outK (ns : List Str) : FlatX (outK ns) := by
  unfold outK
  split
  · trivial
  · exact .inr ⟨_, rfl⟩
theorem outK_ok {ns : List Str} (h : badOf ns = []) : outK ns = .rt ⟨ns⟩ := by unfold outK; rw [h]
theorem outK_bad {ns r : List Str} {z : Str} (h : badOf ns = z :: r) : outK ns = .ex ⟨2, .str z⟩ := by unfold outK; rw [h]
theorem made_sat (ns : List Str) : (mx_Keys___init__ ns).made.sat (· = outK ns) := by
  have h1 : (mx_Keys___init__ ns).sat fun c => (badOf ns = [] ∧ c = .nx ⟨ns⟩) ∨ ∃ z r, badOf ns = z :: r ∧ c = .ex ⟨2, .str z⟩ := by
    unfold mx_Keys___init__
    refine sat_bindC (P := fun c => (badOf ns = [] ∧ c = .nx ()) ∨ ∃ z r, badOf ns = z :: r ∧ c = .ex ⟨2, .str z⟩) (sat_forCx (fun i _ => badOf (ns.take i) = []) _ rfl (fun i z _ hz hi => ?_) fun _ hi => .inl ⟨by rwa [List.take_length] at hi, rfl⟩) fun c hc => ?_
    · refine sat_ite (fun q => sat_ret (.inr ?_)) fun q => sat_ret ?_
      · have hl := (List.getElem?_eq_some_iff.mp hz)
        obtain ⟨hl, hv⟩ := hl
        refine ⟨z, badOf (ns.drop (i + 1)), ?_, rfl⟩
        have e : ns = ns.take i ++ z :: ns.drop (i + 1) := by
          rw [← hv, ← List.drop_eq_getElem_cons hl, List.take_append_drop]
        refine (congrArg (fun l => badOf l) e).trans ?_
        have hi' : (ns.take i).filter (fun z => !decide (z ∈ keyNames)) = [] := hi
        show List.filter _ (ns.take i ++ z :: ns.drop (i + 1)) = _
        rw [List.filter_append, hi', List.nil_append, List.filter_cons, if_pos q]
      · show (ns.take (i + 1)).filter _ = []
        have hi' : (ns.take i).filter (fun z => !decide (z ∈ keyNames)) = [] := hi
        rw [take_at hz, List.filter_append, hi', List.nil_append, List.filter_cons, if_neg (by rw [q]; decide)]; rfl
    · rcases hc with ⟨h, rfl⟩ | ⟨z, r, h, rfl⟩
      · exact sat_bnd (sat_ret (.inl ⟨h, rfl⟩))
      · exact sat_ret (.inr ⟨z, r, h, rfl⟩)
  refine sat_bind h1 fun c hc => ?_
  rcases hc with ⟨h, rfl⟩ | ⟨z, r, h, rfl⟩
  · exact sat_ret (outK_ok h).symm
  · exact sat_ret (outK_bad h).symm
theorem bindK {m : Cmp (Ctl Unit Unit KeysV)} {ns : List Str} (h : m.sat (· = outK ns)) : (m.bindX fun v => .ret (.rt v) : Cmp (Ctl Unit Unit KeysV)).sat (· = outK ns) := by
  obtain ⟨h1, h2⟩ := h
  cases q : badOf ns with
  | nil =>
    rw [outK_ok q] at h2 ⊢
    exact ⟨⟨h1, by rw [h2]; trivial⟩, (bindX_rt h2).2⟩
  | cons z r =>
    rw [outK_bad q] at h2 ⊢
    exact ⟨⟨h1, by rw [h2]; trivial⟩, bindX_ex h2⟩
theorem lawmade_sat {ns : List Str} (hl : ns.length ≤ 5) : (mx_law_made ns).sat (· = outK ns) := by
  have M := made_sat ns
  have F : FlatX (mx_Keys___init__ ns).made.val := by rw [show (mx_Keys___init__ ns).made.val = _ from M.2]; exact flat_outK ns
  have B := bindK M
  unfold mx_law_made
  match ns, hl with
  | [], _ => exact sat_ite (fun _ => sat_req F B) fun q => absurd q (by simp)
  | [a], _ => exact sat_ite (fun q => absurd q (by simp)) fun _ => sat_ite (fun _ => sat_req ⟨by show (0 : Int) ≤ 0 ∧ (0 : Int) < 1; omega, F⟩ B) fun q => absurd q (by simp)
  | [a, b], _ => exact sat_ite (fun q => absurd q (by simp)) fun _ => sat_ite (fun q => absurd q (by simp)) fun _ => sat_ite (fun _ => sat_req ⟨by show (0 : Int) ≤ 0 ∧ (0 : Int) < 2; omega, by show (0 : Int) ≤ 1 ∧ (1 : Int) < 2; omega, F⟩ B) fun q => absurd q (by simp)
  | [a, b, c], _ => exact sat_ite (fun q => absurd q (by simp)) fun _ => sat_ite (fun q => absurd q (by simp)) fun _ => sat_ite (fun q => absurd q (by simp)) fun _ => sat_ite (fun _ => sat_req ⟨by show (0 : Int) ≤ 0 ∧ (0 : Int) < 3; omega, by show (0 : Int) ≤ 1 ∧ (1 : Int) < 3; omega, by show (0 : Int) ≤ 2 ∧ (2 : Int) < 3; omega, F⟩ B) fun q => absurd q (by simp)
  | [a, b, c, d], _ => exact sat_ite (fun q => absurd q (by simp)) fun _ => sat_ite (fun q => absurd q (by simp)) fun _ => sat_ite (fun q => absurd q (by simp)) fun _ => sat_ite (fun q => absurd q (by simp)) fun _ => sat_ite (fun _ => sat_req ⟨by show (0 : Int) ≤ 0 ∧ (0 : Int) < 4; omega, by show (0 : Int) ≤ 1 ∧ (1 : Int) < 4; omega, by show (0 : Int) ≤ 2 ∧ (2 : Int) < 4; omega, by show (0 : Int) ≤ 3 ∧ (3 : Int) < 4; omega, F⟩ B) fun q => absurd q (by simp)
  | [a, b, c, d, e], _ => exact sat_ite (fun q => absurd q (by simp)) fun _ => sat_ite (fun q => absurd q (by simp)) fun _ => sat_ite (fun q => absurd q (by simp)) fun _ => sat_ite (fun q => absurd q (by simp)) fun _ => sat_ite (fun q => absurd q (by simp)) fun _ => sat_req ⟨by show (0 : Int) ≤ 0 ∧ (0 : Int) < 5; omega, by show (0 : Int) ≤ 1 ∧ (1 : Int) < 5; omega, by show (0 : Int) ≤ 2 ∧ (2 : Int) < 5; omega, by show (0 : Int) ≤ 3 ∧ (3 : Int) < 5; omega, by show (0 : Int) ≤ 4 ∧ (4 : Int) < 5; omega, F⟩ B
theorem refused_sat {ns : List Str} (hl : ns.length ≤ 5) : (m_law_refused ns).sat (· = (badOf ns).take 1) := by
  obtain ⟨j1, j2⟩ := lawmade_sat hl
  unfold m_law_refused
  cases q : badOf ns with
  | nil =>
    rw [outK_ok q] at j2
    refine sat_bindR (P := (· = .nx ())) ?_ fun c hc => by subst hc; exact sat_ret rfl
    have e1 : (((mx_law_made ns).bindX fun _ => .ret (.nx ())) : Cmp (Ctl Unit Unit (List Str))).val = .nx () := (bindX_rt j2).2
    exact ⟨⟨⟨j1, by rw [j2]; trivial⟩, by rw [e1]; trivial⟩, by unfold tryM Cmp.bind; rw [e1]⟩
  | cons z r =>
    rw [outK_bad q] at j2
    refine sat_bindR (P := (· = .rt [z])) ?_ fun c hc => by subst hc; exact sat_ret rfl
    have e1 : (((mx_law_made ns).bindX fun _ => .ret (.nx ())) : Cmp (Ctl Unit Unit (List Str))).val = .ex ⟨2, .str z⟩ := bindX_ex j2
    refine ⟨⟨⟨j1, by rw [j2]; trivial⟩, by rw [e1]; exact ⟨trivial, trivial⟩⟩, ?_⟩
    unfold tryM Cmp.bind
    rw [e1]; rfl
/-! ### clashes -/
abbrev agB (r o : Row) (z : Str) : Bool := (charsL z).all fun l => decide (rowAt r (Txt.find (Str.ofString "abc") (cS l)) = rowAt o (Txt.find (Str.ofString "abc") (cS l)))
theorem find_all : ∀ z ∈ keyNames, ∀ l ∈ charsL z, 0 ≤ Txt.find (Str.ofString "abc") (cS l) ∧ Txt.find (Str.ofString "abc") (cS l) < 3 := by decide +kernel
theorem key_len : ∀ z ∈ keyNames, (charsL z).length ≤ 3 ∧ charsL z ≠ [] := by decide +kernel
theorem any_cong {α : Type} {f g : α → Bool} : ∀ {l : List α}, (∀ x ∈ l, f x = g x) → l.any f = l.any g
  | [], _ => rfl
  | x :: l, h => by rw [List.any_cons, List.any_cons, h x List.mem_cons_self, any_cong fun y hy => h y (List.mem_cons_of_mem _ hy)]
theorem agree_sat {z : Str} (hz : z ∈ keyNames) (r o : Row) : (m_agree z r o).sat (· = agB r o z) := by
  unfold m_agree
  refine sat_req ⟨fun l hl => find_all z hz l hl, by rw [size_big]; have := (key_len z hz).1; omega⟩ (sat_ret ?_)
  rw [filter_t, List.all_map]; rfl
theorem clash_sat {ns : List Str} (h : ∀ z ∈ ns, z ∈ keyNames) (hl : ns.length ≤ 5) (r o : Row) : (m_Keys_clash ⟨ns⟩ r o).sat (· = ns.any (agB r o)) := by
  unfold m_Keys_clash
  refine sat_req ⟨fun z hz => (agree_sat (h z hz) r o).1, by rw [size_big]; show ns.length < _; omega⟩ (sat_ret ?_)
  show ((ns.filter fun _ => true).map fun z => (m_agree z r o).val).any id = _
  rw [filter_t, List.any_map]
  exact any_cong fun z hz => (agree_sat (h z hz) r o).2
theorem lclash_sat {ns : List Str} (h : ∀ z ∈ ns, z ∈ keyNames) (r o : Row) : (m_law_clash ns r o).sat (· = ns.any (agB r o)) := by
  unfold m_law_clash
  refine sat_bindR (P := fun c => (c = .nx () ∧ ns.any (agB r o) = false) ∨ (c = .rt true ∧ ns.any (agB r o) = true)) (sat_forCx (fun i _ => (ns.take i).any (agB r o) = false) _ rfl (fun i z _ hz hi => ?_) fun _ hi => .inl ⟨rfl, by rwa [List.take_length] at hi⟩) fun c hc => ?_
  · have hzm := List.mem_of_getElem? hz
    refine sat_bnd (sat_bind (P := (· = agB r o z)) (sat_mono (sat_forN (fun j (b : Bool) => b = ((charsL z).take j).all fun l => decide (rowAt r (Txt.find (Str.ofString "abc") (cS l)) = rowAt o (Txt.find (Str.ofString "abc") (cS l)))) rfl fun j l b hlj hb => ?_) fun b hb => by rw [hb, List.take_length]) fun b hb => ?_)
    · refine sat_req (find_all z (h z hzm) l (List.mem_of_getElem? hlj)) (sat_ite (fun q => sat_bnd (sat_ret ?_)) fun q => sat_ret ?_)
      · rw [take_at hlj, List.all_append, List.all_cons]
        have : decide (rowAt r (Txt.find (Str.ofString "abc") (cS l)) = rowAt o (Txt.find (Str.ofString "abc") (cS l))) = false := by simpa using q
        rw [this]; simp
      · rw [take_at hlj, List.all_append, List.all_cons, hb]
        have : decide (rowAt r (Txt.find (Str.ofString "abc") (cS l)) = rowAt o (Txt.find (Str.ofString "abc") (cS l))) = true := by simpa using q
        rw [this]; simp
    · subst hb
      refine sat_ite (fun q => sat_ret (.inr ⟨rfl, List.any_eq_true.mpr ⟨z, hzm, q⟩⟩)) fun q => sat_ret ?_
      rw [take_at hz, List.any_append, hi, List.any_cons, q]; rfl
  · rcases hc with ⟨rfl, hc⟩ | ⟨rfl, hc⟩
    · exact sat_ret hc.symm
    · exact sat_ret hc.symm
theorem ag_comm (r o : Row) : agB o r = agB r o := by
  funext z
  exact List.all_congr rfl fun l => decide_eq_decide.mpr ⟨Eq.symm, Eq.symm⟩
/-- a loop that looks for something: it leaves with v where P holds of an item -/
theorem find_sat {α R : Type} {xs : List α} {f : α → Unit → Cmp (Ctl Unit Unit R)} {P : α → Prop} {V : R → Prop} (h : ∀ x ∈ xs, (f x ()).sat fun c => (c = .nx () ∧ ¬ P x) ∨ (P x ∧ ∃ v, c = .rt v ∧ V v)) :
    (forC (L := Unit) f xs ()).sat fun c => (c = .nx () ∧ ∀ x ∈ xs, ¬ P x) ∨ ((∃ x ∈ xs, P x) ∧ ∃ v, c = .rt v ∧ V v) := by
  refine sat_forCx (fun i _ => ∀ x ∈ xs.take i, ¬ P x) _ (by simp) (fun i x _ hx hi => ?_) fun _ hi => .inl ⟨rfl, by rwa [List.take_length] at hi⟩
  refine sat_mono (h x (List.mem_of_getElem? hx)) fun c hc => ?_
  rcases hc with ⟨rfl, hc⟩ | ⟨hp, v, rfl, hv⟩
  · intro y hy
    rw [take_at hx] at hy
    rcases List.mem_append.mp hy with hy | hy
    · exact hi y hy
    · rw [List.mem_singleton.mp hy]; exact hc
  · exact .inr ⟨⟨x, List.mem_of_getElem? hx, hp⟩, v, rfl, hv⟩
/-- such a loop within another -/
theorem find_in {α R : Type} {xs : List α} {f : α → Unit → Cmp (Ctl Unit Unit R)} {P : α → Prop} {V : R → Prop} (h : ∀ x ∈ xs, (f x ()).sat fun c => (c = .nx () ∧ ¬ P x) ∨ (P x ∧ ∃ v, c = .rt v ∧ V v)) :
    (Cmp.bindC (S2 := Unit) (L := Unit) (forC (L := Unit) f xs ()) fun (_ : Unit) => .ret (.nx ())).sat fun c => (c = .nx () ∧ ¬ ∃ x ∈ xs, P x) ∨ ((∃ x ∈ xs, P x) ∧ ∃ v, c = .rt v ∧ V v) := by
  refine sat_bindC (find_sat h) fun c hc => ?_
  rcases hc with ⟨rfl, hc⟩ | ⟨hp, v, rfl, hv⟩
  · exact sat_ret (.inl ⟨rfl, fun ⟨x, hx, hp⟩ => hc x hx hp⟩)
  · exact sat_ret (.inr ⟨hp, v, rfl, hv⟩)
theorem join_lim : ∀ ls : List Nat, ls.length ≤ 3 → ((ls.map cS).map (·.length)).sum + (ls.map cS).length * (Str.ofString "").length ≤ 16777216 := by
  intro ls hl
  have e : ((ls.map cS).map (·.length)).sum = ls.length := by
    clear hl
    induction ls with
    | nil => rfl
    | cons a ls ih => simp only [List.map_cons, List.sum_cons, ih, List.length_cons, one_len]; omega
  rw [e, List.length_map, show (Str.ofString "").length = 0 by decide +kernel]; omega
theorem range_iff (a b x : Int) : x ∈ rangeL a b ↔ a ≤ x ∧ x < b := by
  unfold rangeL
  rw [List.mem_map]
  constructor
  · rintro ⟨i, hi, e⟩
    have := List.mem_range.mp hi
    omega
  · intro h
    exact ⟨(x - a).toNat, List.mem_range.mpr (by omega), by omega⟩
theorem kept_sat {ns : List Str} (h : ∀ z ∈ ns, z ∈ keyNames) (hl : ns.length ≤ 5) {rows : List Row} (hr : rows.length ≤ 1000) : (m_Keys_kept_by ⟨ns⟩ rows).sat fun v => v = true ↔ ∀ i j : Int, 0 ≤ i → i < j → j < (rows.length : Int) → ns.any (agB (ixL rows i) (ixL rows j)) = false := by
  unfold m_Keys_kept_by
  refine sat_req (by omega) (sat_bindR (find_sat (P := fun i : Int => ∃ j ∈ rangeL (i + 1) (rows.length : Int), ns.any (agB (ixL rows i) (ixL rows j)) = true) (V := (· = false)) fun i hi => ?_) fun c hc => ?_)
  · obtain ⟨i0, i1⟩ := (range_iff _ _ _).mp hi
    refine sat_req (by omega) (find_in (P := fun j : Int => ns.any (agB (ixL rows i) (ixL rows j)) = true) (V := (· = false)) fun j hj => ?_)
    obtain ⟨j0, j1⟩ := (range_iff _ _ _).mp hj
    obtain ⟨o1, o2⟩ := clash_sat h hl (ixL rows i) (ixL rows j)
    refine sat_req ⟨⟨i0, i1⟩, ⟨by omega, j1⟩, o1⟩ ?_
    rw [o2]
    exact sat_ite (fun q => sat_ret (.inr ⟨q, _, rfl, rfl⟩)) fun q => sat_ret (.inl ⟨rfl, fun w => by rw [w] at q; cases q⟩)
  · rcases hc with ⟨rfl, hc⟩ | ⟨⟨i, hi, j, hj, hp⟩, v, rfl, hv⟩
    · refine sat_ret (Iff.intro (fun _ i j h0 h1 h2 => ?_) fun _ => rfl)
      cases q : ns.any (agB (ixL rows i) (ixL rows j)) with
      | false => rfl
      | true => exact absurd ⟨j, (range_iff _ _ _).mpr ⟨by omega, h2⟩, q⟩ (hc i ((range_iff _ _ _).mpr ⟨h0, by omega⟩))
    · subst hv
      refine sat_ret (Iff.intro (fun w => Bool.noConfusion w) fun w => ?_)
      obtain ⟨i0, i1⟩ := (range_iff _ _ _).mp hi
      obtain ⟨j0, j1⟩ := (range_iff _ _ _).mp hj
      rw [w i j i0 (by omega) j1] at hp; cases hp
theorem join_mem (l : Nat) : ∀ ns : List Str, l ∈ charsL (Txt.join (Str.ofString "") ns) ↔ ∃ z ∈ ns, l ∈ charsL z := by
  intro ns
  rw [join_eq]
  induction ns with
  | nil => exact Iff.intro (fun h => absurd (show l ∈ ([] : List Nat) from h) (by simp)) fun ⟨_, h, _⟩ => absurd h (by simp)
  | cons x ns ih =>
    cases ns with
    | nil => exact Iff.intro (fun h => ⟨x, List.mem_cons_self, h⟩) fun ⟨z, h, w⟩ => by rw [List.mem_singleton.mp h] at w; exact w
    | cons y r =>
      have e : charsL (Str.join (Str.ofString "") (x :: y :: r)) = charsL x ++ charsL (Str.join (Str.ofString "") (y :: r)) := by
        show tl (x ++ Str.ofString "" ++ Str.join (Str.ofString "") (y :: r)) = _
        rw [tl_app, tl_app, show tl (Str.ofString "") = [] by decide +kernel, List.append_nil]
      rw [e, List.mem_append, ih]
      constructor
      · rintro (h | ⟨z, h, w⟩)
        · exact ⟨x, List.mem_cons_self, h⟩
        · exact ⟨z, List.mem_cons_of_mem _ h, w⟩
      · rintro ⟨z, h, w⟩
        rcases List.mem_cons.mp h with rfl | h
        · exact .inl w
        · exact .inr ⟨z, h, w⟩
theorem abc_len (P : Nat → Bool) : (((charsL (Str.ofString "abc")).filter P).map fun (x : Nat) => x).length ≤ 3 := by
  rw [List.length_map]
  exact Nat.le_trans (List.length_filter_le _ _) (by decide +kernel)
abbrev dueK (ns : List Str) : Str := Txt.join (Str.ofString "") ((((charsL (Str.ofString "abc")).filter (fun (x : Nat) => (decide (x ∈ charsL (Txt.join (Str.ofString "") ns))))).map (fun (x : Nat) => x)).map cS)
theorem columns_sat {ns : List Str} (hl : ns.length ≤ 5) : (m_Keys_columns ⟨ns⟩).sat (· = dueK ns) := by
  have e : (fun (x : Nat) => (((ns.filter (fun _ => true)).map (fun (z : Str) => (decide (x ∈ charsL z)))).any id)) = fun (x : Nat) => (decide (x ∈ charsL (Txt.join (Str.ofString "") ns))) := by
    funext x
    rw [filter_t, List.any_map]
    refine Bool.eq_iff_iff.mpr ?_
    rw [List.any_eq_true, decide_eq_true_eq, join_mem]
    exact ⟨fun ⟨z, h, w⟩ => ⟨z, h, of_decide_eq_true w⟩, fun ⟨z, h, w⟩ => ⟨z, h, decide_eq_true w⟩⟩
  unfold m_Keys_columns
  show Cmp.sat (Cmp.req ((∀ x1, ∀ (hx2 : x1 ∈ (charsL (Str.ofString "abc"))), ns.length < sizeLine) ∧ ((((((charsL (Str.ofString "abc")).filter (fun (x1 : Nat) => (((ns.filter (fun _ => true)).map (fun (x3 : Str) => (decide (x1 ∈ charsL x3)))).any id))).map (fun (x1 : Nat) => x1)).map cS).map (·.length)).sum + _ ≤ _)) _) _
  refine sat_req ⟨fun _ _ => by rw [size_big]; omega, join_lim _ (abc_len _)⟩ (sat_ret ?_)
  show Txt.join (Str.ofString "") ((((charsL (Str.ofString "abc")).filter (fun (x1 : Nat) => (((ns.filter (fun _ => true)).map (fun (x3 : Str) => (decide (x1 ∈ charsL x3)))).any id))).map (fun (x1 : Nat) => x1)).map cS) = _
  rw [e]
end DL

set_option Elab.async false
set_option linter.all false
set_option maxRecDepth 100000
set_option maxHeartbeats 4000000
namespace DL
open PySem PySem.Spec PyProof.Rows L2 TL
theorem value_sat {d b : Int} : (m_law_value d b).sat fun _ => True := by
  unfold m_law_value
  exact sat_ite (fun _ => sat_ret trivial) fun _ => sat_ite (fun _ => sat_ret trivial) fun _ => sat_ret trivial
theorem rows_sat (s : List Int) {start n b : Int} (h0 : 0 ≤ start) (hn : 0 ≤ n) (hn1 : n ≤ 1000) : (m_law_rows s start n b).sat fun r => r.length = n.toNat := by
  unfold m_law_rows
  refine sat_bnd (sat_req (by omega) (sat_bind (sat_forR (fun i (r : List Row) => r.length = i) rfl fun i r hi hr => ?_) fun r hr => sat_ret hr))
  obtain ⟨o, hp⟩ := pool_sat s (k := start + (i : Int)) (n := 4) (by omega) (by omega) (by omega)
  obtain ⟨i0, _, _⟩ := hp.at (i := 0) (by omega) (by omega)
  obtain ⟨i1, _, _⟩ := hp.at (i := 1) (by omega) (by omega)
  obtain ⟨i2, _, _⟩ := hp.at (i := 2) (by omega) (by omega)
  obtain ⟨i3, _, _⟩ := hp.at (i := 3) (by omega) (by omega)
  have hz : r.length < sizeLine := by rw [size_big]; omega
  refine sat_req o (sat_bnd (sat_req (fun _ => i3) (sat_ite (fun hb => ?_) fun _ => sat_req ⟨i0, value_sat.1, i1, value_sat.1, i2, value_sat.1, hz⟩ (sat_bnd (sat_ret (by simp [hr]))))))
  obtain ⟨b1, _⟩ := (Bool.and_eq_true _ _).mp hb
  have b1 := of_decide_eq_true b1
  have h1 := Int.emod_nonneg (ixL (m_law_pool s (start + (i : Int)) 4).val 0) (show (i : Int) ≠ 0 by omega)
  have h2 := Int.emod_lt_of_pos (ixL (m_law_pool s (start + (i : Int)) 4).val 0) (show 0 < (i : Int) by omega)
  exact sat_req ⟨i0, by omega, ⟨h1, by rw [hr]; exact h2⟩, hz⟩ (sat_bnd (sat_ret (by simp [hr])))
end DL

set_option Elab.async false
set_option linter.all false
set_option maxRecDepth 100000
set_option maxHeartbeats 4000000
namespace DL
open PySem PySem.Spec PyProof.Rows L2 TL
theorem ixL_mem {α : Type} [Inhabited α] {xs : List α} {i : Int} (h0 : 0 ≤ i) (h : i < (xs.length : Int)) : ixL xs i ∈ xs := by
  have hi : i.toNat < xs.length := by omega
  have e : ixL xs i = xs[i.toNat] := by unfold ixL; simp [hi]
  rw [e]; exact List.getElem_mem hi
abbrev namesA : List Str := [(Str.ofString "a"), (Str.ofString "b"), (Str.ofString "c"), (Str.ofString "ab"), (Str.ofString "ac"), (Str.ofString "bc"), (Str.ofString "abc"), (Str.ofString "a"), (Str.ofString "bc"), (Str.ofString "c")]
abbrev namesB : List Str := [(Str.ofString ""), (Str.ofString "d"), (Str.ofString "ba"), (Str.ofString "aa"), (Str.ofString "abcd"), (Str.ofString "cb"), (Str.ofString "A"), (Str.ofString "a b"), (Str.ofString "acb"), (Str.ofString "ca"), (Str.ofString "bb"), (Str.ofString "abb"), (Str.ofString "aab"), (Str.ofString "bcc")]
theorem name_ok : ∀ z ∈ namesA ++ namesB, PyData.strOk z = true ∧ z.length ≤ 4 := by decide +kernel
theorem name_sat {one two : Int} {w : Bool} : (m_law_name one two w).sat fun z => z ∈ namesA ++ namesB := by
  unfold m_law_name
  refine sat_bnd (sat_bind (P := fun l => (l = namesA ∨ l = namesB)) (sat_ite (fun _ => sat_bnd (sat_ret (.inr rfl))) fun _ => sat_ret (.inl rfl)) fun l hl => ?_)
  have hp : 0 < (l.length : Int) := by rcases hl with rfl | rfl <;> decide
  have h1 := Int.emod_nonneg two (show (l.length : Int) ≠ 0 by omega)
  have h2 := Int.emod_lt_of_pos two hp
  refine sat_req ⟨hp, h1, h2⟩ (sat_ret ?_)
  have := ixL_mem h1 h2
  rcases hl with rfl | rfl
  · exact List.mem_append_left _ this
  · exact List.mem_append_right _ this
theorem cut_take {α : Type} (xs : List α) (k : Nat) : cutL xs none (some (k : Int)) = xs.take k := by
  unfold cutL
  rw [HT.sIx_nat]
  show (xs.drop 0).take (min k xs.length - 0) = _
  rw [List.drop_zero, Nat.sub_zero]
  by_cases h : k ≤ xs.length
  · rw [Nat.min_eq_left h]
  · rw [Nat.min_eq_right (by omega), List.take_length, List.take_of_length_le (by omega)]
theorem ag_self (r : Row) (z : Str) : agB r r z = true := by
  rw [List.all_eq_true]; intro l _; exact decide_eq_true rfl
/-- rows with three values of one number each -/
abbrev moreL (m : Int) : List Row := ((rangeL 0 m).filter (fun _ => true)).map (fun (x : Int) => (((100 : Int) + x, (100 : Int) + x, (100 : Int) + x) : Row))
theorem rowAt3 (x : Int) (c : Int) (h : 0 ≤ c ∧ c < 3) : rowAt ((x, x, x) : Row) c = x := by
  obtain ⟨h0, h1⟩ := h
  have : c = 0 ∨ c = 1 ∨ c = 2 := by omega
  rcases this with rfl | rfl | rfl <;> rfl
theorem more_no {z : Str} (hz : z ∈ keyNames) {x y : Int} (h : x ≠ y) : agB ((x, x, x) : Row) ((y, y, y) : Row) z = false := by
  obtain ⟨_, hne⟩ := key_len z hz
  cases q : agB ((x, x, x) : Row) ((y, y, y) : Row) z with
  | false => rfl
  | true =>
    obtain ⟨l, hl⟩ := List.exists_mem_of_ne_nil _ hne
    have := of_decide_eq_true (List.all_eq_true.mp q l hl)
    rw [rowAt3 _ _ (find_all z hz l hl), rowAt3 _ _ (find_all z hz l hl)] at this
    exact absurd this h
theorem law_true (s : List Int) (h : s.length ≤ 63) : (m_law s).ok ∧ (m_law s).val = true := by
  show (m_law s).sat (· = true)
  unfold m_law
  obtain ⟨oa, ha⟩ := pool_sat s (k := 0) (n := 20) (by omega) (by omega) (by omega)
  refine sat_req oa (sat_bnd ?_)
  generalize (m_law_pool s 0 20).val = pool at ha ⊢
  obtain ⟨i7, a7, b7⟩ := ha.at (i := 7) (by omega) (by omega)
  obtain ⟨i6, _, _⟩ := ha.at (i := 6) (by omega) (by omega)
  obtain ⟨i8, a8, b8⟩ := ha.at (i := 8) (by omega) (by omega)
  obtain ⟨i9, a9, b9⟩ := ha.at (i := 9) (by omega) (by omega)
  have hm : 0 ≤ ixL pool 7 % 6 ∧ ixL pool 7 % 6 < 6 := by omega
  generalize ixL pool 7 % 6 = m at hm ⊢
  have hr : ∀ x ∈ rangeL 0 m, 0 ≤ x ∧ x < 5 := fun x hx => by have := (range_iff _ _ _).mp hx; omega
  have hlen : (rangeL 0 m).length ≤ 5 := by simp [rangeL]; omega
  refine sat_req ⟨i7, by omega, fun x hx => (ha.at (i := 10 + 2 * x) (by have := hr x hx; omega) (by have := hr x hx; omega)).1, fun x hx => (ha.at (i := 11 + 2 * x) (by have := hr x hx; omega) (by have := hr x hx; omega)).1, fun _ _ => i6, fun _ _ => name_sat.1, by rw [size_big]; omega⟩ (sat_bnd ?_)
  have hN : ∀ z ∈ (((rangeL 0 m).filter (fun _ => true)).map (fun (x4 : Int) => (m_law_name (ixL pool ((10 : Int) + ((2 : Int) * x4))) (ixL pool ((11 : Int) + ((2 : Int) * x4))) (decide (((ixL pool (6 : Int)) % (2 : Int)) = (1 : Int)))).val)), z ∈ namesA ++ namesB := fun z hz => by
    obtain ⟨x, _, rfl⟩ := List.mem_map.mp hz
    exact name_sat.2
  have hNl : (((rangeL 0 m).filter (fun _ => true)).map (fun (x4 : Int) => (m_law_name (ixL pool ((10 : Int) + ((2 : Int) * x4))) (ixL pool ((11 : Int) + ((2 : Int) * x4))) (decide (((ixL pool (6 : Int)) % (2 : Int)) = (1 : Int)))).val)).length ≤ 5 := by rw [List.length_map, filter_t]; exact hlen
  generalize (((rangeL 0 m).filter (fun _ => true)).map _) = names at hN hNl ⊢
  refine sat_req (by rw [size_big]; omega) (sat_bnd ?_)
  have ew : ((names.filter (fun (x11 : Str) => (!decide (x11 ∈ ([(Str.ofString "a"), (Str.ofString "b"), (Str.ofString "c"), (Str.ofString "ab"), (Str.ofString "ac"), (Str.ofString "bc"), (Str.ofString "abc")] : List Str))))).map (fun (x11 : Str) => x11)) = badOf names := List.map_id' _
  rw [ew]
  obtain ⟨r1, r2⟩ := refused_sat hNl
  have ec : cutL (badOf names) none (some (1 : Int)) = (badOf names).take 1 := cut_take _ 1
  rw [ec, r2]
  have hso : ∀ y ∈ (badOf names).take 1, PyData.strOk y = true := fun y hy => (name_ok y (hN y (List.mem_filter.mp (List.mem_of_mem_take hy)).1)).1
  refine sat_req ⟨r1, hso, hso⟩ (sat_ite (fun q => by simp at q) fun _ => sat_bnd ?_)
  have e2 : ((names.filter (fun (x20 : Str) => (!decide (x20 ∈ badOf names)))).map (fun (x20 : Str) => x20)) = names.filter fun x => !decide (x ∈ badOf names) := List.map_id' _
  rw [e2]
  have hk : ∀ z ∈ names.filter (fun x => !decide (x ∈ badOf names)), z ∈ keyNames := fun z hz => by
    obtain ⟨h1, h2⟩ := List.mem_filter.mp hz
    cases q : decide (z ∈ keyNames) with
    | true => exact of_decide_eq_true q
    | false =>
      have : z ∈ badOf names := List.mem_filter.mpr ⟨h1, by rw [q]; rfl⟩
      rw [decide_eq_true this] at h2; cases h2
  have hl : (names.filter fun x => !decide (x ∈ badOf names)).length ≤ 5 := Nat.le_trans (List.length_filter_le _ _) hNl
  generalize (names.filter fun x => !decide (x ∈ badOf names)) = ns at hk hl ⊢
  clear hso r1 r2 ec ew e2 hN hNl
  have hb : badOf ns = [] := List.filter_eq_nil_iff.mpr fun z hz => by rw [decide_eq_true (hk z hz)]; decide
  obtain ⟨j1, j2⟩ := lawmade_sat hl
  rw [outK_ok hb] at j2
  have jv : (m_law_made ns).val = ⟨ns⟩ := calm_val j2
  have jo : (m_law_made ns).ok := ⟨j1, by rw [j2]; trivial⟩
  rw [jv]
  have sum3 : (ns.map (·.length)).sum + ns.length * (Str.ofString "").length ≤ 16777216 := by
    have : (ns.map (·.length)).sum ≤ ns.length * 3 := by
      clear jv jo j1 j2 hb hl
      induction ns with
      | nil => simp
      | cons x l ih =>
        rw [List.map_cons, List.sum_cons, List.length_cons, Nat.succ_mul]
        have := ih fun z hz => hk z (List.mem_cons_of_mem _ hz)
        have := (key_len x (hk x List.mem_cons_self)).1
        have : x.length = (charsL x).length := len_tl x
        omega
    rw [show (Str.ofString "").length = 0 by decide +kernel]; omega
  obtain ⟨k1, k2⟩ := columns_sat hl
  refine sat_req jo (sat_bnd (sat_req ⟨fun _ _ => sum3, join_lim _ (abc_len _)⟩ (sat_bnd (sat_req ⟨k1, fun _ => k1⟩ (sat_ite (fun q => ?_) fun _ => ?_)))))
  · rw [show decide ((m_Keys_columns ⟨ns⟩).val = _) = true from decide_eq_true k2] at q; cases q
  obtain ⟨q1, q2⟩ := rows_sat s (start := 1) (n := ixL pool 8 % 15) (b := 0) (by omega) (by omega) (by omega)
  refine sat_req ⟨i8, q1⟩ (sat_bnd (sat_bnd ?_))
  replace q2 : (m_law_rows s 1 (ixL pool 8 % 15) 0).val.length ≤ 15 := by have : _ = _ := q2; omega
  generalize (m_law_rows s 1 (ixL pool 8 % 15) 0).val = rows at q2 ⊢
  have C := fun r o => clash_sat hk hl r o
  have L := fun r o => lclash_sat hk r o
  refine sat_req (by omega) (sat_bindR (P := fun c => ∃ kept : Bool, c = .nx kept ∧ (kept = true ↔ ∀ k : Nat, k < rows.length → ∀ o ∈ rows.take k, ns.any (agB (ixL rows (k : Int)) o) = false)) (sat_mono (sat_forC (fun i (kept : Bool) => kept = true ↔ ∀ k : Nat, k < i → ∀ o ∈ rows.take k, ns.any (agB (ixL rows (k : Int)) o) = false) ⟨fun _ k hk => absurd hk (by omega), fun _ => rfl⟩ fun i x kept hx hi => ?_) fun c hc => ?_) fun c hc => ?_)
  · have hlr : (rangeL 0 (rows.length : Int)).length = rows.length := by simp [rangeL]
    have hil : i < rows.length := by have := (List.getElem?_eq_some_iff.mp hx).1; omega
    have hxi : x = (i : Int) := by
      obtain ⟨hh, e⟩ := List.getElem?_eq_some_iff.mp hx
      rw [← e]; simp [rangeL]
    subst hxi
    rw [cut_take]
    refine sat_bindC (P := fun c => ∃ k2 : Bool, c = .nx k2 ∧ (k2 = true ↔ (kept = true ∧ ∀ o ∈ rows.take i, ns.any (agB (ixL rows (i : Int)) o) = false))) (sat_mono (sat_forC (fun j (k2 : Bool) => k2 = true ↔ (kept = true ∧ ∀ o ∈ (rows.take i).take j, ns.any (agB (ixL rows (i : Int)) o) = false)) ⟨fun w => ⟨w, by simp⟩, fun w => w.1⟩ fun j o k2 ho hj => ?_) fun c ⟨k2, e, w⟩ => ⟨k2, e, by rwa [List.take_length] at w⟩) fun c hc => ?_
    · obtain ⟨c1, c2⟩ := C (ixL rows (i : Int)) o
      obtain ⟨c3, c4⟩ := C o (ixL rows (i : Int))
      obtain ⟨l1, l2⟩ := L (ixL rows (i : Int)) o
      rw [l2, c2, c4, ag_comm (ixL rows (i : Int)) o]
      refine sat_req ⟨by omega, l1⟩ (sat_bind (P := fun k3 => k3 = true ↔ (k2 = true ∧ ns.any (agB (ixL rows (i : Int)) o) = false)) (sat_ite (fun q => sat_bnd (sat_ret ⟨fun w => Bool.noConfusion w, fun w => by rw [q] at w; cases w.2⟩)) fun q => sat_ret ⟨fun w => ⟨w, q⟩, fun w => w.1⟩) fun k3 hk3 => sat_req ⟨c1, c3⟩ (sat_bindC (P := (· = .nx ())) (sat_quiet fun a ha2 => sat_ite (fun q => ?_) fun _ => sat_ret rfl) fun c hc => ?_))
      · have : a = ns.any (agB (ixL rows (i : Int)) o) := by simpa using ha2
        rw [this] at q; simp at q
      · subst hc
        refine sat_ret ⟨k3, .inl rfl, ?_⟩
        rw [hk3, hj, take_at ho]
        constructor
        · rintro ⟨⟨w1, w2⟩, w3⟩
          refine ⟨w1, fun o' ho' => ?_⟩
          rcases List.mem_append.mp ho' with ho' | ho'
          · exact w2 o' ho'
          · rw [List.mem_singleton.mp ho']; exact w3
        · rintro ⟨w1, w2⟩
          exact ⟨⟨w1, fun o' ho' => w2 o' (List.mem_append_left _ ho')⟩, w2 o (List.mem_append_right _ (List.mem_singleton.mpr rfl))⟩
    · obtain ⟨k2, rfl, w⟩ := hc
      refine sat_ret ⟨k2, .inl rfl, ?_⟩
      rw [w, hi]
      constructor
      · rintro ⟨w1, w2⟩ k hki
        by_cases e : k = i
        · rw [e]; exact w2
        · exact w1 k (by omega)
      · intro w1
        exact ⟨fun k hki => w1 k (by omega), w1 i (by omega)⟩
  · obtain ⟨kept, e, w⟩ := hc
    refine ⟨kept, e, ?_⟩
    rwa [show (rangeL 0 (rows.length : Int)).length = rows.length by simp [rangeL]] at w
  obtain ⟨kept, rfl, hkept⟩ := hc
  have ixg : ∀ (xs : List Row) (i : Nat) (hi : i < xs.length), ixL xs (i : Int) = xs[i] := fun xs i hi => by unfold ixL; simp [hi]
  have K := fun (xs : List Row) (hx : xs.length ≤ 1000) => kept_sat hk hl hx
  obtain ⟨v1, v2⟩ := K rows (by omega)
  obtain ⟨y1, y2⟩ := K [] (by simp)
  have hsame : (m_Keys_kept_by ⟨ns⟩ rows).val = kept := Bool.eq_iff_iff.mpr (v2.trans (Iff.trans ⟨fun w k hkr o ho => ?_, fun w i j h0 h1 h2 => ?_⟩ hkept.symm))
  rotate_left
  · obtain ⟨j, hj, e⟩ := List.mem_take_iff_getElem.mp ho
    have := w (j : Int) (k : Int) (by omega) (by omega) (by omega)
    rw [ixg rows j (by omega), e] at this
    rw [ag_comm] at this; exact this
  · have := w j.toNat (by omega) (ixL rows i) (by
      have := ixg rows i.toNat (by omega)
      rw [show ((i.toNat : Nat) : Int) = i by omega] at this
      rw [this]
      exact List.mem_take_iff_getElem.mpr ⟨i.toNat, by omega, rfl⟩)
    rw [show ((j.toNat : Nat) : Int) = j by omega, ag_comm] at this
    exact this
  have hempty : (m_Keys_kept_by ⟨ns⟩ []).val = true := y2.mpr fun i j h0 h1 h2 => absurd h2 (by simp; omega)
  show Cmp.sat (Cmp.bnd _ _) _
  refine sat_bnd (sat_req v1 (sat_bnd (sat_ite (fun q => ?_) fun _ => ?_)))
  · rw [hsame] at q; simp at q
  have hm9 : 0 ≤ ixL pool 9 % 40 ∧ ixL pool 9 % 40 < 40 := by omega
  generalize ixL pool 9 % 40 = m9 at hm9 ⊢
  have hml : (moreL m9).length ≤ 40 := by simp [moreL, filter_t, rangeL]; omega
  have ecut : cutL rows none (some (1 : Int)) = rows.take 1 := cut_take _ 1
  rw [ecut]
  have ht1 : (rows.take 1).length ≤ 1 := by simp; omega
  obtain ⟨z1, z2⟩ := K ((rows ++ moreL m9) ++ rows.take 1) (by rw [List.length_append, List.length_append]; omega)
  refine sat_req ⟨i9, by omega, by rw [size_big]; simp [rangeL]; omega⟩ (sat_bnd (sat_req ⟨by rw [size_big]; show rows.length + (moreL m9).length ≤ _; omega, by rw [size_big]; show (rows ++ moreL m9).length + (rows.take 1).length ≤ _; rw [List.length_append]; omega, z1⟩ (sat_bnd (sat_bnd (sat_req (fun _ _ => y1) (sat_ret ?_))))))
  show (true && (decide ((m_Keys_kept_by ⟨ns⟩ ((rows ++ moreL m9) ++ rows.take 1)).val = (kept && (!(decide ((ns.length : Int) > 0) && decide ((rows.length : Int) > 0))))) && decide ((m_Keys_kept_by ⟨ns⟩ []).val = true))) = true
  rw [hempty]
  have fin : (m_Keys_kept_by ⟨ns⟩ ((rows ++ moreL m9) ++ rows.take 1)).val = (kept && (!(decide ((ns.length : Int) > 0) && decide ((rows.length : Int) > 0)))) := by
    by_cases hn0 : ns = []
    · subst hn0
      rw [z2.mpr fun i j _ _ _ => rfl, hkept.mpr fun k _ o _ => rfl]; rfl
    · have hnp : 0 < ns.length := List.length_pos_iff.mpr hn0
      rw [decide_eq_true (show (ns.length : Int) > 0 by omega)]
      by_cases hr0 : rows = []
      · subst hr0
        rw [hkept.mpr fun k hk => absurd hk (by simp)]
        refine z2.mpr fun i j h0 h1 h2 => ?_
        have ee : (([] : List Row) ++ moreL m9) ++ ([] : List Row).take 1 = moreL m9 := by simp
        rw [ee] at h2 ⊢
        have hg : ∀ k : Int, 0 ≤ k → k < ((moreL m9).length : Int) → ixL (moreL m9) k = (100 + k, 100 + k, 100 + k) := fun k k0 k1 => by
          have := ixg (moreL m9) k.toNat (by omega)
          rw [show ((k.toNat : Nat) : Int) = k by omega] at this
          rw [this]; simp [moreL, filter_t, rangeL]; omega
        rw [hg i h0 (by omega), hg j (by omega) h2]
        rw [List.any_eq_false]
        intro z hz
        rw [more_no (hk z hz) (by omega)]; decide
      · have hrp : 0 < rows.length := List.length_pos_iff.mpr hr0
        rw [decide_eq_true (show (rows.length : Int) > 0 by omega)]
        have hT : rows.take 1 = [rows[0]] := by
          cases rows with
          | nil => cases hrp
          | cons r l => rfl
        cases q : (m_Keys_kept_by ⟨ns⟩ ((rows ++ moreL m9) ++ rows.take 1)).val with
        | false => simp
        | true =>
          have el : ((rows ++ moreL m9) ++ rows.take 1).length = rows.length + (moreL m9).length + 1 := by rw [List.length_append, List.length_append, hT]; rfl
          have w := z2.mp q 0 ((rows.length + (moreL m9).length : Nat) : Int) (by omega) (by omega) (by rw [el]; omega)
          have g0 := ixg ((rows ++ moreL m9) ++ rows.take 1) 0 (by rw [List.length_append, List.length_append]; omega)
          have g1 := ixg ((rows ++ moreL m9) ++ rows.take 1) (rows.length + (moreL m9).length) (by rw [el]; omega)
          rw [show ((0 : Int)) = ((0 : Nat) : Int) by rfl, g0, g1] at w
          have e0 : ((rows ++ moreL m9) ++ rows.take 1)[0]'(by rw [List.length_append, List.length_append]; omega) = rows[0] := by simp [List.getElem_append, hrp]
          have e1 : ((rows ++ moreL m9) ++ rows.take 1)[rows.length + (moreL m9).length]'(by rw [el]; omega) = rows[0] := by
            rw [List.getElem_append_right (by simp)]; simp
          rw [e0, e1] at w
          obtain ⟨z, hz⟩ := List.exists_mem_of_ne_nil _ hn0
          rw [List.any_eq_false] at w
          exact absurd (ag_self _ z) (w z hz)
  rw [fin]; simp
end DL

set_option Elab.async false
set_option linter.all false
set_option maxRecDepth 100000
set_option maxHeartbeats 4000000
namespace DL
open PySem PySem.Spec PyProof.Rows L2 TL
theorem law_ok {ad : Ads} (L : Om) (s : List Int) (h : s.length ≤ 63) : ar_law ad L [.frl (s.map D.int)] (.bl true) := ⟨_, s, rfl, .inr rfl, (law_true s h).1, by rw [(law_true s h).2]⟩
abbrev s_BadKey___init__ : Stmt := inClass (top 2) 0
theorem all_mk {P : Program} {w : World} {K : PySem.W.Frag} {h : Heap} {mg : Str → Option Value} {fa : Addr} (X : K.In h) (G : h.Ns mainGlobals mg) (hfa : mg "law" = some (.ref fa))
    {CKeys f_agree f_Keys___init__ aKEY_NAMES CBadKey CTableError f_BadKey___init__ f_Keys_columns p_Keys_columns f_Keys_clash f_Keys_kept_by f_law_pool f_law_clash f_law_value f_law_rows f_law_name f_law_made f_law_refused CClash f_law : Addr} {od_agree an_agree od_Keys___init__ an_Keys___init__ od_Keys_columns an_Keys_columns od_Keys_clash an_Keys_clash od_Keys_kept_by an_Keys_kept_by od_law_pool an_law_pool od_law_clash an_law_clash od_law_value an_law_value od_law_rows an_law_rows od_law_name an_law_name od_law_made an_law_made od_law_refused an_law_refused od_law an_law : Option Addr} {sl_agree sl_Keys___init__ sl_Keys_columns sl_Keys_clash sl_Keys_kept_by sl_law_pool sl_law_clash sl_law_value sl_law_rows sl_law_name sl_law_made sl_law_refused sl_law : Array (Option Value)} {oc_agree kV_agree dc_agree pm_agree cd_agree ct_agree oc_Keys___init__ kV_Keys___init__ dc_Keys___init__ pm_Keys___init__ cd_Keys___init__ ct_Keys___init__ oc_Keys_columns kV_Keys_columns dc_Keys_columns pm_Keys_columns cd_Keys_columns ct_Keys_columns oc_Keys_clash kV_Keys_clash dc_Keys_clash pm_Keys_clash cd_Keys_clash ct_Keys_clash oc_Keys_kept_by kV_Keys_kept_by dc_Keys_kept_by pm_Keys_kept_by cd_Keys_kept_by ct_Keys_kept_by oc_law_pool kV_law_pool dc_law_pool pm_law_pool cd_law_pool ct_law_pool oc_law_clash kV_law_clash dc_law_clash pm_law_clash cd_law_clash ct_law_clash oc_law_value kV_law_value dc_law_value pm_law_value cd_law_value ct_law_value oc_law_rows kV_law_rows dc_law_rows pm_law_rows cd_law_rows ct_law_rows oc_law_name kV_law_name dc_law_name pm_law_name cd_law_name ct_law_name oc_law_made kV_law_made dc_law_made pm_law_made cd_law_made ct_law_made oc_law_refused kV_law_refused dc_law_refused pm_law_refused cd_law_refused ct_law_refused oc_law kV_law dc_law pm_law cd_law ct_law : Value} {rest_Keys_columns : List Value} {tCOLUMNS : Tok} {tK0 tK1 tK2 tK3 tK4 tK5 tK6 : Tok} {nKEY : Nat} {slKEY : Array (Option Value)} {odKEY : Option Addr} {nm_BadKey q_BadKey : Str} {N_BadKey : Addr} {bs_BadKey : List Value} {sn_BadKey : List Str} {sub_BadKey : List Value} {ab_BadKey : Bool} {col_BadKey : Option Bool} {dd_BadKey : Option Addr} {m0_BadKey m1_BadKey m2_BadKey m3_BadKey m5_BadKey : Option Value} {oc_BadKey : Value} {od_BadKey : Option Addr} {kV_BadKey dc_BadKey pm_BadKey : Value} {an_BadKey : Option Addr} {ct_BadKey : Value} {sl_BadKey : Array (Option Value)} {cda_BadKey cc_BadKey : Addr} {ccl_BadKey cl_BadKey : Value} {cdd_BadKey cld_BadKey : Option Addr} {ccs_BadKey csl_BadKey : Array (Option Value)} {fs_BadKey : Array Value} {file_BadKey : Str} {tf_BadKey : Tok}
    (aC_Keys : PySem.W.nsIn K mainGlobals "Keys" = some (some (.ref CKeys)))
    (pg_Keys : PySem.W.plainGet K CKeys Str.empty = true)
    (hd_Keys : PySem.W.hasDictIn K CKeys = true)
    (po_Keys : PySem.W.plainOver K CKeys = true)
    (sa_Keys : PySem.W.findIn K (.ref CKeys) "__setattr__" = some (some (.builtin "object.__setattr__")))
    (a_agree : PySem.W.nsIn K mainGlobals "agree" = some (some (.ref f_agree)))
    (l_agree : K.lookup f_agree = some ⟨oc_agree, od_agree, .func (PySem.W.fnOf "agree" "agree" (defArgs s_agree) (defBody s_agree) (defScope s_agree) .none kV_agree dc_agree pm_agree an_agree cd_agree ct_agree), sl_agree⟩)
    (c_agree : PySem.W.codeIn K cd_agree "agree" = true)
    (kp_agree : PySem.W.keepIn K (.ref f_agree) = true)
    (ga_COLUMNS : PySem.W.nsIn K mainGlobals "COLUMNS" = some (some (.str "abc" tCOLUMNS)))
    (z_all : PySem.W.nsIn K mainGlobals "all" = some none)
    (a_Keys___init__ : PySem.W.findIn K (.ref CKeys) "__init__" = some (some (.ref f_Keys___init__)))
    (i_Keys___init__ : PySem.W.isFn K (.ref f_Keys___init__) = true)
    (l_Keys___init__ : K.lookup f_Keys___init__ = some ⟨oc_Keys___init__, od_Keys___init__, .func (PySem.W.fnOf "__init__" "Keys.__init__" (defArgs s_Keys___init__) (defBody s_Keys___init__) (defScope s_Keys___init__) .none kV_Keys___init__ dc_Keys___init__ pm_Keys___init__ an_Keys___init__ cd_Keys___init__ ct_Keys___init__), sl_Keys___init__⟩)
    (c_Keys___init__ : PySem.W.codeIn K cd_Keys___init__ "Keys.__init__" = true)
    (kp_Keys___init__ : PySem.W.keepIn K (.ref f_Keys___init__) = true)
    (ga_KEY_NAMES : PySem.W.nsIn K mainGlobals "KEY_NAMES" = some (some (.ref aKEY_NAMES)))
    (l_KEY_NAMES : K.lookup aKEY_NAMES = some ⟨.type "tuple", odKEY, .seq #[.str "a" tK0, .str "b" tK1, .str "c" tK2, .str "ab" tK3, .str "ac" tK4, .str "bc" tK5, .str "abc" tK6] nKEY, slKEY⟩)
    (aC_BadKey : PySem.W.nsIn K mainGlobals "BadKey" = some (some (.ref CBadKey)))
    (aC_TableError : PySem.W.nsIn K mainGlobals "TableError" = some (some (.ref CTableError)))
    (xL_BadKey : K.lookup CBadKey = some (excClassObj nm_BadKey q_BadKey CBadKey N_BadKey bs_BadKey [.ref CTableError, .type "ValueError", .type "Exception", .type "BaseException", .type "object"] true sn_BadKey sub_BadKey ab_BadKey col_BadKey dd_BadKey m0_BadKey m1_BadKey m2_BadKey m3_BadKey m5_BadKey "ValueError.__new__"))
    (es_BadKey : PySem.W.findIn K (.ref CBadKey) "__setattr__" = some (some (.builtin "object.__setattr__")))
    (eg_BadKey : PySem.W.findIn K (.ref CBadKey) "__getattribute__" = some (some (.builtin "BaseException.__getattribute__")))
    (ek_BadKey : PySem.W.findIn K (.ref CBadKey) "__getattr__" = some none)
    (en_BadKey : PySem.W.findIn K (.ref CBadKey) "name" = some none)
    (ei_BadKey : PySem.W.findIn K (.ref CBadKey) "__init__" = some (some (.ref f_BadKey___init__)))
    (et_BadKey : PySem.W.typeIn K (.ref f_BadKey___init__) = some (.type "function"))
    (ekp_BadKey : PySem.W.keepIn K (.ref CBadKey) = true)
    (eex_BadKey : PySem.W.subIn K (.ref CBadKey) (.type "BaseException") = some true)
    (ety_BadKey : PySem.W.typeIn K (.ref CBadKey) = some (.type "type"))
    (ehd_BadKey : PySem.W.hasDictIn K CBadKey = true)
    (emr_BadKey : PySem.W.mroIn K CBadKey (.ref CBadKey) = some true)
    (esu_BadKey : PySem.W.ks_superIn K CBadKey CBadKey "__init__" = some (some (.builtin "ValueError.__init__")))
    (eve_BadKey : PySem.W.subIn K (.ref CBadKey) (.type "ValueError") = some true)
    (est : PySem.W.nsIn K cStatics "thirdparty.any" = some none)
    (z_super : PySem.W.nsIn K mainGlobals "super" = some none)
    (etp : (P.main.scope.names.lookup ("super" : Str)).isSome = false)
    (l_BadKey___init__ : K.lookup f_BadKey___init__ = some ⟨oc_BadKey, od_BadKey, .func (PySem.W.fnX "__init__" "BadKey.__init__" (defArgs s_BadKey___init__) (defBody s_BadKey___init__) (defScope s_BadKey___init__) [("__class__", cc_BadKey)] .none kV_BadKey dc_BadKey pm_BadKey an_BadKey (.ref cda_BadKey) ct_BadKey), sl_BadKey⟩)
    (c_BadKey___init__ : PySem.W.codeIn K (.ref cda_BadKey) "BadKey.__init__" = true)
    (hc_BadKey : K.lookup cda_BadKey = some ⟨ccl_BadKey, cdd_BadKey, .fields fs_BadKey, ccs_BadKey⟩)
    (hf_BadKey : fs_BadKey[2]? = some (.str file_BadKey tf_BadKey))
    (hl_BadKey : ((P.main.file : Str) == file_BadKey) = true)
    (hw_BadKey : K.lookup cc_BadKey = some ⟨cl_BadKey, cld_BadKey, .cell (some (.ref CBadKey)), csl_BadKey⟩)
    (na_Keys_names : PySem.W.findIn K (.ref CKeys) "names" = some none)
    (pa_Keys_columns : PySem.W.findIn K (.ref CKeys) "columns" = some (some (.ref p_Keys_columns)))
    (pb_Keys_columns : PySem.W.specialIn K (.ref p_Keys_columns) "__get__" = some (some (.builtin "property.__get__")))
    (pc_Keys_columns : PySem.W.takesIn K (.ref p_Keys_columns) = some true)
    (pd_Keys_columns : PySem.W.recIn K p_Keys_columns "property" = some (.ref f_Keys_columns :: rest_Keys_columns))
    (l_Keys_columns : K.lookup f_Keys_columns = some ⟨oc_Keys_columns, od_Keys_columns, .func (PySem.W.fnOf "columns" "Keys.columns" (defArgs s_Keys_columns) (defBody s_Keys_columns) (defScope s_Keys_columns) .none kV_Keys_columns dc_Keys_columns pm_Keys_columns an_Keys_columns cd_Keys_columns ct_Keys_columns), sl_Keys_columns⟩)
    (c_Keys_columns : PySem.W.codeIn K cd_Keys_columns "Keys.columns" = true)
    (kp_Keys_columns : PySem.W.keepIn K (.ref f_Keys_columns) = true)
    (z_any : PySem.W.nsIn K mainGlobals "any" = some none)
    (a_Keys_clash : PySem.W.findIn K (.ref CKeys) "clash" = some (some (.ref f_Keys_clash)))
    (i_Keys_clash : PySem.W.isFn K (.ref f_Keys_clash) = true)
    (l_Keys_clash : K.lookup f_Keys_clash = some ⟨oc_Keys_clash, od_Keys_clash, .func (PySem.W.fnOf "clash" "Keys.clash" (defArgs s_Keys_clash) (defBody s_Keys_clash) (defScope s_Keys_clash) .none kV_Keys_clash dc_Keys_clash pm_Keys_clash an_Keys_clash cd_Keys_clash ct_Keys_clash), sl_Keys_clash⟩)
    (c_Keys_clash : PySem.W.codeIn K cd_Keys_clash "Keys.clash" = true)
    (kp_Keys_clash : PySem.W.keepIn K (.ref f_Keys_clash) = true)
    (a_Keys_kept_by : PySem.W.findIn K (.ref CKeys) "kept_by" = some (some (.ref f_Keys_kept_by)))
    (i_Keys_kept_by : PySem.W.isFn K (.ref f_Keys_kept_by) = true)
    (l_Keys_kept_by : K.lookup f_Keys_kept_by = some ⟨oc_Keys_kept_by, od_Keys_kept_by, .func (PySem.W.fnOf "kept_by" "Keys.kept_by" (defArgs s_Keys_kept_by) (defBody s_Keys_kept_by) (defScope s_Keys_kept_by) .none kV_Keys_kept_by dc_Keys_kept_by pm_Keys_kept_by an_Keys_kept_by cd_Keys_kept_by ct_Keys_kept_by), sl_Keys_kept_by⟩)
    (c_Keys_kept_by : PySem.W.codeIn K cd_Keys_kept_by "Keys.kept_by" = true)
    (kp_Keys_kept_by : PySem.W.keepIn K (.ref f_Keys_kept_by) = true)
    (z_len : PySem.W.nsIn K mainGlobals "len" = some none)
    (z_range : PySem.W.nsIn K mainGlobals "range" = some none)
    (a_law_pool : PySem.W.nsIn K mainGlobals "_law_pool" = some (some (.ref f_law_pool)))
    (l_law_pool : K.lookup f_law_pool = some ⟨oc_law_pool, od_law_pool, .func (PySem.W.fnOf "_law_pool" "_law_pool" (defArgs s_law_pool) (defBody s_law_pool) (defScope s_law_pool) .none kV_law_pool dc_law_pool pm_law_pool an_law_pool cd_law_pool ct_law_pool), sl_law_pool⟩)
    (c_law_pool : PySem.W.codeIn K cd_law_pool "_law_pool" = true)
    (kp_law_pool : PySem.W.keepIn K (.ref f_law_pool) = true)
    (z_int : PySem.W.nsIn K mainGlobals "int" = some none)
    (a_law_clash : PySem.W.nsIn K mainGlobals "_law_clash" = some (some (.ref f_law_clash)))
    (l_law_clash : K.lookup f_law_clash = some ⟨oc_law_clash, od_law_clash, .func (PySem.W.fnOf "_law_clash" "_law_clash" (defArgs s_law_clash) (defBody s_law_clash) (defScope s_law_clash) .none kV_law_clash dc_law_clash pm_law_clash an_law_clash cd_law_clash ct_law_clash), sl_law_clash⟩)
    (c_law_clash : PySem.W.codeIn K cd_law_clash "_law_clash" = true)
    (kp_law_clash : PySem.W.keepIn K (.ref f_law_clash) = true)
    (a_law_value : PySem.W.nsIn K mainGlobals "_law_value" = some (some (.ref f_law_value)))
    (l_law_value : K.lookup f_law_value = some ⟨oc_law_value, od_law_value, .func (PySem.W.fnOf "_law_value" "_law_value" (defArgs s_law_value) (defBody s_law_value) (defScope s_law_value) .none kV_law_value dc_law_value pm_law_value an_law_value cd_law_value ct_law_value), sl_law_value⟩)
    (c_law_value : PySem.W.codeIn K cd_law_value "_law_value" = true)
    (kp_law_value : PySem.W.keepIn K (.ref f_law_value) = true)
    (a_law_rows : PySem.W.nsIn K mainGlobals "_law_rows" = some (some (.ref f_law_rows)))
    (l_law_rows : K.lookup f_law_rows = some ⟨oc_law_rows, od_law_rows, .func (PySem.W.fnOf "_law_rows" "_law_rows" (defArgs s_law_rows) (defBody s_law_rows) (defScope s_law_rows) .none kV_law_rows dc_law_rows pm_law_rows an_law_rows cd_law_rows ct_law_rows), sl_law_rows⟩)
    (c_law_rows : PySem.W.codeIn K cd_law_rows "_law_rows" = true)
    (kp_law_rows : PySem.W.keepIn K (.ref f_law_rows) = true)
    (a_law_name : PySem.W.nsIn K mainGlobals "_law_name" = some (some (.ref f_law_name)))
    (l_law_name : K.lookup f_law_name = some ⟨oc_law_name, od_law_name, .func (PySem.W.fnOf "_law_name" "_law_name" (defArgs s_law_name) (defBody s_law_name) (defScope s_law_name) .none kV_law_name dc_law_name pm_law_name an_law_name cd_law_name ct_law_name), sl_law_name⟩)
    (c_law_name : PySem.W.codeIn K cd_law_name "_law_name" = true)
    (kp_law_name : PySem.W.keepIn K (.ref f_law_name) = true)
    (a_law_made : PySem.W.nsIn K mainGlobals "_law_made" = some (some (.ref f_law_made)))
    (l_law_made : K.lookup f_law_made = some ⟨oc_law_made, od_law_made, .func (PySem.W.fnOf "_law_made" "_law_made" (defArgs s_law_made) (defBody s_law_made) (defScope s_law_made) .none kV_law_made dc_law_made pm_law_made an_law_made cd_law_made ct_law_made), sl_law_made⟩)
    (c_law_made : PySem.W.codeIn K cd_law_made "_law_made" = true)
    (kp_law_made : PySem.W.keepIn K (.ref f_law_made) = true)
    (mm_Keys : PySem.W.makesIn K CKeys = true)
    (mc_Keys : PySem.W.keepIn K (.ref CKeys) = true)
    (a_law_refused : PySem.W.nsIn K mainGlobals "_law_refused" = some (some (.ref f_law_refused)))
    (l_law_refused : K.lookup f_law_refused = some ⟨oc_law_refused, od_law_refused, .func (PySem.W.fnOf "_law_refused" "_law_refused" (defArgs s_law_refused) (defBody s_law_refused) (defScope s_law_refused) .none kV_law_refused dc_law_refused pm_law_refused an_law_refused cd_law_refused ct_law_refused), sl_law_refused⟩)
    (c_law_refused : PySem.W.codeIn K cd_law_refused "_law_refused" = true)
    (kp_law_refused : PySem.W.keepIn K (.ref f_law_refused) = true)
    (ess_BadKey : PySem.W.subIn K (.ref CBadKey) (.ref CBadKey) = some true)
    (ecl_BadKey : PySem.W.findIn K (.ref CBadKey) "__class__" = some (some (.builtin "object.__class__")))
    (ocg : PySem.W.specialIn K (.builtin "object.__class__") "__get__" = some (some (.builtin "getset_descriptor.__get__")))
    (oct : PySem.W.takesIn K (.builtin "object.__class__") = some true)
    (eo_BadKey : PySem.W.mroIn K CBadKey (.type "object") = some true)
    (aC_Clash : PySem.W.nsIn K mainGlobals "Clash" = some (some (.ref CClash)))
    (kt_BadKey_Clash : PySem.W.kitOne K (.ref CBadKey) (.ref CClash) = some false)
    (z_isinstance : PySem.W.nsIn K mainGlobals "isinstance" = some none)
    (kt_BadKey_TableError : PySem.W.kitOne K (.ref CBadKey) (.ref CTableError) = some true)
    (z_ValueError : PySem.W.nsIn K mainGlobals "ValueError" = some none)
    (kt_BadKey_ValueError : PySem.W.kitOne K (.ref CBadKey) (.type "ValueError") = some true)
    (a_law : PySem.W.nsIn K mainGlobals "law" = some (some (.ref f_law)))
    (l_law : K.lookup f_law = some ⟨oc_law, od_law, .func (PySem.W.fnOf "law" "law" (defArgs s_law) (defBody s_law) (defScope s_law) .none kV_law dc_law pm_law an_law cd_law ct_law), sl_law⟩)
    (c_law : PySem.W.codeIn K cd_law "law" = true)
    (kp_law : PySem.W.keepIn K (.ref f_law) = true)
    (z_list : PySem.W.nsIn K mainGlobals "list" = some none)
    (z_str : PySem.W.nsIn K mainGlobals "str" = some none)
    (z_bool : PySem.W.nsIn K mainGlobals "bool" = some none)
    : ∃ fd : FuncData, (∀ (s : Shared) (v : Value), BindsTo s fd ⟨[v], []⟩ [("_law_script", v)]) ∧ ∀ base : Heap, K.In base → base.Ns mainGlobals mg → FnOk P w K mg base CX0 6 fa fd ["_law_script"] (spP K arLaw) := by
  have e := hfa.symm.trans (PySem.W.mg_of X G a_law)
  cases e
  have k_Keys : Cls K CKeys := ⟨pg_Keys, hd_Keys, po_Keys, sa_Keys⟩
  have F_agree := fun_mk (st := s_agree) l_agree c_agree kp_agree
  have b_agree := F_agree.binds (ps := ["name", "row", "other"]) fun _ _ _ _ _ _ us hl => match us, hl with | [_, _, _], _ => rfl
  have e_BadKey : PySem.ErX.ErrT P K mg CBadKey f_BadKey___init__ "name" := { cls := ⟨_, _, _, _, _, _, _, _, _, _, _, _, _, _, _, xL_BadKey, rfl⟩, sa := es_BadKey, ga := eg_BadKey, gg := ek_BadKey, noN := en_BadKey, iC := ei_BadKey, tC := et_BadKey, kC := ekp_BadKey, exC := eex_BadKey, tyC := ety_BadKey, hdC := ehd_BadKey, subC := emr_BadKey, sup := esu_BadKey, isB := eve_BadKey, stat := est, gS := PySem.W.mg_none_of X G z_super, top := etp, lkS := rfl, lkC := rfl, lkN := rfl, ndn := by decide, nse := by decide, fn := ⟨_, _, _, _, _, _, _, _, _, _, _, _, _, _, _, _, _, _, _, _, _, _, _, _, _, _, _, _, _, _, #[], _, _, _, _, _, l_BadKey___init__, c_BadKey___init__, hc_BadKey, hf_BadKey, hl_BadKey, hw_BadKey, fun s x v => .of_eq (by first | rfl | with_unfolding_all rfl), ⟨_, fun _ => rfl⟩⟩ }
  have F_Keys___init__ := fun_mk (st := s_Keys___init__) l_Keys___init__ c_Keys___init__ kp_Keys___init__
  have F_Keys_columns := fun_mk (st := s_Keys_columns) l_Keys_columns c_Keys_columns kp_Keys_columns
  have b_Keys_columns := F_Keys_columns.binds (ps := ["self"]) fun _ _ _ _ _ _ us hl => match us, hl with | [_], _ => rfl
  have F_Keys_clash := fun_mk (st := s_Keys_clash) l_Keys_clash c_Keys_clash kp_Keys_clash
  have b_Keys_clash := F_Keys_clash.binds (ps := ["self", "row", "other"]) fun _ _ _ _ _ _ us hl => match us, hl with | [_, _, _], _ => rfl
  have F_Keys_kept_by := fun_mk (st := s_Keys_kept_by) l_Keys_kept_by c_Keys_kept_by kp_Keys_kept_by
  have b_Keys_kept_by := F_Keys_kept_by.binds (ps := ["self", "rows"]) fun _ _ _ _ _ _ us hl => match us, hl with | [_, _], _ => rfl
  have F_law_pool := fun_mk (st := s_law_pool) l_law_pool c_law_pool kp_law_pool
  have b_law_pool := F_law_pool.binds (ps := ["_law_script", "_law_k", "_law_many"]) fun _ _ _ _ _ _ us hl => match us, hl with | [_, _, _], _ => rfl
  have F_law_clash := fun_mk (st := s_law_clash) l_law_clash c_law_clash kp_law_clash
  have b_law_clash := F_law_clash.binds (ps := ["_law_names", "_law_row", "_law_other"]) fun _ _ _ _ _ _ us hl => match us, hl with | [_, _, _], _ => rfl
  have F_law_value := fun_mk (st := s_law_value) l_law_value c_law_value kp_law_value
  have b_law_value := F_law_value.binds (ps := ["_law_draw", "_law_base"]) fun _ _ _ _ _ _ us hl => match us, hl with | [_, _], _ => rfl
  have F_law_rows := fun_mk (st := s_law_rows) l_law_rows c_law_rows kp_law_rows
  have b_law_rows := F_law_rows.binds (ps := ["_law_script", "_law_start", "_law_many", "_law_base"]) fun _ _ _ _ _ _ us hl => match us, hl with | [_, _, _, _], _ => rfl
  have F_law_name := fun_mk (st := s_law_name) l_law_name c_law_name kp_law_name
  have b_law_name := F_law_name.binds (ps := ["_law_one", "_law_two", "_law_wrong"]) fun _ _ _ _ _ _ us hl => match us, hl with | [_, _, _], _ => rfl
  have F_law_made := fun_mk (st := s_law_made) l_law_made c_law_made kp_law_made
  have b_law_made := F_law_made.binds (ps := ["_law_names"]) fun _ _ _ _ _ _ us hl => match us, hl with | [_], _ => rfl
  have F_law_refused := fun_mk (st := s_law_refused) l_law_refused c_law_refused kp_law_refused
  have b_law_refused := F_law_refused.binds (ps := ["_law_names"]) fun _ _ _ _ _ _ us hl => match us, hl with | [_], _ => rfl
  have F_law := fun_mk (st := s_law) l_law c_law kp_law
  refine ⟨PySem.W.fnOf "law" "law" (defArgs s_law) (defBody s_law) (defScope s_law) .none kV_law dc_law pm_law an_law cd_law ct_law, fun s v => .of_eq rfl, fun base hb1 hb2 => ?_⟩
  have G_agree : Fok P w K mg base CX0 1 f_agree (spP K (ar_agree ({ CFormula := 0, f_Formula___init__ := 0, f_Formula_holds := 0, f_Formula___call__ := 0, p_Formula_read := 0, f_Formula_read := 0, p_Formula_text := 0, f_Formula_text := 0, p_Formula_columns := 0, f_Formula_columns := 0, p_Formula_marks := 0, f_Formula_marks := 0, p_Formula_one_sided := 0, f_Formula_one_sided := 0, f_Formula___and__ := 0, f_Formula___or__ := 0, f_Formula___xor__ := 0, f_Formula___mul__ := 0, f_Formula___neg__ := 0, f_Formula___invert__ := 0, f_Formula___le__ := 0, aOPERANDS := 0, CTooLong := 0, f_TooLong___init__ := 0, CBadFormula := 0, f_BadFormula___init__ := 0, CTableError := CTableError, CBadKey := CBadKey, f_BadKey___init__ := f_BadKey___init__, CClash := CClash, CKeys := CKeys, f_Keys___init__ := f_Keys___init__, p_Keys_columns := p_Keys_columns, f_Keys_columns := f_Keys_columns, f_Keys_clash := f_Keys_clash, f_Keys_kept_by := f_Keys_kept_by, aKEY_NAMES := aKEY_NAMES } : Ads))) := ⟨⟨_, _, ok_agree (ad := ({ CFormula := 0, f_Formula___init__ := 0, f_Formula_holds := 0, f_Formula___call__ := 0, p_Formula_read := 0, f_Formula_read := 0, p_Formula_text := 0, f_Formula_text := 0, p_Formula_columns := 0, f_Formula_columns := 0, p_Formula_marks := 0, f_Formula_marks := 0, p_Formula_one_sided := 0, f_Formula_one_sided := 0, f_Formula___and__ := 0, f_Formula___or__ := 0, f_Formula___xor__ := 0, f_Formula___mul__ := 0, f_Formula___neg__ := 0, f_Formula___invert__ := 0, f_Formula___le__ := 0, aOPERANDS := 0, CTooLong := 0, f_TooLong___init__ := 0, CBadFormula := 0, f_BadFormula___init__ := 0, CTableError := CTableError, CBadKey := CBadKey, f_BadKey___init__ := f_BadKey___init__, CClash := CClash, CKeys := CKeys, f_Keys___init__ := f_Keys___init__, p_Keys_columns := p_Keys_columns, f_Keys_columns := f_Keys_columns, f_Keys_clash := f_Keys_clash, f_Keys_kept_by := f_Keys_kept_by, aKEY_NAMES := aKEY_NAMES } : Ads)) F_agree ⟨_, PySem.W.mg_of X G ga_COLUMNS⟩ (PySem.W.mg_none_of X G z_all), b_agree⟩, kp_agree⟩
  have GX_Keys___init__ : FnR P w K mg base (L2.CX P w) 1 f_Keys___init__ (spXI K ({ CFormula := 0, f_Formula___init__ := 0, f_Formula_holds := 0, f_Formula___call__ := 0, p_Formula_read := 0, f_Formula_read := 0, p_Formula_text := 0, f_Formula_text := 0, p_Formula_columns := 0, f_Formula_columns := 0, p_Formula_marks := 0, f_Formula_marks := 0, p_Formula_one_sided := 0, f_Formula_one_sided := 0, f_Formula___and__ := 0, f_Formula___or__ := 0, f_Formula___xor__ := 0, f_Formula___mul__ := 0, f_Formula___neg__ := 0, f_Formula___invert__ := 0, f_Formula___le__ := 0, aOPERANDS := 0, CTooLong := 0, f_TooLong___init__ := 0, CBadFormula := 0, f_BadFormula___init__ := 0, CTableError := CTableError, CBadKey := CBadKey, f_BadKey___init__ := f_BadKey___init__, CClash := CClash, CKeys := CKeys, f_Keys___init__ := f_Keys___init__, p_Keys_columns := p_Keys_columns, f_Keys_columns := f_Keys_columns, f_Keys_clash := f_Keys_clash, f_Keys_kept_by := f_Keys_kept_by, aKEY_NAMES := aKEY_NAMES } : Ads).CKeys (fun L es out => es.length ≤ sizeLine ∧ ax_Keys___init__ ({ CFormula := 0, f_Formula___init__ := 0, f_Formula_holds := 0, f_Formula___call__ := 0, p_Formula_read := 0, f_Formula_read := 0, p_Formula_text := 0, f_Formula_text := 0, p_Formula_columns := 0, f_Formula_columns := 0, p_Formula_marks := 0, f_Formula_marks := 0, p_Formula_one_sided := 0, f_Formula_one_sided := 0, f_Formula___and__ := 0, f_Formula___or__ := 0, f_Formula___xor__ := 0, f_Formula___mul__ := 0, f_Formula___neg__ := 0, f_Formula___invert__ := 0, f_Formula___le__ := 0, aOPERANDS := 0, CTooLong := 0, f_TooLong___init__ := 0, CBadFormula := 0, f_BadFormula___init__ := 0, CTableError := CTableError, CBadKey := CBadKey, f_BadKey___init__ := f_BadKey___init__, CClash := CClash, CKeys := CKeys, f_Keys___init__ := f_Keys___init__, p_Keys_columns := p_Keys_columns, f_Keys_columns := f_Keys_columns, f_Keys_clash := f_Keys_clash, f_Keys_kept_by := f_Keys_kept_by, aKEY_NAMES := aKEY_NAMES } : Ads) L [.tup es] out)) := okx_Keys___init__ (ad := ({ CFormula := 0, f_Formula___init__ := 0, f_Formula_holds := 0, f_Formula___call__ := 0, p_Formula_read := 0, f_Formula_read := 0, p_Formula_text := 0, f_Formula_text := 0, p_Formula_columns := 0, f_Formula_columns := 0, p_Formula_marks := 0, f_Formula_marks := 0, p_Formula_one_sided := 0, f_Formula_one_sided := 0, f_Formula___and__ := 0, f_Formula___or__ := 0, f_Formula___xor__ := 0, f_Formula___mul__ := 0, f_Formula___neg__ := 0, f_Formula___invert__ := 0, f_Formula___le__ := 0, aOPERANDS := 0, CTooLong := 0, f_TooLong___init__ := 0, CBadFormula := 0, f_BadFormula___init__ := 0, CTableError := CTableError, CBadKey := CBadKey, f_BadKey___init__ := f_BadKey___init__, CClash := CClash, CKeys := CKeys, f_Keys___init__ := f_Keys___init__, p_Keys_columns := p_Keys_columns, f_Keys_columns := f_Keys_columns, f_Keys_clash := f_Keys_clash, f_Keys_kept_by := f_Keys_kept_by, aKEY_NAMES := aKEY_NAMES } : Ads)) F_Keys___init__ (StX.bind_star1 (B := fun us => bindArgs _ ⟨us, []⟩) (p1 := "self") (pv := "names") (fun _ => rfl) (fun _ _ _ => rfl)) (PySem.W.mg_of X G ga_KEY_NAMES) ⟨_, _, _, l_KEY_NAMES, rfl, rfl, by show 7 ≤ sizeLine; decide, .cons ⟨_, rfl⟩ (.cons ⟨_, rfl⟩ (.cons ⟨_, rfl⟩ (.cons ⟨_, rfl⟩ (.cons ⟨_, rfl⟩ (.cons ⟨_, rfl⟩ (.cons ⟨_, rfl⟩ .nil))))))⟩ e_BadKey (PySem.W.mg_of X G aC_BadKey) k_Keys na_Keys_names
  have G_Keys_columns : Fok P w K mg base CX0 1 f_Keys_columns (spP K (ar_Keys_columns ({ CFormula := 0, f_Formula___init__ := 0, f_Formula_holds := 0, f_Formula___call__ := 0, p_Formula_read := 0, f_Formula_read := 0, p_Formula_text := 0, f_Formula_text := 0, p_Formula_columns := 0, f_Formula_columns := 0, p_Formula_marks := 0, f_Formula_marks := 0, p_Formula_one_sided := 0, f_Formula_one_sided := 0, f_Formula___and__ := 0, f_Formula___or__ := 0, f_Formula___xor__ := 0, f_Formula___mul__ := 0, f_Formula___neg__ := 0, f_Formula___invert__ := 0, f_Formula___le__ := 0, aOPERANDS := 0, CTooLong := 0, f_TooLong___init__ := 0, CBadFormula := 0, f_BadFormula___init__ := 0, CTableError := CTableError, CBadKey := CBadKey, f_BadKey___init__ := f_BadKey___init__, CClash := CClash, CKeys := CKeys, f_Keys___init__ := f_Keys___init__, p_Keys_columns := p_Keys_columns, f_Keys_columns := f_Keys_columns, f_Keys_clash := f_Keys_clash, f_Keys_kept_by := f_Keys_kept_by, aKEY_NAMES := aKEY_NAMES } : Ads))) := ⟨⟨_, _, ok_Keys_columns (ad := ({ CFormula := 0, f_Formula___init__ := 0, f_Formula_holds := 0, f_Formula___call__ := 0, p_Formula_read := 0, f_Formula_read := 0, p_Formula_text := 0, f_Formula_text := 0, p_Formula_columns := 0, f_Formula_columns := 0, p_Formula_marks := 0, f_Formula_marks := 0, p_Formula_one_sided := 0, f_Formula_one_sided := 0, f_Formula___and__ := 0, f_Formula___or__ := 0, f_Formula___xor__ := 0, f_Formula___mul__ := 0, f_Formula___neg__ := 0, f_Formula___invert__ := 0, f_Formula___le__ := 0, aOPERANDS := 0, CTooLong := 0, f_TooLong___init__ := 0, CBadFormula := 0, f_BadFormula___init__ := 0, CTableError := CTableError, CBadKey := CBadKey, f_BadKey___init__ := f_BadKey___init__, CClash := CClash, CKeys := CKeys, f_Keys___init__ := f_Keys___init__, p_Keys_columns := p_Keys_columns, f_Keys_columns := f_Keys_columns, f_Keys_clash := f_Keys_clash, f_Keys_kept_by := f_Keys_kept_by, aKEY_NAMES := aKEY_NAMES } : Ads)) F_Keys_columns ⟨_, PySem.W.mg_of X G ga_COLUMNS⟩ k_Keys na_Keys_names (PySem.W.mg_none_of X G z_any), b_Keys_columns⟩, kp_Keys_columns⟩
  have G_Keys_clash : Fok P w K mg base CX0 2 f_Keys_clash (spP K (ar_Keys_clash ({ CFormula := 0, f_Formula___init__ := 0, f_Formula_holds := 0, f_Formula___call__ := 0, p_Formula_read := 0, f_Formula_read := 0, p_Formula_text := 0, f_Formula_text := 0, p_Formula_columns := 0, f_Formula_columns := 0, p_Formula_marks := 0, f_Formula_marks := 0, p_Formula_one_sided := 0, f_Formula_one_sided := 0, f_Formula___and__ := 0, f_Formula___or__ := 0, f_Formula___xor__ := 0, f_Formula___mul__ := 0, f_Formula___neg__ := 0, f_Formula___invert__ := 0, f_Formula___le__ := 0, aOPERANDS := 0, CTooLong := 0, f_TooLong___init__ := 0, CBadFormula := 0, f_BadFormula___init__ := 0, CTableError := CTableError, CBadKey := CBadKey, f_BadKey___init__ := f_BadKey___init__, CClash := CClash, CKeys := CKeys, f_Keys___init__ := f_Keys___init__, p_Keys_columns := p_Keys_columns, f_Keys_columns := f_Keys_columns, f_Keys_clash := f_Keys_clash, f_Keys_kept_by := f_Keys_kept_by, aKEY_NAMES := aKEY_NAMES } : Ads))) := ⟨⟨_, _, ok_Keys_clash (ad := ({ CFormula := 0, f_Formula___init__ := 0, f_Formula_holds := 0, f_Formula___call__ := 0, p_Formula_read := 0, f_Formula_read := 0, p_Formula_text := 0, f_Formula_text := 0, p_Formula_columns := 0, f_Formula_columns := 0, p_Formula_marks := 0, f_Formula_marks := 0, p_Formula_one_sided := 0, f_Formula_one_sided := 0, f_Formula___and__ := 0, f_Formula___or__ := 0, f_Formula___xor__ := 0, f_Formula___mul__ := 0, f_Formula___neg__ := 0, f_Formula___invert__ := 0, f_Formula___le__ := 0, aOPERANDS := 0, CTooLong := 0, f_TooLong___init__ := 0, CBadFormula := 0, f_BadFormula___init__ := 0, CTableError := CTableError, CBadKey := CBadKey, f_BadKey___init__ := f_BadKey___init__, CClash := CClash, CKeys := CKeys, f_Keys___init__ := f_Keys___init__, p_Keys_columns := p_Keys_columns, f_Keys_columns := f_Keys_columns, f_Keys_clash := f_Keys_clash, f_Keys_kept_by := f_Keys_kept_by, aKEY_NAMES := aKEY_NAMES } : Ads)) F_Keys_clash k_Keys na_Keys_names ⟨_, G_agree, PySem.W.mg_of X G a_agree⟩ (PySem.W.mg_none_of X G z_any), b_Keys_clash⟩, kp_Keys_clash⟩
  have G_Keys_kept_by : Fok P w K mg base CX0 4 f_Keys_kept_by (spP K (ar_Keys_kept_by ({ CFormula := 0, f_Formula___init__ := 0, f_Formula_holds := 0, f_Formula___call__ := 0, p_Formula_read := 0, f_Formula_read := 0, p_Formula_text := 0, f_Formula_text := 0, p_Formula_columns := 0, f_Formula_columns := 0, p_Formula_marks := 0, f_Formula_marks := 0, p_Formula_one_sided := 0, f_Formula_one_sided := 0, f_Formula___and__ := 0, f_Formula___or__ := 0, f_Formula___xor__ := 0, f_Formula___mul__ := 0, f_Formula___neg__ := 0, f_Formula___invert__ := 0, f_Formula___le__ := 0, aOPERANDS := 0, CTooLong := 0, f_TooLong___init__ := 0, CBadFormula := 0, f_BadFormula___init__ := 0, CTableError := CTableError, CBadKey := CBadKey, f_BadKey___init__ := f_BadKey___init__, CClash := CClash, CKeys := CKeys, f_Keys___init__ := f_Keys___init__, p_Keys_columns := p_Keys_columns, f_Keys_columns := f_Keys_columns, f_Keys_clash := f_Keys_clash, f_Keys_kept_by := f_Keys_kept_by, aKEY_NAMES := aKEY_NAMES } : Ads))) := ⟨⟨_, _, ok_Keys_kept_by (ad := ({ CFormula := 0, f_Formula___init__ := 0, f_Formula_holds := 0, f_Formula___call__ := 0, p_Formula_read := 0, f_Formula_read := 0, p_Formula_text := 0, f_Formula_text := 0, p_Formula_columns := 0, f_Formula_columns := 0, p_Formula_marks := 0, f_Formula_marks := 0, p_Formula_one_sided := 0, f_Formula_one_sided := 0, f_Formula___and__ := 0, f_Formula___or__ := 0, f_Formula___xor__ := 0, f_Formula___mul__ := 0, f_Formula___neg__ := 0, f_Formula___invert__ := 0, f_Formula___le__ := 0, aOPERANDS := 0, CTooLong := 0, f_TooLong___init__ := 0, CBadFormula := 0, f_BadFormula___init__ := 0, CTableError := CTableError, CBadKey := CBadKey, f_BadKey___init__ := f_BadKey___init__, CClash := CClash, CKeys := CKeys, f_Keys___init__ := f_Keys___init__, p_Keys_columns := p_Keys_columns, f_Keys_columns := f_Keys_columns, f_Keys_clash := f_Keys_clash, f_Keys_kept_by := f_Keys_kept_by, aKEY_NAMES := aKEY_NAMES } : Ads)) F_Keys_kept_by (PySem.W.mg_none_of X G z_len) (PySem.W.mg_none_of X G z_range) G_Keys_clash ⟨a_Keys_clash, i_Keys_clash, kp_Keys_clash⟩ k_Keys, b_Keys_kept_by⟩, kp_Keys_kept_by⟩
  have G_law_pool : Fok P w K mg base CX0 1 f_law_pool (spN K (ar_law_pool ({ CFormula := 0, f_Formula___init__ := 0, f_Formula_holds := 0, f_Formula___call__ := 0, p_Formula_read := 0, f_Formula_read := 0, p_Formula_text := 0, f_Formula_text := 0, p_Formula_columns := 0, f_Formula_columns := 0, p_Formula_marks := 0, f_Formula_marks := 0, p_Formula_one_sided := 0, f_Formula_one_sided := 0, f_Formula___and__ := 0, f_Formula___or__ := 0, f_Formula___xor__ := 0, f_Formula___mul__ := 0, f_Formula___neg__ := 0, f_Formula___invert__ := 0, f_Formula___le__ := 0, aOPERANDS := 0, CTooLong := 0, f_TooLong___init__ := 0, CBadFormula := 0, f_BadFormula___init__ := 0, CTableError := CTableError, CBadKey := CBadKey, f_BadKey___init__ := f_BadKey___init__, CClash := CClash, CKeys := CKeys, f_Keys___init__ := f_Keys___init__, p_Keys_columns := p_Keys_columns, f_Keys_columns := f_Keys_columns, f_Keys_clash := f_Keys_clash, f_Keys_kept_by := f_Keys_kept_by, aKEY_NAMES := aKEY_NAMES } : Ads))) := ⟨⟨_, _, ok_law_pool (ad := ({ CFormula := 0, f_Formula___init__ := 0, f_Formula_holds := 0, f_Formula___call__ := 0, p_Formula_read := 0, f_Formula_read := 0, p_Formula_text := 0, f_Formula_text := 0, p_Formula_columns := 0, f_Formula_columns := 0, p_Formula_marks := 0, f_Formula_marks := 0, p_Formula_one_sided := 0, f_Formula_one_sided := 0, f_Formula___and__ := 0, f_Formula___or__ := 0, f_Formula___xor__ := 0, f_Formula___mul__ := 0, f_Formula___neg__ := 0, f_Formula___invert__ := 0, f_Formula___le__ := 0, aOPERANDS := 0, CTooLong := 0, f_TooLong___init__ := 0, CBadFormula := 0, f_BadFormula___init__ := 0, CTableError := CTableError, CBadKey := CBadKey, f_BadKey___init__ := f_BadKey___init__, CClash := CClash, CKeys := CKeys, f_Keys___init__ := f_Keys___init__, p_Keys_columns := p_Keys_columns, f_Keys_columns := f_Keys_columns, f_Keys_clash := f_Keys_clash, f_Keys_kept_by := f_Keys_kept_by, aKEY_NAMES := aKEY_NAMES } : Ads)) F_law_pool (PySem.W.mg_none_of X G z_len) (PySem.W.mg_none_of X G z_range) (PySem.W.mg_none_of X G z_int), b_law_pool⟩, kp_law_pool⟩
  have G_law_clash : Fok P w K mg base CX0 1 f_law_clash (spP K (ar_law_clash ({ CFormula := 0, f_Formula___init__ := 0, f_Formula_holds := 0, f_Formula___call__ := 0, p_Formula_read := 0, f_Formula_read := 0, p_Formula_text := 0, f_Formula_text := 0, p_Formula_columns := 0, f_Formula_columns := 0, p_Formula_marks := 0, f_Formula_marks := 0, p_Formula_one_sided := 0, f_Formula_one_sided := 0, f_Formula___and__ := 0, f_Formula___or__ := 0, f_Formula___xor__ := 0, f_Formula___mul__ := 0, f_Formula___neg__ := 0, f_Formula___invert__ := 0, f_Formula___le__ := 0, aOPERANDS := 0, CTooLong := 0, f_TooLong___init__ := 0, CBadFormula := 0, f_BadFormula___init__ := 0, CTableError := CTableError, CBadKey := CBadKey, f_BadKey___init__ := f_BadKey___init__, CClash := CClash, CKeys := CKeys, f_Keys___init__ := f_Keys___init__, p_Keys_columns := p_Keys_columns, f_Keys_columns := f_Keys_columns, f_Keys_clash := f_Keys_clash, f_Keys_kept_by := f_Keys_kept_by, aKEY_NAMES := aKEY_NAMES } : Ads))) := ⟨⟨_, _, ok_law_clash (ad := ({ CFormula := 0, f_Formula___init__ := 0, f_Formula_holds := 0, f_Formula___call__ := 0, p_Formula_read := 0, f_Formula_read := 0, p_Formula_text := 0, f_Formula_text := 0, p_Formula_columns := 0, f_Formula_columns := 0, p_Formula_marks := 0, f_Formula_marks := 0, p_Formula_one_sided := 0, f_Formula_one_sided := 0, f_Formula___and__ := 0, f_Formula___or__ := 0, f_Formula___xor__ := 0, f_Formula___mul__ := 0, f_Formula___neg__ := 0, f_Formula___invert__ := 0, f_Formula___le__ := 0, aOPERANDS := 0, CTooLong := 0, f_TooLong___init__ := 0, CBadFormula := 0, f_BadFormula___init__ := 0, CTableError := CTableError, CBadKey := CBadKey, f_BadKey___init__ := f_BadKey___init__, CClash := CClash, CKeys := CKeys, f_Keys___init__ := f_Keys___init__, p_Keys_columns := p_Keys_columns, f_Keys_columns := f_Keys_columns, f_Keys_clash := f_Keys_clash, f_Keys_kept_by := f_Keys_kept_by, aKEY_NAMES := aKEY_NAMES } : Ads)) F_law_clash , b_law_clash⟩, kp_law_clash⟩
  have G_law_value : Fok P w K mg base CX0 1 f_law_value (spP K (ar_law_value ({ CFormula := 0, f_Formula___init__ := 0, f_Formula_holds := 0, f_Formula___call__ := 0, p_Formula_read := 0, f_Formula_read := 0, p_Formula_text := 0, f_Formula_text := 0, p_Formula_columns := 0, f_Formula_columns := 0, p_Formula_marks := 0, f_Formula_marks := 0, p_Formula_one_sided := 0, f_Formula_one_sided := 0, f_Formula___and__ := 0, f_Formula___or__ := 0, f_Formula___xor__ := 0, f_Formula___mul__ := 0, f_Formula___neg__ := 0, f_Formula___invert__ := 0, f_Formula___le__ := 0, aOPERANDS := 0, CTooLong := 0, f_TooLong___init__ := 0, CBadFormula := 0, f_BadFormula___init__ := 0, CTableError := CTableError, CBadKey := CBadKey, f_BadKey___init__ := f_BadKey___init__, CClash := CClash, CKeys := CKeys, f_Keys___init__ := f_Keys___init__, p_Keys_columns := p_Keys_columns, f_Keys_columns := f_Keys_columns, f_Keys_clash := f_Keys_clash, f_Keys_kept_by := f_Keys_kept_by, aKEY_NAMES := aKEY_NAMES } : Ads))) := ⟨⟨_, _, ok_law_value (ad := ({ CFormula := 0, f_Formula___init__ := 0, f_Formula_holds := 0, f_Formula___call__ := 0, p_Formula_read := 0, f_Formula_read := 0, p_Formula_text := 0, f_Formula_text := 0, p_Formula_columns := 0, f_Formula_columns := 0, p_Formula_marks := 0, f_Formula_marks := 0, p_Formula_one_sided := 0, f_Formula_one_sided := 0, f_Formula___and__ := 0, f_Formula___or__ := 0, f_Formula___xor__ := 0, f_Formula___mul__ := 0, f_Formula___neg__ := 0, f_Formula___invert__ := 0, f_Formula___le__ := 0, aOPERANDS := 0, CTooLong := 0, f_TooLong___init__ := 0, CBadFormula := 0, f_BadFormula___init__ := 0, CTableError := CTableError, CBadKey := CBadKey, f_BadKey___init__ := f_BadKey___init__, CClash := CClash, CKeys := CKeys, f_Keys___init__ := f_Keys___init__, p_Keys_columns := p_Keys_columns, f_Keys_columns := f_Keys_columns, f_Keys_clash := f_Keys_clash, f_Keys_kept_by := f_Keys_kept_by, aKEY_NAMES := aKEY_NAMES } : Ads)) F_law_value (PySem.W.mg_none_of X G z_int), b_law_value⟩, kp_law_value⟩
  have G_law_rows : Fok P w K mg base CX0 2 f_law_rows (spN K (ar_law_rows ({ CFormula := 0, f_Formula___init__ := 0, f_Formula_holds := 0, f_Formula___call__ := 0, p_Formula_read := 0, f_Formula_read := 0, p_Formula_text := 0, f_Formula_text := 0, p_Formula_columns := 0, f_Formula_columns := 0, p_Formula_marks := 0, f_Formula_marks := 0, p_Formula_one_sided := 0, f_Formula_one_sided := 0, f_Formula___and__ := 0, f_Formula___or__ := 0, f_Formula___xor__ := 0, f_Formula___mul__ := 0, f_Formula___neg__ := 0, f_Formula___invert__ := 0, f_Formula___le__ := 0, aOPERANDS := 0, CTooLong := 0, f_TooLong___init__ := 0, CBadFormula := 0, f_BadFormula___init__ := 0, CTableError := CTableError, CBadKey := CBadKey, f_BadKey___init__ := f_BadKey___init__, CClash := CClash, CKeys := CKeys, f_Keys___init__ := f_Keys___init__, p_Keys_columns := p_Keys_columns, f_Keys_columns := f_Keys_columns, f_Keys_clash := f_Keys_clash, f_Keys_kept_by := f_Keys_kept_by, aKEY_NAMES := aKEY_NAMES } : Ads))) := ⟨⟨_, _, ok_law_rows (ad := ({ CFormula := 0, f_Formula___init__ := 0, f_Formula_holds := 0, f_Formula___call__ := 0, p_Formula_read := 0, f_Formula_read := 0, p_Formula_text := 0, f_Formula_text := 0, p_Formula_columns := 0, f_Formula_columns := 0, p_Formula_marks := 0, f_Formula_marks := 0, p_Formula_one_sided := 0, f_Formula_one_sided := 0, f_Formula___and__ := 0, f_Formula___or__ := 0, f_Formula___xor__ := 0, f_Formula___mul__ := 0, f_Formula___neg__ := 0, f_Formula___invert__ := 0, f_Formula___le__ := 0, aOPERANDS := 0, CTooLong := 0, f_TooLong___init__ := 0, CBadFormula := 0, f_BadFormula___init__ := 0, CTableError := CTableError, CBadKey := CBadKey, f_BadKey___init__ := f_BadKey___init__, CClash := CClash, CKeys := CKeys, f_Keys___init__ := f_Keys___init__, p_Keys_columns := p_Keys_columns, f_Keys_columns := f_Keys_columns, f_Keys_clash := f_Keys_clash, f_Keys_kept_by := f_Keys_kept_by, aKEY_NAMES := aKEY_NAMES } : Ads)) F_law_rows (PySem.W.mg_none_of X G z_range) ⟨_, G_law_pool, PySem.W.mg_of X G a_law_pool⟩ (PySem.W.mg_none_of X G z_int) ⟨_, G_law_value, PySem.W.mg_of X G a_law_value⟩, b_law_rows⟩, kp_law_rows⟩
  have G_law_name : Fok P w K mg base CX0 1 f_law_name (spP K (ar_law_name ({ CFormula := 0, f_Formula___init__ := 0, f_Formula_holds := 0, f_Formula___call__ := 0, p_Formula_read := 0, f_Formula_read := 0, p_Formula_text := 0, f_Formula_text := 0, p_Formula_columns := 0, f_Formula_columns := 0, p_Formula_marks := 0, f_Formula_marks := 0, p_Formula_one_sided := 0, f_Formula_one_sided := 0, f_Formula___and__ := 0, f_Formula___or__ := 0, f_Formula___xor__ := 0, f_Formula___mul__ := 0, f_Formula___neg__ := 0, f_Formula___invert__ := 0, f_Formula___le__ := 0, aOPERANDS := 0, CTooLong := 0, f_TooLong___init__ := 0, CBadFormula := 0, f_BadFormula___init__ := 0, CTableError := CTableError, CBadKey := CBadKey, f_BadKey___init__ := f_BadKey___init__, CClash := CClash, CKeys := CKeys, f_Keys___init__ := f_Keys___init__, p_Keys_columns := p_Keys_columns, f_Keys_columns := f_Keys_columns, f_Keys_clash := f_Keys_clash, f_Keys_kept_by := f_Keys_kept_by, aKEY_NAMES := aKEY_NAMES } : Ads))) := ⟨⟨_, _, ok_law_name (ad := ({ CFormula := 0, f_Formula___init__ := 0, f_Formula_holds := 0, f_Formula___call__ := 0, p_Formula_read := 0, f_Formula_read := 0, p_Formula_text := 0, f_Formula_text := 0, p_Formula_columns := 0, f_Formula_columns := 0, p_Formula_marks := 0, f_Formula_marks := 0, p_Formula_one_sided := 0, f_Formula_one_sided := 0, f_Formula___and__ := 0, f_Formula___or__ := 0, f_Formula___xor__ := 0, f_Formula___mul__ := 0, f_Formula___neg__ := 0, f_Formula___invert__ := 0, f_Formula___le__ := 0, aOPERANDS := 0, CTooLong := 0, f_TooLong___init__ := 0, CBadFormula := 0, f_BadFormula___init__ := 0, CTableError := CTableError, CBadKey := CBadKey, f_BadKey___init__ := f_BadKey___init__, CClash := CClash, CKeys := CKeys, f_Keys___init__ := f_Keys___init__, p_Keys_columns := p_Keys_columns, f_Keys_columns := f_Keys_columns, f_Keys_clash := f_Keys_clash, f_Keys_kept_by := f_Keys_kept_by, aKEY_NAMES := aKEY_NAMES } : Ads)) F_law_name (PySem.W.mg_none_of X G z_int) (PySem.W.mg_none_of X G z_len), b_law_name⟩, kp_law_name⟩
  have GX_law_made : Fok P w K mg base (L2.CX P w) 3 f_law_made (spX K (ax_law_made ({ CFormula := 0, f_Formula___init__ := 0, f_Formula_holds := 0, f_Formula___call__ := 0, p_Formula_read := 0, f_Formula_read := 0, p_Formula_text := 0, f_Formula_text := 0, p_Formula_columns := 0, f_Formula_columns := 0, p_Formula_marks := 0, f_Formula_marks := 0, p_Formula_one_sided := 0, f_Formula_one_sided := 0, f_Formula___and__ := 0, f_Formula___or__ := 0, f_Formula___xor__ := 0, f_Formula___mul__ := 0, f_Formula___neg__ := 0, f_Formula___invert__ := 0, f_Formula___le__ := 0, aOPERANDS := 0, CTooLong := 0, f_TooLong___init__ := 0, CBadFormula := 0, f_BadFormula___init__ := 0, CTableError := CTableError, CBadKey := CBadKey, f_BadKey___init__ := f_BadKey___init__, CClash := CClash, CKeys := CKeys, f_Keys___init__ := f_Keys___init__, p_Keys_columns := p_Keys_columns, f_Keys_columns := f_Keys_columns, f_Keys_clash := f_Keys_clash, f_Keys_kept_by := f_Keys_kept_by, aKEY_NAMES := aKEY_NAMES } : Ads))) := ⟨⟨_, _, okx_law_made (ad := ({ CFormula := 0, f_Formula___init__ := 0, f_Formula_holds := 0, f_Formula___call__ := 0, p_Formula_read := 0, f_Formula_read := 0, p_Formula_text := 0, f_Formula_text := 0, p_Formula_columns := 0, f_Formula_columns := 0, p_Formula_marks := 0, f_Formula_marks := 0, p_Formula_one_sided := 0, f_Formula_one_sided := 0, f_Formula___and__ := 0, f_Formula___or__ := 0, f_Formula___xor__ := 0, f_Formula___mul__ := 0, f_Formula___neg__ := 0, f_Formula___invert__ := 0, f_Formula___le__ := 0, aOPERANDS := 0, CTooLong := 0, f_TooLong___init__ := 0, CBadFormula := 0, f_BadFormula___init__ := 0, CTableError := CTableError, CBadKey := CBadKey, f_BadKey___init__ := f_BadKey___init__, CClash := CClash, CKeys := CKeys, f_Keys___init__ := f_Keys___init__, p_Keys_columns := p_Keys_columns, f_Keys_columns := f_Keys_columns, f_Keys_clash := f_Keys_clash, f_Keys_kept_by := f_Keys_kept_by, aKEY_NAMES := aKEY_NAMES } : Ads)) F_law_made (PySem.W.mg_none_of X G z_len) ⟨mm_Keys, a_Keys___init__, i_Keys___init__, mc_Keys⟩ GX_Keys___init__ (PySem.W.mg_of X G aC_Keys), b_law_made⟩, kp_law_made⟩
  have G_law_made : Fok P w K mg base CX0 3 f_law_made (spP K (ar_law_made ({ CFormula := 0, f_Formula___init__ := 0, f_Formula_holds := 0, f_Formula___call__ := 0, p_Formula_read := 0, f_Formula_read := 0, p_Formula_text := 0, f_Formula_text := 0, p_Formula_columns := 0, f_Formula_columns := 0, p_Formula_marks := 0, f_Formula_marks := 0, p_Formula_one_sided := 0, f_Formula_one_sided := 0, f_Formula___and__ := 0, f_Formula___or__ := 0, f_Formula___xor__ := 0, f_Formula___mul__ := 0, f_Formula___neg__ := 0, f_Formula___invert__ := 0, f_Formula___le__ := 0, aOPERANDS := 0, CTooLong := 0, f_TooLong___init__ := 0, CBadFormula := 0, f_BadFormula___init__ := 0, CTableError := CTableError, CBadKey := CBadKey, f_BadKey___init__ := f_BadKey___init__, CClash := CClash, CKeys := CKeys, f_Keys___init__ := f_Keys___init__, p_Keys_columns := p_Keys_columns, f_Keys_columns := f_Keys_columns, f_Keys_clash := f_Keys_clash, f_Keys_kept_by := f_Keys_kept_by, aKEY_NAMES := aKEY_NAMES } : Ads))) := ⟨⟨_, _, okc_law_made (okx_law_made (ad := ({ CFormula := 0, f_Formula___init__ := 0, f_Formula_holds := 0, f_Formula___call__ := 0, p_Formula_read := 0, f_Formula_read := 0, p_Formula_text := 0, f_Formula_text := 0, p_Formula_columns := 0, f_Formula_columns := 0, p_Formula_marks := 0, f_Formula_marks := 0, p_Formula_one_sided := 0, f_Formula_one_sided := 0, f_Formula___and__ := 0, f_Formula___or__ := 0, f_Formula___xor__ := 0, f_Formula___mul__ := 0, f_Formula___neg__ := 0, f_Formula___invert__ := 0, f_Formula___le__ := 0, aOPERANDS := 0, CTooLong := 0, f_TooLong___init__ := 0, CBadFormula := 0, f_BadFormula___init__ := 0, CTableError := CTableError, CBadKey := CBadKey, f_BadKey___init__ := f_BadKey___init__, CClash := CClash, CKeys := CKeys, f_Keys___init__ := f_Keys___init__, p_Keys_columns := p_Keys_columns, f_Keys_columns := f_Keys_columns, f_Keys_clash := f_Keys_clash, f_Keys_kept_by := f_Keys_kept_by, aKEY_NAMES := aKEY_NAMES } : Ads)) F_law_made (PySem.W.mg_none_of X G z_len) ⟨mm_Keys, a_Keys___init__, i_Keys___init__, mc_Keys⟩ GX_Keys___init__ (PySem.W.mg_of X G aC_Keys)), b_law_made⟩, kp_law_made⟩
  have G_law_refused : Fok P w K mg base CX0 5 f_law_refused (spP K (ar_law_refused ({ CFormula := 0, f_Formula___init__ := 0, f_Formula_holds := 0, f_Formula___call__ := 0, p_Formula_read := 0, f_Formula_read := 0, p_Formula_text := 0, f_Formula_text := 0, p_Formula_columns := 0, f_Formula_columns := 0, p_Formula_marks := 0, f_Formula_marks := 0, p_Formula_one_sided := 0, f_Formula_one_sided := 0, f_Formula___and__ := 0, f_Formula___or__ := 0, f_Formula___xor__ := 0, f_Formula___mul__ := 0, f_Formula___neg__ := 0, f_Formula___invert__ := 0, f_Formula___le__ := 0, aOPERANDS := 0, CTooLong := 0, f_TooLong___init__ := 0, CBadFormula := 0, f_BadFormula___init__ := 0, CTableError := CTableError, CBadKey := CBadKey, f_BadKey___init__ := f_BadKey___init__, CClash := CClash, CKeys := CKeys, f_Keys___init__ := f_Keys___init__, p_Keys_columns := p_Keys_columns, f_Keys_columns := f_Keys_columns, f_Keys_clash := f_Keys_clash, f_Keys_kept_by := f_Keys_kept_by, aKEY_NAMES := aKEY_NAMES } : Ads))) := ⟨⟨_, _, ok_law_refused (ad := ({ CFormula := 0, f_Formula___init__ := 0, f_Formula_holds := 0, f_Formula___call__ := 0, p_Formula_read := 0, f_Formula_read := 0, p_Formula_text := 0, f_Formula_text := 0, p_Formula_columns := 0, f_Formula_columns := 0, p_Formula_marks := 0, f_Formula_marks := 0, p_Formula_one_sided := 0, f_Formula_one_sided := 0, f_Formula___and__ := 0, f_Formula___or__ := 0, f_Formula___xor__ := 0, f_Formula___mul__ := 0, f_Formula___neg__ := 0, f_Formula___invert__ := 0, f_Formula___le__ := 0, aOPERANDS := 0, CTooLong := 0, f_TooLong___init__ := 0, CBadFormula := 0, f_BadFormula___init__ := 0, CTableError := CTableError, CBadKey := CBadKey, f_BadKey___init__ := f_BadKey___init__, CClash := CClash, CKeys := CKeys, f_Keys___init__ := f_Keys___init__, p_Keys_columns := p_Keys_columns, f_Keys_columns := f_Keys_columns, f_Keys_clash := f_Keys_clash, f_Keys_kept_by := f_Keys_kept_by, aKEY_NAMES := aKEY_NAMES } : Ads)) F_law_refused ⟨_, GX_law_made, PySem.W.mg_of X G a_law_made⟩ e_BadKey (PySem.W.mg_of X G aC_BadKey) (PySem.W.exm_ref eex_BadKey ehd_BadKey ety_BadKey ess_BadKey) ⟨eg_BadKey, ek_BadKey, eex_BadKey, ehd_BadKey, ecl_BadKey, ocg, oct, eo_BadKey⟩ (PySem.W.mg_of X G aC_Clash) kt_BadKey_Clash (PySem.W.mg_none_of X G z_isinstance) (PySem.W.mg_of X G aC_TableError) kt_BadKey_TableError (PySem.W.mg_none_of X G z_ValueError) kt_BadKey_ValueError, b_law_refused⟩, kp_law_refused⟩
  exact fn_law (ok_law (ad := ({ CFormula := 0, f_Formula___init__ := 0, f_Formula_holds := 0, f_Formula___call__ := 0, p_Formula_read := 0, f_Formula_read := 0, p_Formula_text := 0, f_Formula_text := 0, p_Formula_columns := 0, f_Formula_columns := 0, p_Formula_marks := 0, f_Formula_marks := 0, p_Formula_one_sided := 0, f_Formula_one_sided := 0, f_Formula___and__ := 0, f_Formula___or__ := 0, f_Formula___xor__ := 0, f_Formula___mul__ := 0, f_Formula___neg__ := 0, f_Formula___invert__ := 0, f_Formula___le__ := 0, aOPERANDS := 0, CTooLong := 0, f_TooLong___init__ := 0, CBadFormula := 0, f_BadFormula___init__ := 0, CTableError := CTableError, CBadKey := CBadKey, f_BadKey___init__ := f_BadKey___init__, CClash := CClash, CKeys := CKeys, f_Keys___init__ := f_Keys___init__, p_Keys_columns := p_Keys_columns, f_Keys_columns := f_Keys_columns, f_Keys_clash := f_Keys_clash, f_Keys_kept_by := f_Keys_kept_by, aKEY_NAMES := aKEY_NAMES } : Ads)) F_law ⟨_, G_law_pool, PySem.W.mg_of X G a_law_pool⟩ (PySem.W.mg_none_of X G z_int) (PySem.W.mg_none_of X G z_range) ⟨_, G_law_name, PySem.W.mg_of X G a_law_name⟩ (PySem.W.mg_none_of X G z_list) ⟨_, G_law_refused, PySem.W.mg_of X G a_law_refused⟩ ⟨_, G_law_made, PySem.W.mg_of X G a_law_made⟩ G_Keys_columns ⟨pa_Keys_columns, pb_Keys_columns, pc_Keys_columns, ⟨_, pd_Keys_columns⟩⟩ k_Keys (PySem.W.mg_none_of X G z_isinstance) (PySem.W.mg_none_of X G z_str) ⟨_, G_law_rows, PySem.W.mg_of X G a_law_rows⟩ (PySem.W.mg_none_of X G z_len) ⟨_, G_law_clash, PySem.W.mg_of X G a_law_clash⟩ G_Keys_clash ⟨a_Keys_clash, i_Keys_clash, kp_Keys_clash⟩ (PySem.W.mg_none_of X G z_bool) G_Keys_kept_by ⟨a_Keys_kept_by, i_Keys_kept_by, kp_Keys_kept_by⟩) law_ok
theorem walk {l : PySem.W.OpenLaw} {q : Program} {loose : List Str} {XP : (Str → Option Value) → Heap → Prop} {YP : World → Heap → Prop} {d : DefRec} {K : Params → PySem.W.Frag} (hn : l.most = some 63) (hdf : d.params.defaults = [])
    (hY : ∀ (w : World) (h : Heap), YP w h → (K w.params).In h)
    (F : ∀ (w : World) (mg : Str → Option Value) (fa : Addr) (h : Heap), (K w.params).In h → h.Ns mainGlobals mg → mg d.name = some (.ref fa) →
      ∃ fd : FuncData, (∀ (s : Shared) (u : Value), BindsTo s fd ⟨[u], []⟩ [("_law_script", u)]) ∧ ∀ base : Heap, (K w.params).In base → base.Ns mainGlobals mg → FnOk l.prog w (K w.params) mg base CX0 6 fa fd ["_law_script"] (spP (K w.params) arLaw)) :
    PySem.W.WalkO q loose XP YP l.row.toRowW d [] (fun f vs => PySem.call f vs) :=
  L2.walk_of (n := 63) (k := 6) (x := "_law_script") (CX := fun _ => CX0) (sp := fun w => spP (K w.params) arLaw) hn (by decide) hdf ⟨rfl, by decide, by decide⟩ hY F (fun _ _ a ns hl _ hS => law_sp ⟨ns, rfl, hl, rfl⟩ hS fun _ => rfl) fun _ _ _ _ _ z => z
end DL

open PySem PySem.W PyProof.Rows in
set_option maxRecDepth 100000 in
set_option maxHeartbeats 0 in
theorem PySem.Challenge.cw_unbettered_k09_keys_of_tables_holds : PySem.Challenge.rw_unbettered_k09_keys_of_tables.Holds := by
  w_on; o_law; k_head; (case hw => w_witness2)
  k_fill
  refine DL.walk (l := PySem.Challenge.rw_unbettered_k09_keys_of_tables) rfl rfl (fun w h Y => PySem.W.kIn_of Y) ?F
  case F =>
    intro w mg fa h KX G hmg
    refine' DL.all_mk KX G hmg ?aC_Keys ?pg_Keys ?hd_Keys ?po_Keys ?sa_Keys ?a_agree ?l_agree ?c_agree ?kp_agree ?ga_COLUMNS ?z_all ?a_Keys___init__ ?i_Keys___init__ ?l_Keys___init__ ?c_Keys___init__ ?kp_Keys___init__ ?ga_KEY_NAMES ?l_KEY_NAMES ?aC_BadKey ?aC_TableError ?xL_BadKey ?es_BadKey ?eg_BadKey ?ek_BadKey ?en_BadKey ?ei_BadKey ?et_BadKey ?ekp_BadKey ?eex_BadKey ?ety_BadKey ?ehd_BadKey ?emr_BadKey ?esu_BadKey ?eve_BadKey ?est ?z_super ?etp ?l_BadKey___init__ ?c_BadKey___init__ ?hc_BadKey ?hf_BadKey ?hl_BadKey ?hw_BadKey ?na_Keys_names ?pa_Keys_columns ?pb_Keys_columns ?pc_Keys_columns ?pd_Keys_columns ?l_Keys_columns ?c_Keys_columns ?kp_Keys_columns ?z_any ?a_Keys_clash ?i_Keys_clash ?l_Keys_clash ?c_Keys_clash ?kp_Keys_clash ?a_Keys_kept_by ?i_Keys_kept_by ?l_Keys_kept_by ?c_Keys_kept_by ?kp_Keys_kept_by ?z_len ?z_range ?a_law_pool ?l_law_pool ?c_law_pool ?kp_law_pool ?z_int ?a_law_clash ?l_law_clash ?c_law_clash ?kp_law_clash ?a_law_value ?l_law_value ?c_law_value ?kp_law_value ?a_law_rows ?l_law_rows ?c_law_rows ?kp_law_rows ?a_law_name ?l_law_name ?c_law_name ?kp_law_name ?a_law_made ?l_law_made ?c_law_made ?kp_law_made ?mm_Keys ?mc_Keys ?a_law_refused ?l_law_refused ?c_law_refused ?kp_law_refused ?ess_BadKey ?ecl_BadKey ?ocg ?oct ?eo_BadKey ?aC_Clash ?kt_BadKey_Clash ?z_isinstance ?kt_BadKey_TableError ?z_ValueError ?kt_BadKey_ValueError ?a_law ?l_law ?c_law ?kp_law ?z_list ?z_str ?z_bool
    (case aC_Keys => k_is)
    (case pg_Keys => k_is)
    (case hd_Keys => k_is)
    (case po_Keys => k_is)
    (case sa_Keys => k_is)
    (case a_agree => k_is)
    (case l_agree => k_is)
    (case c_agree => k_is)
    (case kp_agree => k_is)
    (case ga_COLUMNS => k_is)
    (case z_all => k_is)
    (case a_Keys___init__ => k_is)
    (case i_Keys___init__ => k_is)
    (case l_Keys___init__ => k_is)
    (case c_Keys___init__ => k_is)
    (case kp_Keys___init__ => k_is)
    (case ga_KEY_NAMES => k_is)
    (case l_KEY_NAMES => k_is)
    (case aC_BadKey => k_is)
    (case aC_TableError => k_is)
    (case xL_BadKey => k_is)
    (case es_BadKey => k_is)
    (case eg_BadKey => k_is)
    (case ek_BadKey => k_is)
    (case en_BadKey => k_is)
    (case ei_BadKey => k_is)
    (case et_BadKey => k_is)
    (case ekp_BadKey => k_is)
    (case eex_BadKey => k_is)
    (case ety_BadKey => k_is)
    (case ehd_BadKey => k_is)
    (case emr_BadKey => first | k_is | rfl)
    (case esu_BadKey => first | k_is | rfl)
    (case eve_BadKey => k_is)
    (case est => k_is)
    (case z_super => k_is)
    (case etp => first | rfl | decide +kernel)
    (case l_BadKey___init__ => k_is)
    (case c_BadKey___init__ => k_is)
    (case hc_BadKey => k_is)
    (case hf_BadKey => first | rfl | k_is)
    (case hl_BadKey => first | rfl | decide +kernel)
    (case hw_BadKey => k_is)
    (case na_Keys_names => k_is)
    (case pa_Keys_columns => k_is)
    (case pb_Keys_columns => k_is)
    (case pc_Keys_columns => k_is)
    (case pd_Keys_columns => k_is)
    (case l_Keys_columns => k_is)
    (case c_Keys_columns => k_is)
    (case kp_Keys_columns => k_is)
    (case z_any => k_is)
    (case a_Keys_clash => k_is)
    (case i_Keys_clash => k_is)
    (case l_Keys_clash => k_is)
    (case c_Keys_clash => k_is)
    (case kp_Keys_clash => k_is)
    (case a_Keys_kept_by => k_is)
    (case i_Keys_kept_by => k_is)
    (case l_Keys_kept_by => k_is)
    (case c_Keys_kept_by => k_is)
    (case kp_Keys_kept_by => k_is)
    (case z_len => k_is)
    (case z_range => k_is)
    (case a_law_pool => k_is)
    (case l_law_pool => k_is)
    (case c_law_pool => k_is)
    (case kp_law_pool => k_is)
    (case z_int => k_is)
    (case a_law_clash => k_is)
    (case l_law_clash => k_is)
    (case c_law_clash => k_is)
    (case kp_law_clash => k_is)
    (case a_law_value => k_is)
    (case l_law_value => k_is)
    (case c_law_value => k_is)
    (case kp_law_value => k_is)
    (case a_law_rows => k_is)
    (case l_law_rows => k_is)
    (case c_law_rows => k_is)
    (case kp_law_rows => k_is)
    (case a_law_name => k_is)
    (case l_law_name => k_is)
    (case c_law_name => k_is)
    (case kp_law_name => k_is)
    (case a_law_made => k_is)
    (case l_law_made => k_is)
    (case c_law_made => k_is)
    (case kp_law_made => k_is)
    (case mm_Keys => k_is)
    (case mc_Keys => k_is)
    (case a_law_refused => k_is)
    (case l_law_refused => k_is)
    (case c_law_refused => k_is)
    (case kp_law_refused => k_is)
    (case ess_BadKey => first | rfl | k_is)
    (case ecl_BadKey => k_is)
    (case ocg => k_is)
    (case oct => k_is)
    (case eo_BadKey => first | k_is | rfl)
    (case aC_Clash => k_is)
    (case kt_BadKey_Clash => first | kit_is | k_is | rfl)
    (case z_isinstance => k_is)
    (case kt_BadKey_TableError => first | kit_is | k_is | rfl)
    (case z_ValueError => k_is)
    (case kt_BadKey_ValueError => first | kit_is | k_is | rfl)
    (case a_law => k_is)
    (case l_law => k_is)
    (case c_law => k_is)
    (case kp_law => k_is)
    (case z_list => k_is)
    (case z_str => k_is)
    (case z_bool => k_is)
