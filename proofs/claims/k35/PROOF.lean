import PyProof.Rows.All
import Wide.All
import OpenK.AllK
import Wide.FinOn
import KE.KeyNested
import KE.KDictKeyed
import KE.KDictWalk
import HandS.ForMost
import HandS.WordsExc
import HandS.Walk
import HandS.IsInst
import HandS.Wide
import HandS.More
import HandS.Star
import HandS.ClsMeth
import HandS.Property
import HandS.Style
import PyProof.StrBlock2
import HandS.Call
import KE.GoesMore
import HandS.Text
import KE.IntTextLaws
import HandS.Deep
import HandS.TupAny
import KE.KExcSuper
import KE.KExcIs
import HandS.Exc
import HandS.ExcIs
import HandS.ExcField
import HandS.TryMany
import HandS.CallSlots
import HandS.SortInts
import KE.KOpsOwn
import HandS.ExcOwn
import HandS.Comp
import HandS.DictComp
import KE.KDictList
import HandS.NoneIn
import HandS.Conv
import HandS.SlotsOwn
import HandS.FStr
import KE.KxField
import PyProof.Rows.StrOr
import KE.KSuper
import HandS.MakeKwOnly
import HandS.Defaults
import KE.KOwnIter
import HandS.OwnIter
import HandS.IterVal
import HandS.Iter
import PyProof.ZipIter
import PyProof.Rows.Range3
import HandS.MakeKw
import HandS.GenList
import KE.OsRunLaw
import PySem.Challenge.RW_unbettered_k35_rooms_of_a_reader
set_option Elab.async false
set_option linter.all false
set_option maxRecDepth 100000
set_option maxHeartbeats 2000000
namespace DL
open PySem PySem.Spec PyProof.Rows L2

/-! ### data -/
inductive D where
  | non | bl (b : Bool) | int (i : Int) | str (s : Str) | ty (n : String) | rf (a : Addr)
  | tup (ds : List D) | lst (ds : List D) | frl (ds : List D)
  | obj (C : Addr) (ns : List Str) (ds : List D)
  | dct (ks : List NestedKey)
mutual
/-- a key as a datum -/
def dOf : NestedKey → D
  | .none => .non
  | .num i => .int i
  | .text x => .str x
  | .tup ks => .tup (dOfs ks)
def dOfs : List NestedKey → List D
  | [] => []
  | k :: ks => dOf k :: dOfs ks
end
mutual
/-- of whole numbers alone -/
def numK : NestedKey → Bool
  | .none => false
  | .num _ => true
  | .text _ => false
  | .tup ks => numKs ks
def numKs : List NestedKey → Bool
  | [] => true
  | k :: ks => numK k && numKs ks
end
/-- a frozen dict's entries: keys and True -/
structure DctOk (es : Array DictEntry) (bs : List V) (ks : List NestedKey) (as : List Addr) : Prop where
  nd : ks.Nodup
  num : ∀ k ∈ ks, numK k = true ∧ k.depth ≤ 8
  bs : bs = as.map V.ref
  len : as.length = ks.length
  es : ∀ w : World, es.toList = (ks.zip as).map fun p => (⟨p.1.hash w, .ref p.2, .bool true⟩ : DictEntry)
  lim : ks.length ≤ sizeLine

mutual
inductive Rp (K : PySem.W.Frag) (H : Hp) : V → D → Prop
  | non : Rp K H .non .non
  | bl (b : Bool) : Rp K H (.bl b) (.bl b)
  | int (i : Int) : Rp K H (.int i) (.int i)
  | str (s : Str) : Rp K H (.str s) (.str s)
  | ty (n : String) : Rp K H (.ty n) (.ty n)
  | rf (a : Addr) : Rp K H (.ref a) (.rf a)
  | tup {a : Addr} {vs : List V} {ds : List D} : SqT K H a vs → RpL K H vs ds → Rp K H (.ref a) (.tup ds)
  | lst {a : Addr} {vs : List V} {ds : List D} : H a = some (.lst vs) → RpL K H vs ds → Rp K H (.ref a) (.lst ds)
  | frl {a : Addr} {vs : List V} {ds : List D} : SqL K H a vs → RpL K H vs ds → Rp K H (.ref a) (.frl ds)
  | obj {a C dx : Addr} {fv : List (Str × V)} {ns : List Str} {ds : List D} : H a = some (.ins C dx fv) → fv.map (·.1) = ns → RpL K H (fv.map (·.2)) ds → Rp K H (.ref a) (.obj C ns ds)
  | dct {a : Addr} {es : Array DictEntry} {ep : Nat} {bs : List V} {ks : List NestedKey} {as : List Addr} : H a = some (.ext fun h => h.DictRaw a es ep) → (a == sysModules) = false → DctOk es bs ks as → RpL K H bs (dOfs ks) → Rp K H (.ref a) (.dct ks)
inductive RpL (K : PySem.W.Frag) (H : Hp) : List V → List D → Prop
  | nil : RpL K H [] []
  | cons {v : V} {vs : List V} {d : D} {ds : List D} : Rp K H v d → RpL K H vs ds → RpL K H (v :: vs) (d :: ds)
end

theorem same_t {K : PySem.W.Frag} {H H' : Hp} {a : Addr} {xs : List V} (e : Same H H') (h : SqT K H a xs) : SqT K H' a xs := by
  rcases h with (h | ⟨o, h⟩) | h
  · exact .inl (.inl (e _ _ h))
  · exact .inl (.inr ⟨o, e _ _ h⟩)
  · exact .inr h
section
variable {K : PySem.W.Frag} {H H' : Hp}
mutual
theorem Rp.mono (e : Same H H') : ∀ {v : V} {d : D}, Rp K H v d → Rp K H' v d
  | _, _, .non => .non
  | _, _, .bl b => .bl b
  | _, _, .int b => .int b
  | _, _, .str b => .str b
  | _, _, .ty b => .ty b
  | _, _, .rf b => .rf b
  | _, _, .tup h r => .tup (same_t e h) (r.mono e)
  | _, _, .lst h r => .lst (e _ _ h) (r.mono e)
  | _, _, .frl h r => .frl (e.seq h) (r.mono e)
  | _, _, .obj h n r => .obj (e _ _ h) n (r.mono e)
  | _, _, .dct h l k r => .dct (e _ _ h) l k (r.mono e)
theorem RpL.mono (e : Same H H') : ∀ {vs : List V} {ds : List D}, RpL K H vs ds → RpL K H' vs ds
  | _, _, .nil => .nil
  | _, _, .cons h r => .cons (h.mono e) (r.mono e)
end
theorem RpL.length : ∀ {vs : List V} {ds : List D}, RpL K H vs ds → vs.length = ds.length
  | _, _, .nil => rfl
  | _, _, .cons _ r => by rw [List.length_cons, List.length_cons, r.length]
theorem RpL.get : ∀ {vs : List V} {ds : List D} {i : Nat} {d : D}, RpL K H vs ds → ds[i]? = some d → ∃ v, vs[i]? = some v ∧ Rp K H v d
  | _, _, _, _, .nil, h => by simp at h
  | _, _, 0, _, .cons h _, e => by simp at e; subst e; exact ⟨_, rfl, h⟩
  | _, _, i + 1, d, .cons _ r, e => by
    obtain ⟨v, e1, q⟩ := r.get (i := i) (d := d) (by simpa using e)
    exact ⟨v, by simpa using e1, q⟩
theorem RpL.get' : ∀ {vs : List V} {ds : List D} {i : Nat} {v : V}, RpL K H vs ds → vs[i]? = some v → ∃ d, ds[i]? = some d ∧ Rp K H v d
  | _, _, _, _, .nil, h => by simp at h
  | _, _, 0, _, .cons h _, e => by simp at e; subst e; exact ⟨_, rfl, h⟩
  | _, _, i + 1, d, .cons _ r, e => by
    obtain ⟨v, e1, q⟩ := r.get' (i := i) (v := d) (by simpa using e)
    exact ⟨v, by simpa using e1, q⟩
theorem RpL.append : ∀ {vs ws : List V} {ds es : List D}, RpL K H vs ds → RpL K H ws es → RpL K H (vs ++ ws) (ds ++ es)
  | _, _, _, _, .nil, s => s
  | _, _, _, _, .cons h r, s => .cons h (r.append s)
theorem RpL.take : ∀ {vs : List V} {ds : List D} (n : Nat), RpL K H vs ds → RpL K H (vs.take n) (ds.take n)
  | _, _, 0, _ => .nil
  | _, _, _ + 1, .nil => .nil
  | _, _, n + 1, .cons h r => .cons h (r.take n)
theorem RpL.drop : ∀ {vs : List V} {ds : List D} (n : Nat), RpL K H vs ds → RpL K H (vs.drop n) (ds.drop n)
  | _, _, 0, r => r
  | _, _, _ + 1, .nil => .nil
  | _, _, n + 1, .cons _ r => r.drop n
theorem RpL.set {v : V} {d : D} (h : Rp K H v d) : ∀ {vs : List V} {ds : List D} (n : Nat), RpL K H vs ds → RpL K H (vs.set n v) (ds.set n d)
  | _, _, _, .nil => .nil
  | _, _, 0, .cons _ r => .cons h r
  | _, _, n + 1, .cons h' r => .cons h' (r.set h n)
theorem RpL.dropLast {vs : List V} {ds : List D} (r : RpL K H vs ds) : RpL K H vs.dropLast ds.dropLast := by
  rw [List.dropLast_eq_take, List.dropLast_eq_take, r.length]
  exact r.take _
theorem RpL.reverse : ∀ {vs : List V} {ds : List D}, RpL K H vs ds → RpL K H vs.reverse ds.reverse
  | _, _, .nil => .nil
  | _, _, .cons h r => by
    rw [List.reverse_cons, List.reverse_cons]
    exact r.reverse.append (.cons h .nil)
theorem RpL.ints : ∀ {vs : List V} {ns : List Int}, RpL K H vs (ns.map D.int) → vs = ns.map V.int
  | _, [], .nil => rfl
  | _, _ :: _, .cons (.int _) r => by rw [List.map_cons, ← r.ints]
theorem RpL.ofInts : ∀ (ns : List Int), RpL K H (ns.map V.int) (ns.map D.int)
  | [] => .nil
  | n :: ns => .cons (.int n) (RpL.ofInts ns)
theorem RpL.bls : ∀ {vs : List V} {ns : List Bool}, RpL K H vs (ns.map D.bl) → vs = ns.map V.bl
  | _, [], .nil => rfl
  | _, _ :: _, .cons (.bl _) r => by rw [List.map_cons, ← r.bls]
theorem RpL.strs : ∀ {vs : List V} {ns : List Str}, RpL K H vs (ns.map D.str) → vs = ns.map V.str
  | _, [], .nil => rfl
  | _, _ :: _, .cons (.str _) r => by rw [List.map_cons, ← r.strs]
theorem RpL.ofStrs : ∀ (ns : List Str), RpL K H (ns.map V.str) (ns.map D.str)
  | [] => .nil
  | n :: ns => .cons (.str n) (RpL.ofStrs ns)
end

/-! ### objects that may change -/
inductive M where
  | lst (ds : List D)
  | ins (C : Addr) (ns : List Str) (ds : List D)
  | dk (kvs : List (Key × D))
  | dct (ks : List NestedKey)
abbrev Om := List (Addr × M)
def has (O : Om) (a : Addr) : Bool := O.any fun p => p.1 == a
def vis (F : Addr → Bool) (O : Om) (H : Hp) : Hp := fun a => if (F a || has O a) = true then none else H a
theorem vis_some {F : Addr → Bool} {O : Om} {H : Hp} {a : Addr} {o : HO} : vis F O H a = some o ↔ F a = false ∧ has O a = false ∧ H a = some o := by
  unfold vis
  cases F a <;> cases has O a <;> simp
theorem vis_same {F : Addr → Bool} {O : Om} {H H' : Hp} (e : Same H H') : Same (vis F O H) (vis F O H') := fun a o h => by
  obtain ⟨h1, h2, h3⟩ := vis_some.mp h
  exact vis_some.mpr ⟨h1, h2, e _ _ h3⟩
theorem vis_le {F : Addr → Bool} {O : Om} {H : Hp} : Same (vis F O H) H := fun a o h => (vis_some.mp h).2.2
theorem has_cons {O : Om} {a b : Addr} {m : M} : has ((b, m) :: O) a = (b == a || has O a) := rfl
theorem has_mem {O : Om} {a : Addr} : has O a = true ↔ ∃ m, (a, m) ∈ O := by
  unfold has
  rw [List.any_eq_true]
  constructor
  · rintro ⟨⟨b, m⟩, h, e⟩
    have e' : b = a := by simpa using e
    exact ⟨m, e' ▸ h⟩
  · rintro ⟨m, h⟩
    exact ⟨_, h, by simp⟩

/-- what a mutable object holds -/
def MRp (K : PySem.W.Frag) (Hv H : Hp) (a : Addr) : M → Prop
  | .lst ds => ∃ vs, H a = some (.lst vs) ∧ RpL K Hv vs ds
  | .ins C ns ds => ∃ dx fv, H a = some (.ins C dx fv) ∧ fv.map (·.1) = ns ∧ RpL K Hv (fv.map (·.2)) ds
  | .dk kvs => ∃ kv : List (Key × V), H a = some (.dK kv) ∧ kv.map (·.1) = kvs.map (·.1) ∧ RpL K Hv (kv.map (·.2)) (kvs.map (·.2))
  | .dct ks => ∃ es ep bs as, H a = some (.ext fun h => h.DictRaw a es ep) ∧ (a == sysModules) = false ∧ DctOk es bs ks as ∧ RpL K Hv bs (dOfs ks)
theorem MRp.some {K : PySem.W.Frag} {Hv H : Hp} {a : Addr} : ∀ {m : M}, MRp K Hv H a m → ∃ o, H a = Option.some o
  | .lst _, ⟨_, h, _⟩ => ⟨_, h⟩
  | .ins _ _ _, ⟨_, _, h, _⟩ => ⟨_, h⟩
  | .dk _, ⟨_, h, _⟩ => ⟨_, h⟩
  | .dct _, ⟨_, _, _, _, h, _⟩ => ⟨_, h⟩
theorem MRp.mono {K : PySem.W.Frag} {Hv Hv' H H' : Hp} {a : Addr} (e : Same Hv Hv') (eh : ∀ o, H a = Option.some o → H' a = Option.some o) : ∀ {m : M}, MRp K Hv H a m → MRp K Hv' H' a m
  | .lst _, ⟨vs, h, r⟩ => ⟨vs, eh _ h, r.mono e⟩
  | .ins _ _ _, ⟨dx, fv, h, n, r⟩ => ⟨dx, fv, eh _ h, n, r.mono e⟩
  | .dk _, ⟨kv, h, n, r⟩ => ⟨kv, eh _ h, n, r.mono e⟩
  | .dct _, ⟨es, ep, bs, as, h, l, k, r⟩ => ⟨es, ep, bs, as, eh _ h, l, k, r.mono e⟩

/-- the ground of a def's run: the frame's objects (hidden), the heap at entry that has to stand, what is wanted of an error, the frame's mutables that may be read -/
structure Gd where
  F : Addr → Bool
  Hb : Hp
  W : Value → Option Addr → L2.St → Hp → Prop
  L : Om
  ok : ∀ a, F a = true → ∃ o, Hb a = some o
  lF : ∀ a m, (a, m) ∈ L → F a = true

structure MOk (K : PySem.W.Frag) (B : Gd) (O : Om) (H : Hp) : Prop where
  base : ∀ a o, B.Hb a = some o → H a = some o ∧ has O a = false
  mem : ∀ a m, (a, m) ∈ O → MRp K (vis B.F O H) H a m
  nd : (O.map (·.1)).Nodup
  lent : ∀ a m, (a, m) ∈ B.L → MRp K (vis B.F O H) H a m
def EnvR (K : PySem.W.Frag) (Hv : Hp) (σ : L2.St) (ρ : List (Option D)) : Prop := σ.length = ρ.length ∧ ∀ (i : Nat) (d : D), ρ[i]? = some (some d) → ∃ v, σ[i]? = some (some v) ∧ Rp K Hv v d
structure StOk (K : PySem.W.Frag) (B : Gd) (ρ : List (Option D)) (O : Om) (σ : L2.St) (H : Hp) : Prop where
  m : MOk K B O H
  env : EnvR K (vis B.F O H) σ ρ
section
variable {K : PySem.W.Frag} {B : Gd} {ρ : List (Option D)} {O : Om} {σ : L2.St} {H H' : Hp}
theorem MOk.same (h : MOk K B O H) (e : Same H H') : MOk K B O H' :=
  ⟨fun a o q => ⟨e _ _ (h.base a o q).1, (h.base a o q).2⟩, fun a m q => (h.mem a m q).mono (vis_same e) (fun o q => e _ _ q), h.nd, fun a m q => (h.lent a m q).mono (vis_same e) (fun o q => e _ _ q)⟩
theorem EnvR.mono {Hv Hv' : Hp} (h : EnvR K Hv σ ρ) (e : Same Hv Hv') : EnvR K Hv' σ ρ := ⟨h.1, fun i d q => let ⟨v, a, b⟩ := h.2 i d q; ⟨v, a, b.mono e⟩⟩
theorem StOk.same (h : StOk K B ρ O σ H) (e : Same H H') : StOk K B ρ O σ H' := ⟨h.m.same e, h.env.mono (vis_same e)⟩
/-- a new address is neither the frame's nor a mutable's -/
theorem MOk.newF (h : MOk K B O H) {p : Addr} (hp : H p = none) : B.F p = false := by
  cases q : B.F p with
  | false => rfl
  | true =>
    obtain ⟨o, e⟩ := B.ok p q
    have := (h.base p o e).1
    rw [hp] at this; cases this
theorem MOk.newO (h : MOk K B O H) {p : Addr} (hp : H p = none) : has O p = false := by
  cases q : has O p with
  | false => rfl
  | true =>
    obtain ⟨m, e⟩ := has_mem.mp q
    obtain ⟨o, e'⟩ := (h.mem p m e).some
    rw [hp] at e'; cases e'
theorem same_new {p : Addr} {o : HO} (hp : H p = none) : Same H (upd H p o) := fun a u e => by
  rw [upd_ne (ne_of_none e hp)]; exact e
theorem MOk.visNew (h : MOk K B O H) {p : Addr} {o : HO} (hp : H p = none) : vis B.F O (upd H p o) p = some o := vis_some.mpr ⟨h.newF hp, h.newO hp, upd_same⟩
/-- a slot is set -/
theorem EnvR.set {Hv : Hp} (h : EnvR K Hv σ ρ) {i : Nat} {v : V} {d : D} (r : Rp K Hv v d) : EnvR K Hv (σ.set i (some v)) (ρ.set i (some d)) := by
  refine ⟨by simp [h.1], fun j d' e => ?_⟩
  by_cases hj : i = j
  · subst hj
    have hl : i < ρ.length := by
      have := (List.getElem?_eq_some_iff.mp e).1
      simpa using this
    rw [List.getElem?_set_self hl] at e
    cases e
    exact ⟨v, by rw [List.getElem?_set_self (by rw [h.1]; exact hl)], r⟩
  · rw [List.getElem?_set_ne hj] at e
    obtain ⟨v', a, b⟩ := h.2 j d' e
    exact ⟨v', by rw [List.getElem?_set_ne hj]; exact a, b⟩
theorem StOk.set (h : StOk K B ρ O σ H) {i : Nat} {v : V} {d : D} (r : Rp K (vis B.F O H) v d) : StOk K B (ρ.set i (some d)) O (σ.set i (some v)) H := ⟨h.m, h.env.set r⟩
/-- slots forgotten -/
def Wk (ρ ρ' : List (Option D)) : Prop := ρ.length = ρ'.length ∧ ∀ (i : Nat) (d : D), ρ[i]? = some (some d) → ρ'[i]? = some (some d)
theorem StOk.weak {ρ' : List (Option D)} (h : StOk K B ρ' O σ H) (w : Wk ρ ρ') : StOk K B ρ O σ H := ⟨h.m, h.env.1.trans w.1.symm, fun i d e => h.env.2 i d (w.2 i d e)⟩
end

/-! ### judgements -/
def tD (K : PySem.W.Frag) (B : Gd) (ρ : List (Option D)) (O : Om) (d : D) : TE := fun σ H Q => StOk K B ρ O σ H ∧ ∀ v H', Same H H' → Rp K (vis B.F O H') v d → Q v H'
/-- a new list | tuple, nobody else's -/
def tN (K : PySem.W.Frag) (B : Gd) (ρ : List (Option D)) (O : Om) (ds : List D) : TE := fun σ H Q => StOk K B ρ O σ H ∧
  ∀ p H' vs, H p = none → Same H H' → H' p = some (.lst vs) → RpL K (vis B.F ((p, .lst ds) :: O) H') vs ds → Q (.ref p) H'
def tT (K : PySem.W.Frag) (B : Gd) (ρ : List (Option D)) (O : Om) (b : Bool) : TT := fun σ H Q => StOk K B ρ O σ H ∧ ∀ H', Same H H' → Q b H'
def tA (K : PySem.W.Frag) (B : Gd) (ρ : List (Option D)) (O : Om) (ds : List D) : TA := fun σ H Q => StOk K B ρ O σ H ∧ ∀ vs H', Same H H' → RpL K (vis B.F O H') vs ds → Q vs H'
abbrev EV (X : Cx) (B : Gd) (ρ : List (Option D)) (O : Om) (e : Expr) (d : D) : Prop := PE X e (tD X.K B ρ O d)
abbrev EN (X : Cx) (B : Gd) (ρ : List (Option D)) (O : Om) (e : Expr) (ds : List D) : Prop := PE X e (tN X.K B ρ O ds)
abbrev ET (X : Cx) (B : Gd) (ρ : List (Option D)) (O : Om) (e : Expr) (b : Bool) : Prop := PT X e (tT X.K B ρ O b)
abbrev EW (X : Cx) (B : Gd) (ρ : List (Option D)) (O : Om) (e : Expr) (b : Bool) : Prop := PW X e (tT X.K B ρ O b)
abbrev EA (X : Cx) (B : Gd) (ρ : List (Option D)) (O : Om) (es : List Expr) (ds : List D) : Prop := PA X es (tA X.K B ρ O ds)
theorem pe_imp {X : Cx} {e : Expr} {t t' : TE} (h : PE X e t) (w : ∀ σ H Q, t' σ H Q → t σ H Q) : PE X e t' := ⟨fun pins s σ H Q I q => h.run pins s σ H Q I (w σ H Q q)⟩
theorem pt_imp {X : Cx} {e : Expr} {t t' : TT} (h : PT X e t) (w : ∀ σ H Q, t' σ H Q → t σ H Q) : PT X e t' := ⟨fun pins s σ H Q I q => h.run pins s σ H Q I (w σ H Q q)⟩
theorem pw_imp {X : Cx} {e : Expr} {t t' : TT} (h : PW X e t) (w : ∀ σ H Q, t' σ H Q → t σ H Q) : PW X e t' := ⟨fun wh pins s σ H Q I q => h.run wh pins s σ H Q I (w σ H Q q)⟩
theorem pa_imp {X : Cx} {es : List Expr} {t t' : TA} (h : PA X es t) (w : ∀ σ H Q, t' σ H Q → t σ H Q) : PA X es t' := ⟨fun p pins s σ H Q I q => h.run p pins s σ H Q I (w σ H Q q)⟩
theorem ps_imp {X : Cx} {st : Stmt} {t t' : TS} (h : PS X st t) (w : ∀ Dn σ H, t' Dn σ H → t Dn σ H) : PS X st t' := ⟨fun pins s σ H Dn I q => h.run pins s σ H Dn I (w Dn σ H q)⟩
theorem pss_imp {X : Cx} {st : List Stmt} {t t' : TS} (h : PSs X st t) (w : ∀ Dn σ H, t' Dn σ H → t Dn σ H) : PSs X st t' := ⟨fun pins s σ H Dn I q => h.run pins s σ H Dn I (w Dn σ H q)⟩

section
variable {X : Cx} {B : Gd} {ρ : List (Option D)} {O : Om} {a b c e : Expr} {es : List Expr} {d d1 d2 d3 : D} {ds : List D} {pos : Pos} {b1 b2 : Bool}
/-! ### names, constants -/
theorem ev_name {i : Nat} {x : Str} (hN : X.N[i]? = some x) (hv : Vis X.env.scope x) (hd : ρ[i]? = some (some d)) (h1 : (x == ("__debug__" : Str)) = false) (h2 : (x == ("__classdict__" : Str)) = false) : EV X B ρ O (.Name x pos) d :=
  pe_imp (pe_var hN hv h1 h2) fun σ H Q ⟨st, k⟩ => by
    obtain ⟨v, e, r⟩ := st.env.2 i d hd
    exact ⟨v, e, k v H (Same.refl H) r⟩
theorem ev_const {v : V} (h : PE X e (tC v)) (r : ∀ K H, Rp K H v d) : EV X B ρ O e d := pe_imp h fun σ H Q ⟨st, k⟩ => k v H (Same.refl H) (r _ _)
theorem ev_int {i : Int} {j} : EV X B ρ O (.Constant (.int i) j pos) (.int i) := ev_const pe_int fun _ _ => .int i
theorem ev_str {i : Str} {j} : EV X B ρ O (.Constant (.str i) j pos) (.str i) := ev_const pe_str fun _ _ => .str i
theorem ev_bl {i : Bool} {j} : EV X B ρ O (.Constant (.bool i) j pos) (.bl i) := ev_const pe_bl fun _ _ => .bl i
theorem ev_non {j} : EV X B ρ O (.Constant .none j pos) .non := ev_const pe_non fun _ _ => .non
/-- a written thing of the module -/
theorem ev_glob {x : Str} {v : V} {u : Value} (hg : Gl X x) (hm : X.mg x = some u) (r : RelV v u) (rp : ∀ H, Rp X.K H v d) (hd : (x == ("__debug__" : Str)) = false := by decide) : EV X B ρ O (.Name x pos) d :=
  pe_imp (pe_glob hg hm r hd) fun σ H Q ⟨st, k⟩ => k v H (Same.refl H) (rp _)

/-! ### two operands -/
def RD (K : PySem.W.Frag) (B : Gd) (O : Om) (r : R2) (d1 d2 d : D) : Prop :=
  ∀ (x y : V) (H : Hp) (Q : VK), MOk K B O H → Rp K (vis B.F O H) x d1 → Rp K (vis B.F O H) y d2 → (∀ v H', Same H H' → Rp K (vis B.F O H') v d → Q v H') → r x y H Q
theorem two {r : R2} (hr : RD X.K B O r d1 d2 d) (σ : L2.St) (H : Hp) (Q : VK) (h : tD X.K B ρ O d σ H Q) : tOp r (tD X.K B ρ O d1) (tD X.K B ρ O d2) σ H Q := by
  obtain ⟨st, k⟩ := h
  refine ⟨st, fun x H1 e1 r1 => ⟨st.same e1, fun y H2 e2 r2 => ?_⟩⟩
  exact hr x y H2 Q ((st.same e1).same e2).m (r1.mono (vis_same e2)) r2 fun v H' e3 r3 => k v H' ((e1.trans e2).trans e3) r3
theorem ev_op {op : Operator} {r : R2} (ho : OpR X (binaryOp op) r) (hr : RD X.K B O r d1 d2 d) (ha : EV X B ρ O a d1) (hb : EV X B ρ O b d2) : EV X B ρ O (.BinOp a op b pos) d := pe_imp (pe_op ho ha hb) (two hr)
theorem ev_cmp {op : CmpOp} {r : R2} (ho : OpR X (compareOp op) r) (hr : RD X.K B O r d1 d2 d) (ha : EV X B ρ O a d1) (hb : EV X B ρ O b d2) (hm : behindInMarks op b = false) : EV X B ρ O (.Compare a [op] [b] pos) d := pe_imp (pe_cmpR ho ha hb hm) (two hr)
theorem et_of (h : EV X B ρ O e (.bl b1)) (he : ∀ whole, isTrue e X.env whole = (do let v ← whole; standAt e.pos; holding [v] (truthy v)) := by intro _; rfl) : ET X B ρ O e b1 :=
  pt_imp (pt_val h he) fun σ H Q ⟨st, k⟩ => ⟨st, fun v H1 e1 r1 => by cases r1; exact ⟨b1, rfl, k H1 e1⟩⟩
theorem et_cmp {op : CmpOp} {r : R2} (ho : OpR X (compareOp op) r) (hr : RD X.K B O r d1 d2 (.bl b1)) (ha : EV X B ρ O a d1) (hb : EV X B ρ O b d2) (hm : behindInMarks op b = false) : ET X B ρ O (.Compare a [op] [b] pos) b1 :=
  pt_imp (pt_cmpR ho ha hb hm) fun σ H Q ⟨st, k⟩ => two (ρ := ρ) hr σ H _ ⟨st, fun v H1 e1 r1 => by cases r1; exact ⟨b1, rfl, k H1 e1⟩⟩
theorem rd_I0 {g : Int → Int → Int} {i j : Int} {K : PySem.W.Frag} : RD K B O (rI0 fun i j => .int (g i j)) (.int i) (.int j) (.int (g i j)) := fun x y H Q m r1 r2 k => by
  cases r1; cases r2; exact ⟨i, j, rfl, rfl, k _ H (Same.refl H) (.int _)⟩
theorem rd_B0 {g : Int → Int → Bool} {i j : Int} {K : PySem.W.Frag} : RD K B O (rI0 fun i j => .bl (g i j)) (.int i) (.int j) (.bl (g i j)) := fun x y H Q m r1 r2 k => by
  cases r1; cases r2; exact ⟨i, j, rfl, rfl, k _ H (Same.refl H) (.bl _)⟩
theorem rd_I {C : Int → Int → Prop} {g : Int → Int → Int} {i j : Int} {K : PySem.W.Frag} (hc : C i j) : RD K B O (rI C fun i j => .int (g i j)) (.int i) (.int j) (.int (g i j)) := fun x y H Q m r1 r2 k => by
  cases r1; cases r2; exact ⟨i, j, rfl, rfl, hc, k _ H (Same.refl H) (.int _)⟩
/-- == of scalars of one kind -/
def scalD : D → V
  | .non => .non | .bl b => .bl b | .int i => .int i | .str s => .str s | .ty n => .ty n | .rf a => .ref a | _ => .flt 0
def isScal : D → Bool
  | .non | .bl _ | .int _ | .str _ | .ty _ | .rf _ => true
  | _ => false
theorem rp_scal {K : PySem.W.Frag} {H : Hp} {v : V} (h : Rp K H v d) (hs : isScal d = true) : v = scalD d := by
  cases h <;> first | rfl | cases hs
theorem rd_eq {K : PySem.W.Frag} (h1 : isScal d1 = true) (h2 : isScal d2 = true) (hs : scal (scalD d1) (scalD d2) = true) : RD K B O rEq d1 d2 (.bl (decide (scalD d1 = scalD d2))) := fun x y H Q m r1 r2 k => by
  rw [rp_scal r1 h1, rp_scal r2 h2]
  exact ⟨hs, k _ H (Same.refl H) (.bl _)⟩
theorem rd_ne {K : PySem.W.Frag} (h1 : isScal d1 = true) (h2 : isScal d2 = true) (hs : scal (scalD d1) (scalD d2) = true) : RD K B O rNe d1 d2 (.bl (!decide (scalD d1 = scalD d2))) := fun x y H Q m r1 r2 k => by
  rw [rp_scal r1 h1, rp_scal r2 h2]
  exact ⟨hs, k _ H (Same.refl H) (.bl _)⟩
theorem rd_imp {K : PySem.W.Frag} {r : R2} {d d' : D} (h : RD K B O r d1 d2 d) (e : d = d') : RD K B O r d1 d2 d' := e ▸ h
theorem rd_eqI {K : PySem.W.Frag} {i j : Int} : RD K B O rEq (.int i) (.int j) (.bl (decide (i = j))) := rd_imp (rd_eq rfl rfl rfl) (by simp [scalD])
theorem rd_neI {K : PySem.W.Frag} {i j : Int} : RD K B O rNe (.int i) (.int j) (.bl (!decide (i = j))) := rd_imp (rd_ne rfl rfl rfl) (by simp [scalD])
theorem rd_eqS {K : PySem.W.Frag} {i j : Str} : RD K B O rEq (.str i) (.str j) (.bl (decide (i = j))) := rd_imp (rd_eq rfl rfl rfl) (by simp [scalD])
theorem rd_neS {K : PySem.W.Frag} {i j : Str} : RD K B O rNe (.str i) (.str j) (.bl (!decide (i = j))) := rd_imp (rd_ne rfl rfl rfl) (by simp [scalD])
theorem rd_eqB {K : PySem.W.Frag} {i j : Bool} : RD K B O rEq (.bl i) (.bl j) (.bl (decide (i = j))) := rd_imp (rd_eq rfl rfl rfl) (by simp [scalD])
theorem rd_neB {K : PySem.W.Frag} {i j : Bool} : RD K B O rNe (.bl i) (.bl j) (.bl (!decide (i = j))) := rd_imp (rd_ne rfl rfl rfl) (by simp [scalD])
theorem rd_addS {K : PySem.W.Frag} {i j : Str} (hz : i.length + j.length ≤ sizeLine) : RD K B O (fun x y H Q => ∃ i j, x = .str i ∧ y = .str j ∧ i.length + j.length ≤ sizeLine ∧ Q (.str (i ++ j)) H) (.str i) (.str j) (.str (i ++ j)) := fun x y H Q m r1 r2 k => by
  cases r1; cases r2; exact ⟨i, j, rfl, rfl, hz, k _ H (Same.refl H) (.str _)⟩
theorem ev_neg {i : Int} (ha : EV X B ρ O a (.int i)) : EV X B ρ O (.UnaryOp .USub a pos) (.int (-i)) := pe_imp (pe_un un_neg ha) fun σ H Q ⟨st, k⟩ => ⟨st, fun v H1 e1 r1 => by cases r1; exact ⟨i, rfl, k _ H1 e1 (.int _)⟩⟩

/-! ### and, or, not, if -/
theorem et_not (h : ET X B ρ O a b1) : ET X B ρ O (.UnaryOp .Not a pos) (!b1) := pt_imp (pt_not h) fun σ H Q ⟨st, k⟩ => ⟨st, fun H1 e1 => k H1 e1⟩
theorem ev_not (h : EV X B ρ O a (.bl b1)) : EV X B ρ O (.UnaryOp .Not a pos) (.bl (!b1)) := pe_imp (pe_not h) fun σ H Q ⟨st, k⟩ => ⟨st, fun v H1 e1 r1 => by cases r1; exact ⟨b1, rfl, k _ H1 e1 (.bl _)⟩⟩
theorem ew_and1 (h : ET X B ρ O a b1) : EW X B ρ O (.BoolOp .And [a] pos) b1 := pw_and1 h
theorem ew_or1 (h : ET X B ρ O a b1) : EW X B ρ O (.BoolOp .Or [a] pos) b1 := pw_or1 h
theorem ew_and (h1 : ET X B ρ O a b1) (h2 : b1 = true → EW X B ρ O (.BoolOp .And (b :: es) pos) b2) : EW X B ρ O (.BoolOp .And (a :: b :: es) pos) (b1 && b2) := by
  cases b1 with
  | true => exact pw_imp (pw_and h1 (h2 rfl)) fun σ H Q ⟨st, k⟩ => ⟨st, fun H1 e1 => iteT ⟨st.same e1, fun H2 e2 => k H2 (e1.trans e2)⟩⟩
  | false => exact pw_imp (pw_and h1 (tB' := fun _ _ _ => False) ⟨fun _ _ _ _ _ _ _ h => h.elim⟩) fun σ H Q ⟨st, k⟩ => ⟨st, fun H1 e1 => iteF (k H1 e1)⟩
theorem ew_or (h1 : ET X B ρ O a b1) (h2 : b1 = false → EW X B ρ O (.BoolOp .Or (b :: es) pos) b2) : EW X B ρ O (.BoolOp .Or (a :: b :: es) pos) (b1 || b2) := by
  cases b1 with
  | false => exact pw_imp (pw_or h1 (h2 rfl)) fun σ H Q ⟨st, k⟩ => ⟨st, fun H1 e1 => iteF ⟨st.same e1, fun H2 e2 => k H2 (e1.trans e2)⟩⟩
  | true => exact pw_imp (pw_or h1 (tB' := fun _ _ _ => False) ⟨fun _ _ _ _ _ _ _ h => h.elim⟩) fun σ H Q ⟨st, k⟩ => ⟨st, fun H1 e1 => iteT (k H1 e1)⟩
theorem et_w (h : EW X B ρ O e b1) : ET X B ρ O e b1 := PW.pt h
theorem ev_one {op} (h : EV X B ρ O a d) : EV X B ρ O (.BoolOp op [a] pos) d := pe_one h
theorem ev_and (h1 : EV X B ρ O a (.bl b1)) (h2 : b1 = true → EV X B ρ O (.BoolOp .And (b :: es) pos) (.bl b2)) : EV X B ρ O (.BoolOp .And (a :: b :: es) pos) (.bl (b1 && b2)) := by
  cases b1 with
  | true => exact pe_imp (pe_and h1 (h2 rfl)) fun σ H Q ⟨st, k⟩ => ⟨st, fun v H1 e1 r1 => by cases r1; exact ⟨true, rfl, iteT ⟨st.same e1, fun w H2 e2 r2 => k w H2 (e1.trans e2) r2⟩⟩⟩
  | false => exact pe_imp (pe_and h1 (tb := fun _ _ _ => False) ⟨fun _ _ _ _ _ _ h => h.elim⟩) fun σ H Q ⟨st, k⟩ => ⟨st, fun v H1 e1 r1 => by cases r1; exact ⟨false, rfl, iteF (k _ H1 e1 (.bl _))⟩⟩
theorem ev_or (h1 : EV X B ρ O a (.bl b1)) (h2 : b1 = false → EV X B ρ O (.BoolOp .Or (b :: es) pos) (.bl b2)) : EV X B ρ O (.BoolOp .Or (a :: b :: es) pos) (.bl (b1 || b2)) := by
  cases b1 with
  | false => exact pe_imp (pe_or h1 (h2 rfl)) fun σ H Q ⟨st, k⟩ => ⟨st, fun v H1 e1 r1 => by cases r1; exact ⟨false, rfl, iteF ⟨st.same e1, fun w H2 e2 r2 => k w H2 (e1.trans e2) r2⟩⟩⟩
  | true => exact pe_imp (pe_or h1 (tb := fun _ _ _ => False) ⟨fun _ _ _ _ _ _ h => h.elim⟩) fun σ H Q ⟨st, k⟩ => ⟨st, fun v H1 e1 r1 => by cases r1; exact ⟨true, rfl, iteT (k _ H1 e1 (.bl _))⟩⟩
theorem ev_if (hc : ET X B ρ O c b1) (ha : b1 = true → EV X B ρ O a d) (hb : b1 = false → EV X B ρ O b d) : EV X B ρ O (.IfExp c a b pos) d := by
  cases b1 with
  | true => exact pe_imp (pe_ifExp hc (ha rfl) (tb := fun _ _ _ => False) ⟨fun _ _ _ _ _ _ h => h.elim⟩) fun σ H Q ⟨st, k⟩ => ⟨st, fun H1 e1 => iteT ⟨st.same e1, fun w H2 e2 r2 => k w H2 (e1.trans e2) r2⟩⟩
  | false => exact pe_imp (pe_ifExp hc (ta := fun _ _ _ => False) ⟨fun _ _ _ _ _ _ h => h.elim⟩ (hb rfl)) fun σ H Q ⟨st, k⟩ => ⟨st, fun H1 e1 => iteF ⟨st.same e1, fun w H2 e2 r2 => k w H2 (e1.trans e2) r2⟩⟩

/-! ### arguments, displays -/
theorem ea_nil : EA X B ρ O [] [] := pa_imp pa_nil fun σ H Q ⟨st, k⟩ => k [] H (Same.refl H) .nil
theorem ea_cons (ha : EV X B ρ O e d) (hr : EA X B ρ O es ds) (hs : starEach (e :: es) X.env = (false, eval e X.env) :: starEach es X.env := by rfl) : EA X B ρ O (e :: es) (d :: ds) :=
  pa_imp (pa_cons ha hr hs) fun σ H Q ⟨st, k⟩ => ⟨st, fun v H1 e1 r1 => ⟨st.same e1, fun vs H2 e2 r2 => k (v :: vs) H2 (e1.trans e2) (.cons (r1.mono (vis_same e2)) r2)⟩⟩
theorem ev_tup {x1} (h : EA X B ρ O es ds) (hz : ds.length ≤ sizeLine) : EV X B ρ O (.Tuple es x1 pos) (.tup ds) :=
  pe_imp (pe_tup h) fun σ H Q ⟨st, k⟩ => ⟨st, fun vs H1 e1 r1 => ⟨by rw [r1.length]; exact hz, fun p hp =>
    k (.ref p) _ (e1.trans (same_new hp)) (.tup (.inl (.inl ((st.same e1).m.visNew hp))) (r1.mono (vis_same (same_new hp))))⟩⟩
/-- a new list's place: nobody's yet -/
theorem new_vis {K : PySem.W.Frag} {H : Hp} (m : MOk K B O H) {p : Addr} {o : HO} (hp : H p = none) {vs : List V} (r : RpL K (vis B.F O H) vs ds) (mm : M) : RpL K (vis B.F ((p, mm) :: O) (upd H p o)) vs ds := r.mono fun a u h => by
  obtain ⟨h1, h2, h3⟩ := vis_some.mp h
  have ne : a ≠ p := ne_of_none h3 hp
  exact vis_some.mpr ⟨h1, by rw [has_cons, h2, Bool.or_false]; exact beq_eq_false_iff_ne.mpr (Ne.symm ne), by rw [upd_ne ne]; exact h3⟩
theorem en_lst (h : EA X B ρ O es ds) (hz : ds.length ≤ sizeLine) : EN X B ρ O (.List es pos) ds :=
  pe_imp (pe_lst h) fun σ H Q ⟨st, k⟩ => ⟨st, fun vs H1 e1 r1 => ⟨by rw [r1.length]; exact hz, fun p hp =>
    k p _ vs (e1.free hp) (e1.trans (same_new hp)) upd_same (new_vis (st.same e1).m hp r1 _)⟩⟩
/-- a new list as a value that stays -/
theorem ev_new (h : EN X B ρ O e ds) : EV X B ρ O e (.lst ds) := pe_imp h fun σ H Q ⟨st, k⟩ => ⟨st, fun p H' vs hp e1 hv r => by
  have fp := st.m.newF hp
  have op := st.m.newO hp
  refine k _ H' e1 (.lst (vis_some.mpr ⟨fp, op, hv⟩) (r.mono fun a o h => ?_))
  obtain ⟨h1, h2, h3⟩ := vis_some.mp h
  rw [has_cons, Bool.or_eq_false_iff] at h2
  exact vis_some.mpr ⟨h1, h2.2, h3⟩⟩
theorem ev_lst (h : EA X B ρ O es ds) (hz : ds.length ≤ sizeLine) : EV X B ρ O (.List es pos) (.lst ds) := ev_new (en_lst h hz)
end
end DL

set_option Elab.async false
set_option linter.all false
set_option maxRecDepth 100000
set_option maxHeartbeats 2000000
namespace DL
open PySem PySem.Spec PyProof.Rows L2

/-! ### statements -/
structure AE where
  nx : List (Option D) → Om → Prop
  rt : D → Om → Prop
  bk : List (Option D) → Om → Prop := fun _ _ => False
  ct : List (Option D) → Om → Prop := fun _ _ => False
  ex : Addr → Str → D → List (Option D) → Om → Prop := fun _ _ _ _ _ => False
structure Post (K : PySem.W.Frag) (B : Gd) (A : AE) (Dn : Ends) (Hv : Hp) : Prop where
  nx : ∀ ρ O σ H, A.nx ρ O → StOk K B ρ O σ H → Same Hv (vis B.F O H) → Dn.nx σ H
  rt : ∀ d O v H, A.rt d O → MOk K B O H → Rp K (vis B.F O H) v d → Dn.rt v H
  bk : ∀ ρ O σ H, A.bk ρ O → StOk K B ρ O σ H → Same Hv (vis B.F O H) → Dn.bk σ H
  ct : ∀ ρ O σ H, A.ct ρ O → StOk K B ρ O σ H → Same Hv (vis B.F O H) → Dn.ct σ H
  ex : ∀ C f d ρ O σ H dx v, A.ex C f d ρ O → StOk K B ρ O σ H → Same Hv (vis B.F O H) → H dx = some (.xd [(f, v)]) → has O dx = false → Rp K (vis B.F O H) v d → B.W (.ref C) (some dx) σ H
theorem Post.grow {K : PySem.W.Frag} {B : Gd} {A : AE} {Dn : Ends} {Hv Hv' : Hp} (p : Post K B A Dn Hv) (e : Same Hv Hv') : Post K B A Dn Hv' :=
  ⟨fun ρ O σ H a s q => p.nx ρ O σ H a s (e.trans q), p.rt, fun ρ O σ H a s q => p.bk ρ O σ H a s (e.trans q), fun ρ O σ H a s q => p.ct ρ O σ H a s (e.trans q), fun C f d ρ O σ H dx v a s q => p.ex C f d ρ O σ H dx v a s (e.trans q)⟩
def tW (K : PySem.W.Frag) (B : Gd) (ρ : List (Option D)) (O : Om) (A : AE) : TS := fun Dn σ H => StOk K B ρ O σ H ∧ Post K B A Dn (vis B.F O H)
abbrev J (X : Cx) (B : Gd) (ss : List Stmt) (ρ : List (Option D)) (O : Om) (A : AE) : Prop := PSs X ss (tW X.K B ρ O A)
abbrev J1 (X : Cx) (B : Gd) (st : Stmt) (ρ : List (Option D)) (O : Om) (A : AE) : Prop := PS X st (tW X.K B ρ O A)

/-- effects: an expression that changes what is held -/
def tG (K : PySem.W.Frag) (B : Gd) (ρ : List (Option D)) (O : Om) (d : D) (O' : Om) : TE := fun σ H Q => StOk K B ρ O σ H ∧ ∀ v H', StOk K B ρ O' σ H' → Same (vis B.F O H) (vis B.F O' H') → Rp K (vis B.F O' H') v d → Q v H'
def tGA (K : PySem.W.Frag) (B : Gd) (ρ : List (Option D)) (O : Om) (ds : List D) (O' : Om) : TA := fun σ H Q => StOk K B ρ O σ H ∧ ∀ vs H', StOk K B ρ O' σ H' → Same (vis B.F O H) (vis B.F O' H') → RpL K (vis B.F O' H') vs ds → Q vs H'
abbrev EG (X : Cx) (B : Gd) (ρ : List (Option D)) (O : Om) (e : Expr) (d : D) (O' : Om) : Prop := PE X e (tG X.K B ρ O d O')
abbrev EGA (X : Cx) (B : Gd) (ρ : List (Option D)) (O : Om) (es : List Expr) (ds : List D) (O' : Om) : Prop := PA X es (tGA X.K B ρ O ds O')

section
variable {X : Cx} {B : Gd} {ρ ρ' : List (Option D)} {O O' O1 O2 : Om} {A : AE} {a b c e : Expr} {es : List Expr} {d d1 d2 d3 : D} {ds : List D} {pos pos' : Pos} {b1 b2 : Bool} {st : Stmt} {ss rest : List Stmt}
theorem eg_of (h : EV X B ρ O e d) : EG X B ρ O e d O := pe_imp h fun σ H Q ⟨st, k⟩ => ⟨st, fun v H1 e1 r1 => k v H1 (st.same e1) (vis_same e1) r1⟩
theorem ega_of (h : EA X B ρ O es ds) : EGA X B ρ O es ds O := pa_imp h fun σ H Q ⟨st, k⟩ => ⟨st, fun v H1 e1 r1 => k v H1 (st.same e1) (vis_same e1) r1⟩
theorem ega_nil : EGA X B ρ O [] [] O := ega_of ea_nil
theorem ega_cons (ha : EG X B ρ O e d O1) (hr : EGA X B ρ O1 es ds O2) (hs : starEach (e :: es) X.env = (false, eval e X.env) :: starEach es X.env := by rfl) : EGA X B ρ O (e :: es) (d :: ds) O2 :=
  pa_imp (pa_cons ha hr hs) fun σ H Q ⟨st, k⟩ => ⟨st, fun v H1 s1 e1 r1 => ⟨s1, fun vs H2 s2 e2 r2 => k (v :: vs) H2 s2 (e1.trans e2) (.cons (r1.mono e2) r2)⟩⟩

theorem j_nil (h : A.nx ρ O) : J X B [] ρ O A := pss_imp pss_nil fun Dn σ H ⟨st, p⟩ => p.nx ρ O σ H h st (Same.refl _)
theorem j_cons (h : J1 X B st ρ O { A with nx := fun ρ' O' => J X B rest ρ' O' A }) : J X B (st :: rest) ρ O A := by
  have h2 : PSs X rest (fun Dn σ H => ∃ ρ' O', J X B rest ρ' O' A ∧ StOk X.K B ρ' O' σ H ∧ Post X.K B A Dn (vis B.F O' H)) :=
    ⟨fun pins s σ H Dn I ⟨ρ', O', q, s', p⟩ => q.run pins s σ H Dn I ⟨s', p⟩⟩
  refine pss_imp (pss_cons h h2) fun Dn σ H ⟨st, p⟩ => ⟨st, ?_⟩
  exact ⟨fun ρ' O' σ' H' q s' e => ⟨ρ', O', q, s', p.grow e⟩, p.rt, p.bk, p.ct, p.ex⟩
/-- a block within a block -/
theorem j_imp {A' : AE} (h : J X B ss ρ O A) (hn : ∀ ρ O, A.nx ρ O → A'.nx ρ O) (hr : ∀ d O, A.rt d O → A'.rt d O) (hb : ∀ ρ O, A.bk ρ O → A'.bk ρ O) (hc : ∀ ρ O, A.ct ρ O → A'.ct ρ O) (hx : ∀ C f d ρ O, A.ex C f d ρ O → A'.ex C f d ρ O) : J X B ss ρ O A' :=
  pss_imp h fun Dn σ H ⟨st, p⟩ => ⟨st, fun ρ O σ H q => p.nx ρ O σ H (hn _ _ q), fun d O v H q => p.rt d O v H (hr _ _ q), fun ρ O σ H q => p.bk ρ O σ H (hb _ _ q), fun ρ O σ H q => p.ct ρ O σ H (hc _ _ q), fun C f d ρ O σ H dx v q => p.ex C f d ρ O σ H dx v (hx _ _ _ _ _ q)⟩
theorem j_pass (h : A.nx ρ O) : J1 X B (.Pass pos) ρ O A := ps_imp ps_pass fun Dn σ H ⟨st, p⟩ => p.nx ρ O σ H h st (Same.refl _)
theorem j_break (h : A.bk ρ O) : J1 X B (.Break pos) ρ O A := ps_imp ps_break fun Dn σ H ⟨st, p⟩ => p.bk ρ O σ H h st (Same.refl _)
theorem j_continue (h : A.ct ρ O) : J1 X B (.Continue pos) ρ O A := ps_imp ps_continue fun Dn σ H ⟨st, p⟩ => p.ct ρ O σ H h st (Same.refl _)
theorem j_set {i : Nat} {x : Str} (hN : X.N.Nodup) (hi : X.N[i]? = some x) (hx : Loc X.env.scope x) (he : EV X B ρ O e d) (hs : swapsWith e (some (.Name x pos')) pos.line X.env = pure false) (hf : X.fn x = true ∨ X.env.scope.names.lookup x = some .local)
    (h : A.nx (ρ.set i (some d)) O) : J1 X B (.Assign [.Name x pos'] e pos) ρ O A :=
  ps_imp (ps_set hN hi hx he hs hf) fun Dn σ H ⟨st, p⟩ => ⟨st, fun v H1 e1 r1 => p.nx _ O _ H1 h ((st.same e1).set r1) (vis_same e1)⟩
theorem j_setG {i : Nat} {x : Str} (hN : X.N.Nodup) (hi : X.N[i]? = some x) (hx : Loc X.env.scope x) (he : EG X B ρ O e d O') (hs : swapsWith e (some (.Name x pos')) pos.line X.env = pure false) (hf : X.fn x = true ∨ X.env.scope.names.lookup x = some .local)
    (h : A.nx (ρ.set i (some d)) O') : J1 X B (.Assign [.Name x pos'] e pos) ρ O A :=
  ps_imp (ps_set hN hi hx he hs hf) fun Dn σ H ⟨st, p⟩ => ⟨st, fun v H1 s1 e1 r1 => p.nx _ O' _ H1 h (s1.set r1) e1⟩
/-- x = a new list that will be changed -/
theorem j_setN {i : Nat} {x : Str} (hN : X.N.Nodup) (hi : X.N[i]? = some x) (hx : Loc X.env.scope x) (he : EN X B ρ O e ds) (hs : swapsWith e (some (.Name x pos')) pos.line X.env = pure false) (hf : X.fn x = true ∨ X.env.scope.names.lookup x = some .local)
    (h : ∀ p, has O p = false → A.nx (ρ.set i (some (.rf p))) ((p, .lst ds) :: O)) : J1 X B (.Assign [.Name x pos'] e pos) ρ O A :=
  ps_imp (ps_set hN hi hx he hs hf) fun Dn σ H ⟨st, p⟩ => ⟨st, fun q H1 vs hp e1 hv r => by
    have op := st.m.newO hp
    have vs1 : Same (vis B.F O H) (vis B.F ((q, .lst ds) :: O) H1) := fun a o h => by
      obtain ⟨h1, h2, h3⟩ := vis_some.mp h
      have ne : a ≠ q := ne_of_none h3 hp
      exact vis_some.mpr ⟨h1, by rw [has_cons, h2, Bool.or_false]; exact beq_eq_false_iff_ne.mpr (Ne.symm ne), e1 _ _ h3⟩
    refine p.nx _ _ _ H1 (h q op) ⟨⟨fun a o hb => ?_, fun a m hm => ?_, ?_, fun a m hm => (st.m.lent a m hm).mono vs1 fun o q => e1 _ _ q⟩, ?_⟩ vs1
    · have := st.m.base a o hb
      have ne : a ≠ q := ne_of_none this.1 hp
      exact ⟨e1 _ _ this.1, by rw [has_cons, this.2, Bool.or_false]; exact beq_eq_false_iff_ne.mpr (Ne.symm ne)⟩
    · rcases List.mem_cons.mp hm with z | z
      · cases z; exact ⟨vs, hv, r⟩
      · exact (st.m.mem a m z).mono vs1 fun o q => e1 _ _ q
    · rw [List.map_cons, List.nodup_cons]
      refine ⟨fun z => ?_, st.m.nd⟩
      obtain ⟨⟨a, m⟩, hm, ea⟩ := List.mem_map.mp z
      have : has O q = true := has_mem.mpr ⟨m, by have z : a = q := ea; rw [← z]; exact hm⟩
      rw [op] at this; cases this
    · exact (st.env.mono vs1).set (.rf q)⟩
theorem j_expr (he : EG X B ρ O e d O') (h : A.nx ρ O') (hs : swapsWith e none pos.line X.env = pure false := by rfl) : J1 X B (.Expr e pos) ρ O A :=
  ps_imp (ps_expr he hs) fun Dn σ H ⟨st, p⟩ => ⟨st, fun v H1 s1 e1 r1 => p.nx ρ O' σ H1 h s1 e1⟩
theorem j_ret (he : EV X B ρ O e d) (h : A.rt d O) : J1 X B (.Return (some e) pos) ρ O A :=
  ps_imp (ps_ret he) fun Dn σ H ⟨st, p⟩ => ⟨st, fun v H1 e1 r1 => p.rt d O v H1 h (st.same e1).m r1⟩
theorem j_retG (he : EG X B ρ O e d O') (h : A.rt d O') : J1 X B (.Return (some e) pos) ρ O A :=
  ps_imp (ps_ret he) fun Dn σ H ⟨st, p⟩ => ⟨st, fun v H1 s1 e1 r1 => p.rt d O' v H1 h s1.m r1⟩
theorem j_retN (h : A.rt .non O) : J1 X B (.Return none pos) ρ O A :=
  ps_imp ps_retN fun Dn σ H ⟨st, p⟩ => p.rt .non O .non H h st.m .non
/-- a new list handed back -/
def hold (p : Addr) (ds : List D) (O : Om) : Om := (p, .lst ds) :: O
theorem j_if {s1 s2 : List Stmt} (hc : ET X B ρ O c b1) (h1 : b1 = true → J X B s1 ρ O A) (h2 : b1 = false → J X B s2 ρ O A) : J1 X B (.If c s1 s2 pos) ρ O A := by
  cases b1 with
  | true => exact ps_imp (ps_if hc (h1 rfl) (u := fun _ _ _ => False) ⟨fun _ _ _ _ _ _ h => h.elim⟩) fun Dn σ H ⟨st, p⟩ => ⟨st, fun H1 e1 => iteT ⟨st.same e1, p.grow (vis_same e1)⟩⟩
  | false => exact ps_imp (ps_if hc (t := fun _ _ _ => False) ⟨fun _ _ _ _ _ _ h => h.elim⟩ (h2 rfl)) fun Dn σ H ⟨st, p⟩ => ⟨st, fun H1 e1 => iteF ⟨st.same e1, p.grow (vis_same e1)⟩⟩
theorem j_never (h : False) : J1 X B st ρ O A := h.elim

/-! ### a view of a list: one that stays, or a mutable -/
def Vs (O : Om) (d : D) (ds : List D) : Prop := d = .lst ds ∨ ∃ a, d = .rf a ∧ (a, M.lst ds) ∈ O
def Vw (O : Om) (d : D) (ds : List D) : Prop := Vs O d ds ∨ d = .frl ds
theorem Vs.at {K : PySem.W.Frag} {H : Hp} {v : V} (w : Vs (B.L ++ O) d ds) (m : MOk K B O H) (r : Rp K (vis B.F O H) v d) : ∃ a vs, v = .ref a ∧ H a = some (.lst vs) ∧ RpL K (vis B.F O H) vs ds := by
  rcases w with rfl | ⟨a, rfl, h⟩
  · cases r with
    | lst h r => exact ⟨_, _, rfl, vis_le _ _ h, r⟩
  · cases r
    obtain ⟨vs, h1, h2⟩ := (List.mem_append.mp h).elim (m.lent _ _) (m.mem _ _)
    exact ⟨_, vs, rfl, h1, h2⟩
theorem Vw.sql {K : PySem.W.Frag} {H : Hp} {v : V} (w : Vw (B.L ++ O) d ds) (m : MOk K B O H) (r : Rp K (vis B.F O H) v d) : ∃ a vs, v = .ref a ∧ SqL K H a vs ∧ RpL K (vis B.F O H) vs ds := by
  rcases w with w | rfl
  · obtain ⟨a, vs, e, h, r⟩ := w.at m r
    exact ⟨a, vs, e, .inl (.inl h), r⟩
  · cases r with
    | frl h r => exact ⟨_, _, rfl, vis_le.seq h, r⟩
end
end DL

set_option Elab.async false
set_option linter.all false
set_option maxRecDepth 100000
set_option maxHeartbeats 2000000
namespace DL
open PySem PySem.Spec PyProof.Rows L2

/-! ### targets -/
/-- slots outside are as they were -/
def Off (sl : List Nat) (σ σ' : L2.St) : Prop := σ'.length = σ.length ∧ ∀ j, j ∉ sl → σ'[j]? = σ[j]?
theorem Off.refl (sl : List Nat) (σ : L2.St) : Off sl σ σ := ⟨rfl, fun _ _ => rfl⟩
theorem Off.trans {s1 s2 : List Nat} {a b c : L2.St} (h : Off s1 a b) (k : Off s2 b c) : Off (s1 ++ s2) a c :=
  ⟨k.1.trans h.1, fun j hj => (k.2 j fun z => hj (List.mem_append_right _ z)).trans (h.2 j fun z => hj (List.mem_append_left _ z))⟩
theorem Off.wipe {sl vs : List Nat} {σ σ' : L2.St} (h : Off sl σ σ') (hs : ∀ j ∈ sl, j ∈ vs) : L2.wipe σ' vs = L2.wipe σ vs := by
  have at_ : ∀ (σ : L2.St) (vs : List Nat) (i : Nat), (L2.wipe σ vs)[i]? = if i ∈ vs then (σ[i]?).map (fun _ => none) else σ[i]? := by
    intro σ vs i
    induction vs with
    | nil => simp [L2.wipe]
    | cons v vs ih =>
      unfold L2.wipe
      by_cases e : v = i
      · subst e
        by_cases hl : v < (L2.wipe σ vs).length
        · rw [List.getElem?_set_self hl]
          have hl' : v < σ.length := by rw [L2.wipe_length] at hl; exact hl
          simp [hl']
        · have hl' : ¬ v < σ.length := by rw [L2.wipe_length] at hl; exact hl
          rw [List.getElem?_eq_none (by simpa using hl)]
          simp [List.getElem?_eq_none (Nat.le_of_not_lt hl')]
      · rw [List.getElem?_set_ne e, ih]
        have e' : ¬ i = v := fun z => e z.symm
        simp [e']
  apply List.ext_getElem?
  intro i
  rw [at_, at_]
  by_cases hi : i ∈ vs
  · rw [if_pos hi, if_pos hi]
    by_cases hl : i < σ.length
    · have hl' : i < σ'.length := by rw [h.1]; exact hl
      simp [hl, hl']
    · have hl' : ¬ i < σ'.length := by rw [h.1]; exact hl
      simp [hl, hl']
  · rw [if_neg hi, if_neg hi]
    exact h.2 i fun z => hi (hs i z)
/-- what a target does to the slots with a datum -/
structure EB (X : Cx) (tg : Expr) (g : TG) (sl : List Nat) (f : D → List (Option D) → Option (List (Option D))) : Prop where
  pg : PG X tg g
  is : ∀ (B : Gd) (O : Om) (d : D) (ρ ρ' : List (Option D)) (v : V) (σ : L2.St) (H : Hp) (Q : L2.St → Hp → Prop), f d ρ = some ρ' → StOk X.K B ρ O σ H → Rp X.K (vis B.F O H) v d → (∀ σ', StOk X.K B ρ' O σ' H → Off sl σ σ' → Q σ' H) → g v σ H Q
def bName (i : Nat) : D → List (Option D) → Option (List (Option D)) := fun d ρ => some (ρ.set i (some d))
section
variable {X : Cx} {B : Gd} {ρ ρ' : List (Option D)} {O O' O1 O2 : Om} {A : AE} {a b c e : Expr} {es : List Expr} {d d1 d2 d3 : D} {ds : List D} {pos pos' : Pos} {b1 b2 : Bool} {st : Stmt} {ss rest : List Stmt}
theorem eb_name {i : Nat} {x : Str} (hN : X.N.Nodup) (hi : X.N[i]? = some x) (hx : Loc X.env.scope x) (hf : X.fn x = true ∨ X.env.scope.names.lookup x = some .local) : EB X (.Name x pos) (gName i) [i] (bName i) :=
  ⟨pg_name hN hi hx hf, fun B O d ρ ρ' v σ H Q e s r k => by
    cases e
    exact k _ (s.set r) ⟨by simp, fun j hj => List.getElem?_set_ne (fun z => hj (by simp [z]))⟩⟩
/-- several targets -/
structure EBs (X : Cx) (ts : List Expr) (g : TGs) (sl : List Nat) (f : List D → List (Option D) → Option (List (Option D))) : Prop where
  pg : PGs X ts g
  is : ∀ (B : Gd) (O : Om) (ds : List D) (ρ ρ' : List (Option D)) (vs : List V) (σ : L2.St) (H : Hp) (Q : L2.St → Hp → Prop), f ds ρ = some ρ' → StOk X.K B ρ O σ H → RpL X.K (vis B.F O H) vs ds → (∀ σ', StOk X.K B ρ' O σ' H → Off sl σ σ' → Q σ' H) → g vs σ H Q
def bNil : List D → List (Option D) → Option (List (Option D)) := fun ds ρ => match ds with | [] => some ρ | _ => none
def bCons (f : D → List (Option D) → Option (List (Option D))) (g : List D → List (Option D) → Option (List (Option D))) : List D → List (Option D) → Option (List (Option D)) :=
  fun ds ρ => match ds with | [] => none | d :: ds => match f d ρ with | none => none | some ρ' => g ds ρ'
theorem ebs_nil : EBs X [] gNil [] bNil := ⟨pgs_nil, fun B O ds ρ ρ' vs σ H Q e s r k => by
  cases r with
  | nil => cases e; exact ⟨rfl, k _ s (Off.refl _ _)⟩
  | cons _ _ => cases e⟩
theorem ebs_cons {t : TG} {u : TGs} {s1 s2 : List Nat} {f g} (h1 : EB X e t s1 f) (h2 : EBs X es u s2 g) (hs : (assignEach (e :: es) X.env).map (·.2) = assign e X.env :: (assignEach es X.env).map (·.2) := by rfl) : EBs X (e :: es) (gCons t u) (s1 ++ s2) (bCons f g) :=
  ⟨pgs_cons h1.pg h2.pg hs, fun B O ds ρ ρ' vs σ H Q e s r k => by
    cases r with
    | nil => cases e
    | @cons v vs d ds rv r =>
      have e' : (match f d ρ with | none => none | some ρ1 => g ds ρ1) = some ρ' := e
      cases h : f d ρ with
      | none => rw [h] at e'; cases e'
      | some ρ1 =>
        rw [h] at e'
        exact ⟨v, vs, rfl, h1.is B O d ρ ρ1 v σ H _ h s rv fun σ1 s1 o1 => h2.is B O ds ρ1 ρ' vs σ1 H Q e' s1 r fun σ2 s2 o2 => k σ2 s2 (o1.trans o2)⟩⟩
def bTup (g : List D → List (Option D) → Option (List (Option D))) : D → List (Option D) → Option (List (Option D)) := fun d ρ => match d with | .tup ds => g ds ρ | _ => none
theorem eb_tup {k : Nat} {t : TGs} {f} {n : Nat} {sl : List Nat} (hc : X.calm = true) (h : EBs X es t sl f) (hl : ∀ ds ρ ρ', f ds ρ = some ρ' → ds.length = n) (hn : (assignEach es X.env).length = n := by rfl) (hst : (assignEach es X.env).findIdx? (·.1) = none := by rfl) :
    EB X (.Tuple es k pos) (gTup X.K n t) sl (bTup f) :=
  ⟨pg_tup hc h.pg hn hst, fun B O d ρ ρ' v σ H Q e s r k => by
    cases d with
    | tup ds =>
      cases r with
      | tup hq r => exact ⟨_, _, rfl, same_t vis_le hq, by rw [r.length]; exact hl _ _ _ e, h.is B O ds ρ ρ' _ σ H Q e s r k⟩
    | _ => cases e⟩
theorem bcons_len {f g} {n : Nat} (h : ∀ ds ρ ρ', g ds ρ = some ρ' → ds.length = n) : ∀ ds ρ ρ', bCons f g ds ρ = some ρ' → ds.length = n + 1 := fun ds ρ ρ' e => by
  cases ds with
  | nil => cases e
  | cons d ds =>
    have e' : (match f d ρ with | none => none | some ρ1 => g ds ρ1) = some ρ' := e
    cases q : f d ρ with
    | none => rw [q] at e'; cases e'
    | some ρ1 => rw [q] at e'; rw [List.length_cons, h _ _ _ e']
theorem bnil_len : ∀ (ds : List D) (ρ ρ' : List (Option D)), bNil ds ρ = some ρ' → ds.length = 0 := fun ds ρ ρ' e => by
  cases ds with
  | nil => rfl
  | cons _ _ => cases e
/-- target = value, a tuple's items -/
theorem j_asg {tg : Expr} {g : TG} {sl : List Nat} {f} (he : EV X B ρ O e d) (hg : EB X tg g sl f) (hf : f d ρ = some ρ') (h : A.nx ρ' O) (hs : swapsWithSole [tg] e pos.line X.env = pure false := by rfl) (hw : swappedStores [tg] e X.env = pure none := by rfl)
    (h1 : (assignEach [tg] X.env).map (·.2) = [assign tg X.env] := by rfl) : J1 X B (.Assign [tg] e pos) ρ O A :=
  ps_imp (ps_asg he hg.pg hs hw h1) fun Dn σ H ⟨st, p⟩ => ⟨st, fun v H1 e1 r1 => hg.is B O d ρ ρ' v σ H1 _ hf (st.same e1) r1 fun σ' s' _ => p.nx ρ' O σ' H1 h s' (vis_same e1)⟩
theorem j_asgG {tg : Expr} {g : TG} {sl : List Nat} {f} (he : EG X B ρ O e d O') (hg : EB X tg g sl f) (hf : f d ρ = some ρ') (h : A.nx ρ' O') (hs : swapsWithSole [tg] e pos.line X.env = pure false := by rfl) (hw : swappedStores [tg] e X.env = pure none := by rfl)
    (h1 : (assignEach [tg] X.env).map (·.2) = [assign tg X.env] := by rfl) : J1 X B (.Assign [tg] e pos) ρ O A :=
  ps_imp (ps_asg he hg.pg hs hw h1) fun Dn σ H ⟨st, p⟩ => ⟨st, fun v H1 s1 e1 r1 => hg.is B O' d ρ ρ' v σ H1 _ hf s1 r1 fun σ' s' _ => p.nx ρ' O' σ' H1 h s' e1⟩

/-! ### what is walked -/
structure Src (K : PySem.W.Frag) (L : Om) (Hv : Hp) (J : It) (G : Om → Prop) (ds : List D) : Prop where
  goes : ∀ (i : Nat) (B : Gd) (O : Om) (H : Hp), B.L = L → i < ds.length → MOk K B O H → Same Hv (vis B.F O H) → G O → J.go i H
  stops : ∀ (B : Gd) (O : Om) (H : Hp), B.L = L → MOk K B O H → Same Hv (vis B.F O H) → G O → J.stop ds.length H
  yields : ∀ (i : Nat) (B : Gd) (O : Om) (H : Hp) (x : V) (H' : Hp), B.L = L → i < ds.length → MOk K B O H → Same Hv (vis B.F O H) → G O → J.yld i H x H' → Same H H' ∧ ∃ d, ds[i]? = some d ∧ Rp K (vis B.F O H') x d
structure EI (X : Cx) (B : Gd) (ρ : List (Option D)) (O : Om) (tg iter : Expr) (wi : TI) (G : Om → Prop) (ds : List D) : Prop where
  pi : PI X tg iter wi
  is : ∀ (σ : L2.St) (H : Hp) (R : It → Hp → Prop), StOk X.K B ρ O σ H → (∀ J H1, Same H H1 → Src X.K B.L (vis B.F O H1) J G ds → R J H1) → wi σ H R
theorem src_list {K : PySem.W.Frag} {H : Hp} {a : Addr} {v : V} (w : Vw (B.L ++ O) d ds) (m : MOk K B O H) (r : Rp K (vis B.F O H) v d) (hv : v = .ref a) : Src K B.L (vis B.F O H) (Itl K a) (fun O' => Vw (B.L ++ O') d ds) ds := by
  subst hv
  have again : ∀ {B' : Gd} {O' : Om} {H' : Hp}, B'.L = B.L → Vw (B.L ++ O') d ds → MOk K B' O' H' → Same (vis B.F O H) (vis B'.F O' H') → ∃ vs', SqL K H' a vs' ∧ RpL K (vis B'.F O' H') vs' ds := fun {B' O' H'} eL w m e => by
    rw [← eL] at w
    obtain ⟨a', vs', ea, q, r⟩ := w.sql m (r.mono e)
    cases ea
    exact ⟨vs', q, r⟩
  refine ⟨fun i B' O' H' eL hi m e g => ?_, fun B' O' H' eL m e g => ?_, fun i B' O' H' x H2 eL hi m e g y => ?_⟩
  · obtain ⟨vs, q, r⟩ := again eL g m e
    obtain ⟨v, hv, _⟩ := r.get (i := i) (d := ds[i]) (by simp [hi])
    exact ⟨vs, v, q, hv⟩
  · obtain ⟨vs, q, r⟩ := again eL g m e
    exact ⟨vs, q, by rw [r.length]; exact Nat.le_refl _⟩
  · obtain ⟨vs, q, r⟩ := again eL g m e
    obtain ⟨e2, y⟩ := y
    subst e2
    obtain ⟨v, hv, rv⟩ := r.get (i := i) (d := ds[i]) (by simp [hi])
    have ex := y vs q
    rw [hv] at ex
    cases ex
    exact ⟨Same.refl _, _, by simp [hi], rv⟩
theorem ei_list {tg iter : Expr} (hi : EV X B ρ O iter d) (w : Vw (B.L ++ O) d ds) : EI X B ρ O tg iter (iList X.K (tD X.K B ρ O d)) (fun O' => Vw (B.L ++ O') d ds) ds :=
  ⟨pi_list hi, fun σ H R st k => ⟨st, fun v H1 e1 r1 => by
    obtain ⟨a, vs, rfl, hq, rl⟩ := w.sql (st.same e1).m r1
    exact ⟨a, rfl, ⟨vs, hq⟩, k _ H1 e1 (src_list w (st.same e1).m r1 rfl)⟩⟩⟩
theorem ei_tup {tg iter : Expr} (hi : EV X B ρ O iter (.tup ds)) : EI X B ρ O tg iter (iTup X.K (tD X.K B ρ O (.tup ds))) (fun _ => True) ds :=
  ⟨pi_tup hi, fun σ H R st k => ⟨st, fun v H1 e1 r1 => by
    cases r1 with
    | @tup a vs _ hq rl =>
    refine ⟨a, rfl, ⟨vs, same_t vis_le hq⟩, k _ H1 e1 ⟨fun i B' O' H' eL hi m e g => ?_, fun B' O' H' eL m e g => ?_, fun i B' O' H' x H2 eL hi m e g y => ?_⟩⟩
    · obtain ⟨v, hv, _⟩ := rl.get (i := i) (d := ds[i]) (by simp [hi])
      exact ⟨vs, v, same_t vis_le (same_t e hq), hv⟩
    · exact ⟨vs, same_t vis_le (same_t e hq), by rw [rl.length]; exact Nat.le_refl _⟩
    · obtain ⟨e2, y⟩ := y
      subst e2
      obtain ⟨v, hv, rv⟩ := rl.get (i := i) (d := ds[i]) (by simp [hi])
      have ex := y vs (same_t vis_le (same_t e hq))
      rw [hv] at ex
      cases ex
      exact ⟨Same.refl _, _, by simp [hi], rv.mono e⟩⟩⟩
theorem ei_str {tg iter : Expr} {z : Str} (hi : EV X B ρ O iter (.str z)) : EI X B ρ O tg iter (iStr (tD X.K B ρ O (.str z))) (fun _ => True) (z.cps.toList.map fun c => D.str ⟨#[c]⟩) :=
  ⟨pi_str hi, fun σ H R st k => ⟨st, fun v H1 e1 r1 => by
    cases r1
    refine ⟨z, rfl, k _ H1 e1 ⟨fun i B' O' H' eL hi m e g => ?_, fun B' O' H' eL m e g => ?_, fun i B' O' H' x H2 eL hi m e g y => ?_⟩⟩
    · show i < z.cps.size; simpa using hi
    · show z.cps.size ≤ _; simp
    · obtain ⟨e2, c, hc, ex⟩ := y
      subst e2 ex
      refine ⟨Same.refl _, .str ⟨#[c]⟩, ?_, .str _⟩
      rw [List.getElem?_map, Array.getElem?_toList, hc]; rfl⟩⟩
def rngD (lo : Int) (n : Nat) : List D := (List.range n).map fun i : Nat => D.int (lo + (i : Int))
theorem src_range {K : PySem.W.Frag} {L : Om} {Hv : Hp} {lo : Int} {n : Nat} : Src K L Hv (Itr lo n) (fun _ => True) (rngD lo n) := by
  have hl : (rngD lo n).length = n := by simp [rngD]
  refine ⟨fun i B' O' H' eL hi m e g => ?_, fun B' O' H' eL m e g => ?_, fun i B' O' H' x H2 eL hi m e g y => ?_⟩
  · rw [hl] at hi; exact hi
  · rw [hl]; exact Nat.le_refl _
  · rw [hl] at hi
    obtain ⟨e2, ex⟩ := y
    subst e2 ex
    exact ⟨Same.refl _, .int (lo + i), by simp [rngD, hi], .int _⟩
theorem ei_range1 {tg na : Expr} {p p' : Pos} {n : Int} (hgl : Gl X "range") (hm : X.mg "range" = none) (hi : EA X B ρ O [na] [.int n]) (hn : -(2 ^ 62) ≤ n ∧ n < 2 ^ 62) (hse : starEach [na] X.env = [(false, eval na X.env)] := by rfl) :
    EI X B ρ O tg (.Call (.Name "range" p) [na] [] p') (iRng1 (tA X.K B ρ O [.int n])) (fun _ => True) (rngD 0 n.toNat) :=
  ⟨pi_range1 hgl hm hi hse, fun σ H R st k => ⟨st, fun vs H1 e1 r1 => by
    cases r1 with
    | cons h r => cases h; cases r; exact ⟨n, rfl, hn.1, hn.2, k _ H1 e1 src_range⟩⟩⟩
theorem ei_range2 {tg ma na : Expr} {p p' : Pos} {m n : Int} (hgl : Gl X "range") (hm : X.mg "range" = none) (hi : EA X B ρ O [ma, na] [.int m, .int n]) (hn : -(2 ^ 62) ≤ m ∧ m < 2 ^ 62 ∧ -(2 ^ 62) ≤ n ∧ n < 2 ^ 62)
    (hse : starEach [ma, na] X.env = [(false, eval ma X.env), (false, eval na X.env)] := by rfl) (hse2 : starEach [na] X.env = [(false, eval na X.env)] := by rfl) :
    EI X B ρ O tg (.Call (.Name "range" p) [ma, na] [] p') (iRng2 (tA X.K B ρ O [.int m, .int n])) (fun _ => True) (rngD m (n - m).toNat) :=
  ⟨pi_range2 hgl hm hi hse hse2, fun σ H R st k => ⟨st, fun vs H1 e1 r1 => by
    cases r1 with
    | cons h r =>
      cases h
      cases r with
      | cons h r => cases h; cases r; exact ⟨m, n, rfl, hn, k _ H1 e1 src_range⟩⟩⟩
def enumD (ds : List D) : List D := (List.range ds.length).map fun i : Nat => D.tup [.int (i : Int), (ds[i]?).getD .non]
theorem ei_enum {ea : Expr} {elts : List Expr} {kk : Nat} {p p' tpos : Pos} (hgl : Gl X "enumerate") (hm : X.mg "enumerate" = none) (hi : EA X B ρ O [ea] [d]) (w : Vw (B.L ++ O) d ds) (hse : starEach [ea] X.env = [(false, eval ea X.env)] := by rfl) :
    EI X B ρ O (.Tuple elts kk tpos) (.Call (.Name "enumerate" p) [ea] [] p') (iEnum X.K (tA X.K B ρ O [d])) (fun O' => Vw (B.L ++ O') d ds) (enumD ds) :=
  ⟨pi_enum hgl hm hi hse, fun σ H R st k => ⟨st, fun vs H1 e1 r1 => by
    cases r1 with
    | @cons v _ _ _ h r =>
    cases r
    obtain ⟨a, vs, rfl, hq, rl⟩ := w.sql (st.same e1).m h
    have S := src_list w (st.same e1).m h rfl
    have hl : (enumD ds).length = ds.length := by simp [enumD]
    refine ⟨a, vs, rfl, hq, k _ H1 e1 ⟨fun i B' O' H' eL hi m e g => ?_, fun B' O' H' eL m e g => ?_, fun i B' O' H' x H2 eL hi m e g y => ?_⟩⟩
    · rw [hl] at hi
      exact S.goes i B' O' H' eL hi m e g
    · rw [hl]
      exact S.stops B' O' H' eL m e g
    · rw [hl] at hi
      obtain ⟨T, x', ex, hT, e2, y⟩ := y
      subst e2 ex
      obtain ⟨_, d', hd', rd⟩ := S.yields i B' O' H' x' H' eL hi m e g ⟨rfl, y⟩
      refine ⟨same_new hT, .tup [.int (i : Int), d'], ?_, .tup (.inl (.inl (m.visNew hT))) (.cons (.int _) (.cons (rd.mono (vis_same (same_new hT))) .nil))⟩
      unfold enumD; rw [List.getElem?_map, List.getElem?_range hi]; simp [hd']⟩⟩
def zipD (ds es : List D) : List D := (List.range (min ds.length es.length)).map fun i : Nat => D.tup [(ds[i]?).getD .non, (es[i]?).getD .non]
theorem ei_zip {ea eb : Expr} {elts : List Expr} {kk : Nat} {p p' tpos : Pos} {es : List D} (hgl : Gl X "zip") (hm : X.mg "zip" = none) (hi : EA X B ρ O [ea, eb] [d1, d2]) (w1 : Vw (B.L ++ O) d1 ds) (w2 : Vw (B.L ++ O) d2 es)
    (hse : starEach [ea, eb] X.env = (false, eval ea X.env) :: starEach [eb] X.env := by rfl) (hpl : (backTo p' (starEach [eb] X.env)).any (·.1) = false := by rfl) :
    EI X B ρ O (.Tuple elts kk tpos) (.Call (.Name "zip" p) [ea, eb] [] p') (iZip X.K (tA X.K B ρ O [d1, d2])) (fun O' => Vw (B.L ++ O') d1 ds ∧ Vw (B.L ++ O') d2 es) (zipD ds es) :=
  ⟨pi_zip hgl hm hi hse hpl, fun σ H R st k => ⟨st, fun vs H1 e1 r1 => by
    cases r1 with
    | @cons v _ _ _ h r =>
    cases r with
    | @cons v2 _ _ _ h2 r =>
    cases r
    obtain ⟨a, vs, rfl, hq, rl⟩ := w1.sql (st.same e1).m h
    obtain ⟨b, us, rfl, hq2, rl2⟩ := w2.sql (st.same e1).m h2
    have again : ∀ {B' : Gd} {O' : Om} {H' : Hp} {dd : D} {dl : List D} {a0 : Addr}, Rp X.K (vis B.F O H1) (.ref a0) dd → B'.L = B.L → Vw (B.L ++ O') dd dl → MOk X.K B' O' H' → Same (vis B.F O H1) (vis B'.F O' H') → ∃ vs', SqL X.K H' a0 vs' ∧ RpL X.K (vis B'.F O' H') vs' dl := fun {B' O' H' dd dl a0} r eL w m e => by
      rw [← eL] at w
      obtain ⟨a', vs', ea, q, r⟩ := w.sql m (r.mono e)
      cases ea
      exact ⟨vs', q, r⟩
    have hl : (zipD ds es).length = min ds.length es.length := by simp [zipD]
    refine ⟨a, b, vs, us, rfl, hq, hq2, k _ H1 e1 ⟨fun i B' O' H' eL hi m e g => ?_, fun B' O' H' eL m e g => ?_, fun i B' O' H' x H2 eL hi m e g y => ?_⟩⟩
    · rw [hl] at hi
      obtain ⟨xs, q1, r1⟩ := again h eL g.1 m e
      obtain ⟨ys, q2, r2⟩ := again h2 eL g.2 m e
      exact (walk_zip (n := min xs.length ys.length) rfl).goes i H' (by rw [r1.length, r2.length]; exact hi) ⟨q1, q2⟩
    · obtain ⟨xs, q1, r1⟩ := again h eL g.1 m e
      obtain ⟨ys, q2, r2⟩ := again h2 eL g.2 m e
      rw [hl, ← r1.length, ← r2.length]
      exact (walk_zip (n := min xs.length ys.length) rfl).stops H' ⟨q1, q2⟩
    · rw [hl] at hi
      obtain ⟨xs, q1, r1⟩ := again h eL g.1 m e
      obtain ⟨ys, q2, r2⟩ := again h2 eL g.2 m e
      obtain ⟨T, x', z', ex, hT, e2, y1, y2⟩ := (walk_zip (n := min xs.length ys.length) rfl).yields i H' x H2 (by rw [r1.length, r2.length]; exact hi) ⟨q1, q2⟩ y
      subst e2 ex
      obtain ⟨d', hd', rd⟩ := r1.get' y1
      obtain ⟨d'', hd'', rd'⟩ := r2.get' y2
      refine ⟨same_new hT, .tup [d', d''], ?_, .tup (.inl (.inl (m.visNew hT))) (.cons (rd.mono (vis_same (same_new hT))) (.cons (rd'.mono (vis_same (same_new hT))) .nil))⟩
      unfold zipD; rw [List.getElem?_map, List.getElem?_range hi]; simp [hd', hd'']⟩⟩

/-! ### loops -/
/-- a body, whatever the state -/
def tAny (X : Cx) (B : Gd) (ss : List Stmt) : TS := fun Dn σ H => ∃ ρ O A, J X B ss ρ O A ∧ tW X.K B ρ O A Dn σ H
theorem any_ok : PSs X ss (tAny X B ss) := ⟨fun pins s σ H Dn I ⟨ρ, O, A, j, q⟩ => j.run pins s σ H Dn I q⟩
theorem j_for {iter tg : Expr} {body : List Stmt} {wi : TI} {sl : List Nat} {f} {g : TG} {G : Om → Prop} (R : Nat → List (Option D) → Om → Prop)
    (hp : PassesOwn (model X.prog X.w) X.A X.env X.xe) (hc : X.calm = true) (hi : EI X B ρ O tg iter wi G ds) (hg : EB X tg g sl f)
    (hv : ∀ i ρ O, R i ρ O → G O)
    (h0 : ∃ ρ0, Wk ρ0 ρ ∧ R 0 ρ0 O)
    (hs : ∀ i d ρ O, ds[i]? = some d → R i ρ O → ∃ ρ', f d ρ = some ρ' ∧ J X B body ρ' O { A with nx := fun ρ2 O2 => ∃ ρ3, Wk ρ3 ρ2 ∧ R (i + 1) ρ3 O2, ct := fun ρ2 O2 => ∃ ρ3, Wk ρ3 ρ2 ∧ R (i + 1) ρ3 O2, bk := A.nx })
    (hd : ∀ ρ O, R ds.length ρ O → A.nx ρ O)
    (hfs : ∀ x, foldedSetIterable iter X.env x = pure x := by intro _; rfl) : J1 X B (.For tg iter body [] pos) ρ O A := by
  refine ps_imp (ps_for hp hc hi.pi hg.pg (any_ok (B := B)) hfs) fun Dn σ H ⟨st, p⟩ => hi.is σ H _ st fun J H1 e1 S => ?_
  obtain ⟨ρ0, w0, h0⟩ := h0
  have s1 := (st.same e1).weak w0
  refine ⟨fun i m σ' H' => m = ds.length - i ∧ i ≤ ds.length ∧ ∃ ρ' O', R i ρ' O' ∧ StOk X.K B ρ' O' σ' H' ∧ Same (vis B.F O H1) (vis B.F O' H'), ⟨ds.length, by simp, Nat.zero_le _, ρ0, O, h0, s1, Same.refl _⟩, ?_⟩
  rintro i m σ' H' ⟨rfl, hi', ρ', O', hr, s', e'⟩
  by_cases hlt : i < ds.length
  · refine .inr ⟨S.goes i B O' H' rfl hlt s'.m e' (hv _ _ _ hr), fun σ2 H2 => ∃ ρ2 O2, R (i + 1) ρ2 O2 ∧ StOk X.K B ρ2 O2 σ2 H2 ∧ Same (vis B.F O H1) (vis B.F O2 H2), fun σ2 H2 ⟨ρ2, O2, h2, s2, e2⟩ => ⟨ds.length - (i + 1), by omega, rfl, hlt, ρ2, O2, h2, s2, e2⟩, fun x H2 y => ?_⟩
    obtain ⟨e2, d, hd', rv⟩ := S.yields i B O' H' x H2 rfl hlt s'.m e' (hv _ _ _ hr) y
    obtain ⟨ρ1, hf, j⟩ := hs i d ρ' O' hd' hr
    refine hg.is B O' d ρ' ρ1 x σ' H2 _ hf (s'.same e2) rv fun σ2 s2 _ => ⟨ρ1, O', _, j, s2, ?_⟩
    have e'' := e'.trans (vis_same (F := B.F) (O := O') e2)
    exact ⟨fun ρ3 O3 σ3 H3 ⟨ρ4, w, h4⟩ s3 e3 => ⟨ρ4, O3, h4, s3.weak w, e''.trans e3⟩, p.rt, fun ρ3 O3 σ3 H3 h3 s3 e3 => p.nx ρ3 O3 σ3 H3 h3 s3 ((vis_same e1).trans (e''.trans e3)), fun ρ3 O3 σ3 H3 ⟨ρ4, w, h4⟩ s3 e3 => ⟨ρ4, O3, h4, s3.weak w, e''.trans e3⟩, fun C f d ρ3 O3 σ3 H3 dx v h3 s3 e3 => p.ex C f d ρ3 O3 σ3 H3 dx v h3 s3 ((vis_same e1).trans (e''.trans e3))⟩
  · have e : i = ds.length := by omega
    subst e
    exact .inl ⟨S.stops B O' H' rfl s'.m e' (hv _ _ _ hr), p.nx ρ' O' σ' H' (hd ρ' O' hr) s' ((vis_same e1).trans e')⟩
/-- while -/
def tAnyT (X : Cx) (B : Gd) (c : Expr) : TT := fun σ H Q => ∃ ρ O b, ET X B ρ O c b ∧ tT X.K B ρ O b σ H Q
theorem anyT_ok : PT X c (tAnyT X B c) := ⟨fun pins s σ H Q I ⟨ρ, O, b, j, q⟩ => j.run pins s σ H Q I q⟩
theorem j_while {body : List Stmt} (R : List (Option D) → Om → Prop) (μ : List (Option D) → Om → Nat) (hp : PassesOwn (model X.prog X.w) X.A X.env X.xe) (h0 : R ρ O)
    (hs : ∀ ρ O, R ρ O → ∃ b, ET X B ρ O c b ∧ (b = true → J X B body ρ O { A with nx := fun ρ2 O2 => ∃ ρ3, Wk ρ3 ρ2 ∧ R ρ3 O2 ∧ μ ρ3 O2 < μ ρ O, ct := fun ρ2 O2 => ∃ ρ3, Wk ρ3 ρ2 ∧ R ρ3 O2 ∧ μ ρ3 O2 < μ ρ O, bk := A.nx }) ∧ (b = false → A.nx ρ O)) :
    J1 X B (.While c body [] pos) ρ O A := by
  refine ps_imp (ps_while hp (anyT_ok (B := B)) (any_ok (B := B))) fun Dn σ H ⟨st, p⟩ => ?_
  refine ⟨fun m σ' H' => ∃ ρ' O', R ρ' O' ∧ m = μ ρ' O' ∧ StOk X.K B ρ' O' σ' H' ∧ Same (vis B.F O H) (vis B.F O' H'), ⟨_, ρ, O, h0, rfl, st, Same.refl _⟩, ?_⟩
  rintro m σ' H' ⟨ρ', O', hr, rfl, s', e'⟩
  obtain ⟨b, t, h1, h2⟩ := hs ρ' O' hr
  refine ⟨ρ', O', b, t, s', fun H2 e2 => ?_⟩
  have s2 := s'.same e2
  have e3 := e'.trans (vis_same (F := B.F) (O := O') e2)
  cases b with
  | true =>
    refine iteT ⟨fun σ3 H3 => ∃ ρ3 O3, R ρ3 O3 ∧ μ ρ3 O3 < μ ρ' O' ∧ StOk X.K B ρ3 O3 σ3 H3 ∧ Same (vis B.F O H) (vis B.F O3 H3), fun σ3 H3 ⟨ρ3, O3, q1, q2, q3, q4⟩ => ⟨_, q2, ρ3, O3, q1, rfl, q3, q4⟩, ρ', O', _, h1 rfl, s2, ?_⟩
    exact ⟨fun ρ3 O3 σ3 H3 ⟨ρ4, w, h4, l⟩ s3 e4 => ⟨ρ4, O3, h4, l, s3.weak w, e3.trans e4⟩, p.rt, fun ρ3 O3 σ3 H3 h3 s3 e4 => p.nx ρ3 O3 σ3 H3 h3 s3 (e3.trans e4), fun ρ3 O3 σ3 H3 ⟨ρ4, w, h4, l⟩ s3 e4 => ⟨ρ4, O3, h4, l, s3.weak w, e3.trans e4⟩, fun C f d ρ4 O3 σ3 H3 dx v h3 s3 e4 => p.ex C f d ρ4 O3 σ3 H3 dx v h3 s3 (e3.trans e4)⟩
  | false => exact iteF (p.nx ρ' O' σ' H2 (h2 rfl) s2 e3)

/-! ### comprehensions -/
theorem has_keys {O O' : Om} (h : O.map (·.1) = O'.map (·.1)) (a : Addr) : has O a = has O' a := by
  have : ∀ O : Om, has O a = (O.map (·.1)).contains a := fun O => by
    unfold has
    induction O with
    | nil => rfl
    | cons q O ih => rw [List.any_cons, ih, List.map_cons, List.contains_cons, Bool.beq_comm]
  rw [this, this, h]
theorem vis_keys {O O' : Om} {F : Addr → Bool} {H : Hp} (h : O.map (·.1) = O'.map (·.1)) : vis F O H = vis F O' H := by
  funext a
  unfold vis
  rw [has_keys h a]
theorem wipe_wipe (σ : L2.St) (vs : List Nat) : L2.wipe (L2.wipe σ vs) vs = L2.wipe σ vs := by
  have z : ∀ (us : List Nat), (∀ j ∈ us, j ∈ vs) → L2.wipe (L2.wipe σ vs) us = L2.wipe σ vs := by
    intro us hu
    induction us with
    | nil => rfl
    | cons u us ih =>
      show (L2.wipe (L2.wipe σ vs) us).set u none = L2.wipe σ vs
      rw [show L2.wipe (L2.wipe σ vs) us = L2.wipe σ vs from ih fun j hj => hu j (List.mem_cons_of_mem _ hj)]
      have hm := hu u List.mem_cons_self
      have : ∀ (ws : List Nat), u ∈ ws → (L2.wipe σ ws).set u none = L2.wipe σ ws := by
        intro ws
        induction ws with
        | nil => intro h; simp at h
        | cons w ws ih2 =>
          intro h
          unfold L2.wipe
          by_cases e : w = u
          · subst e; rw [List.set_set]
          · rw [List.set_comm _ _ e, ih2 (by rcases List.mem_cons.mp h with z | z; exact absurd z.symm e; exact z)]
      exact this vs hm
  exact z vs fun _ h => h
def wipeD (ρ : List (Option D)) : List Nat → List (Option D)
  | [] => ρ
  | v :: vs => (wipeD ρ vs).set v none
theorem wipeD_env {K : PySem.W.Frag} {Hv : Hp} {σ : L2.St} (h : EnvR K Hv σ ρ) (vs : List Nat) : EnvR K Hv (L2.wipe σ vs) (wipeD ρ vs) := by
  induction vs with
  | nil => exact h
  | cons v vs ih =>
    refine ⟨by unfold L2.wipe wipeD; rw [List.length_set, List.length_set]; exact ih.1, fun i d e => ?_⟩
    unfold wipeD at e
    by_cases hi : v = i
    · subst hi
      by_cases hl : v < (wipeD ρ vs).length
      · rw [List.getElem?_set_self hl] at e; cases e
      · rw [List.getElem?_eq_none (by simpa using hl)] at e; cases e
    · rw [List.getElem?_set_ne hi] at e
      obtain ⟨u, a, b⟩ := ih.2 i d e
      exact ⟨u, by unfold L2.wipe; rw [List.getElem?_set_ne hi]; exact a, b⟩
abbrev ETs (X : Cx) (B : Gd) (ρ : List (Option D)) (O : Om) (ifs : List Expr) (b : Bool) : Prop := PTs X ifs (tT X.K B ρ O b)
theorem ets_nil : ETs X B ρ O [] true := ⟨fun pins s σ H Q I ⟨st, k⟩ => pts_nil.run pins s σ H Q I (k H (Same.refl H))⟩
theorem ets_one (h : ET X B ρ O c b1) : ETs X B ρ O [c] b1 := pts_one h
/-- tests, elements: whatever the state -/
def tAnyTs (Xs : Cx → Prop) (ifs : List Expr) : TT := fun σ H Q => ∃ (K : PySem.W.Frag) (B : Gd) (ρ : List (Option D)) (O : Om) (b : Bool), (∀ X, Xs X → X.K = K ∧ ETs X B ρ O ifs b) ∧ tT K B ρ O b σ H Q
def tAnyE (Xs : Cx → Prop) (e : Expr) : TE := fun σ H Q => ∃ (K : PySem.W.Frag) (B : Gd) (ρ : List (Option D)) (O : Om) (d : D), (∀ X, Xs X → X.K = K ∧ EV X B ρ O e d) ∧ tD K B ρ O d σ H Q
theorem anyTs_ok {Xs : Cx → Prop} {ifs : List Expr} (h : Xs X) : PTs X ifs (tAnyTs Xs ifs) := ⟨fun pins s σ H Q I ⟨K, B, ρ, O, b, j, q⟩ => by
  obtain ⟨ek, jj⟩ := j X h
  subst ek
  exact jj.run pins s σ H Q I q⟩
theorem anyE_ok {Xs : Cx → Prop} (h : Xs X) : PE X e (tAnyE Xs e) := ⟨fun pins s σ H Q I ⟨K, B, ρ, O, d, j, q⟩ => by
  obtain ⟨ek, jj⟩ := j X h
  subst ek
  exact jj.run pins s σ H Q I q⟩
/-- the contexts of a comprehension's block -/
def Blk (X : Cx) (scope : Scope) : Cx → Prop := fun X' => ∃ (s : Shared) (H : Hp) (C : Addr) (cl : List (Str × Addr)) (fp : List Addr), X' = X.blk s H scope (compEnvC scope cl C X.env) fp
/-- the ground of a comprehension: the new list hidden -/
def Gd.hid (B : Gd) (D : Addr) (H : Hp) (O : Om) (h1 : ∀ a, B.F a = true → ∃ o, B.Hb a = some o) (h2 : ∃ o, H D = some o) (h3 : ∀ a o, B.Hb a = some o → H a = some o ∧ has O a = false) (h4 : has O D = false) : Gd :=
  ⟨fun a => B.F a || a == D, fun a => if has O a = true then none else H a, B.W, B.L, fun a h => by
    rw [Bool.or_eq_true] at h
    rcases h with h | h
    · obtain ⟨o, e⟩ := h1 a h
      obtain ⟨q1, q2⟩ := h3 a o e
      exact ⟨o, by rw [q2]; exact q1⟩
    · have e : a = D := beq_iff_eq.mp h
      subst e
      obtain ⟨o, q⟩ := h2
      exact ⟨o, by rw [h4]; exact q⟩, fun a m h => by rw [B.lF a m h]; rfl⟩
theorem lcW_imp {α : Type} {xs : List α} {h : α → D} {pr : α → Bool} {el : α → D} {elt iter tg : Expr} {ifs : List Expr} {scope : Scope} {own : List (Str × Nat)} {wi : TI} {G : Om → Prop} {g : TG} {sl : List Nat} {f}
    (hc : X.calm = true) (hN : X.N.Nodup) (hi : EI X B ρ O tg iter wi G (xs.map h)) (hG : G O) (ok : BlkOk X.N X.env.scope scope own)
    (hg : ∀ X', Blk X scope X' → EB X' tg g sl f) (hsl : ∀ j ∈ sl, j ∈ own.map (·.2))
    (hb : ∀ x ∈ xs, ∃ ρ', f (h x) (wipeD ρ (own.map (·.2))) = some ρ' ∧ (∀ X' B', B'.L = B.L → Blk X scope X' → ETs X' B' ρ' O ifs (pr x)) ∧ (pr x = true → ∀ X' B', B'.L = B.L → Blk X scope X' → EV X' B' ρ' O elt (el x)))
    (hz : xs.length < sizeLine) (σ : L2.St) (H : Hp) (Q : VK) (hq : tN X.K B ρ O ((xs.filter pr).map el) σ H Q) :

    tLc wi g (tAnyTs (Blk X scope) ifs) (tAnyE (Blk X scope) elt) (own.map (·.2)) σ H Q := by
  obtain ⟨st, k⟩ := hq
  refine hi.is σ H _ st fun J H1 e1 S D hD => ?_
  have s1 := st.same e1
  have oD := s1.m.newO hD
  have fD := s1.m.newF hD
  -- what holds at a turn: all that stood, and the new list's items known without it
  let Inv : Nat → Hp → Prop := fun i H' => Same H1 H' ∧ ∃ acc, H' D = some (.lst acc) ∧ RpL X.K (vis B.F ((D, .lst []) :: O) H') acc (((xs.take i).filter pr).map el)
  have visD : ∀ {H' : Hp}, vis B.F ((D, .lst []) :: O) H' = fun a => if (B.F a || a == D || has O a) = true then none else H' a := fun {H'} => by
    funext a
    unfold vis
    rw [has_cons, Bool.beq_comm (a := D), Bool.or_assoc]
  have keep : ∀ {H' : Hp}, Same H1 H' → Same (vis B.F O H1) (vis B.F ((D, .lst []) :: O) H') := fun {H'} e a o h => by
    obtain ⟨h1, h2, h3⟩ := vis_some.mp h
    have ne : a ≠ D := ne_of_none h3 hD
    exact vis_some.mpr ⟨h1, by rw [has_cons, h2, Bool.or_false]; exact beq_eq_false_iff_ne.mpr (Ne.symm ne), e _ _ h3⟩
  have hid : ∀ {H' : Hp} (e : Same H1 H') (hd : ∃ o, H' D = some o), ∃ B' : Gd, B'.L = B.L ∧ (∀ H2, vis B'.F O H2 = vis B.F ((D, .lst []) :: O) H2) ∧ StOk X.K B' (wipeD ρ (own.map (·.2))) O (L2.wipe σ (own.map (·.2))) H' := fun {H'} e hd => by
    have b3 : ∀ a o, B.Hb a = some o → H' a = some o ∧ has O a = false := fun a o q => ⟨e _ _ (s1.m.base a o q).1, (s1.m.base a o q).2⟩
    have ev : ∀ H2, vis (B.hid D H' O B.ok hd b3 oD).F O H2 = vis B.F ((D, .lst []) :: O) H2 := fun H2 => by rw [visD]; rfl
    refine ⟨B.hid D H' O B.ok hd b3 oD, rfl, ev, ⟨⟨fun a o q => ?_, fun a m hm => ?_, s1.m.nd, fun a m hm => ?_⟩, ?_⟩⟩
    · have q' : (if has O a = true then none else H' a) = some o := q
      cases ha : has O a with
      | true => rw [ha, if_pos rfl] at q'; cases q'
      | false => rw [ha, if_neg Bool.false_ne_true] at q'; exact ⟨q', rfl⟩
    · rw [ev]
      exact (s1.m.mem a m hm).mono (keep e) fun o q => e _ _ q
    · rw [ev]
      exact (s1.m.lent a m hm).mono (keep e) fun o q => e _ _ q
    · rw [ev]
      exact wipeD_env (s1.env.mono (keep e)) _
  refine ⟨fun i m H' => m = xs.length - i ∧ i ≤ xs.length ∧ Inv i H', ⟨xs.length, by simp, Nat.zero_le _, same_new hD, [], upd_same, .nil⟩, ?_⟩
  rintro i m H' ⟨rfl, hi', eS, acc, hA, rA⟩
  have hlx : (xs.map h).length = xs.length := List.length_map ..
  obtain ⟨B', eL, ev, sB⟩ := hid eS ⟨_, hA⟩
  have eB : Same (vis B.F O H1) (vis B'.F O H') := by rw [ev]; exact keep eS
  by_cases hlt : i < xs.length
  · refine .inr ⟨S.goes i B' O H' eL (by rw [hlx]; exact hlt) sB.m eB hG, fun H2 => Inv (i + 1) H2, fun H2 q => ⟨xs.length - (i + 1), by omega, rfl, hlt, q⟩, fun x H2 y => ?_⟩
    obtain ⟨e2, d, hd', rv⟩ := S.yields i B' O H' x H2 eL (by rw [hlx]; exact hlt) sB.m eB hG y
    have ed : d = h (xs[i]) := by
      rw [List.getElem?_map, List.getElem?_eq_getElem hlt] at hd'
      exact (Option.some.inj hd').symm
    subst ed
    obtain ⟨ρ', hf, ht, he⟩ := hb (xs[i]) (List.getElem_mem hlt)
    have hK : ∀ X', Blk X scope X' → X'.K = X.K := fun X' ⟨s, H, C, cl, fp, e⟩ => by rw [e]
    refine (hg (X.blk X.s_0 H scope (compEnvC scope [] 0 X.env) []) ⟨X.s_0, H, 0, [], [], rfl⟩).is B' O _ _ ρ' x _ H2 _ hf (sB.same e2) rv fun σ2 s2 off => ⟨(off.wipe hsl).trans (wipe_wipe _ _), ?_⟩
    refine ⟨X.K, B', ρ', O, pr xs[i], fun X' hX' => ⟨hK X' hX', ht X' B' eL hX'⟩, s2, fun H3 e3 => ?_⟩
    have tk : xs.take (i + 1) = xs.take i ++ [xs[i]] := by rw [List.take_succ, List.getElem?_eq_getElem hlt]; rfl
    have eS3 : Same H1 H3 := (eS.trans e2).trans e3
    have la : acc.length < sizeLine := by
      rw [rA.length, List.length_map]
      have := List.length_filter_le pr (xs.take i)
      rw [List.length_take] at this
      omega
    cases hp : pr xs[i] with
    | false =>
      refine iteF ⟨eS3, acc, e3 _ _ (e2 _ _ hA), ?_⟩
      rw [tk, List.filter_append]
      have : List.filter pr [xs[i]] = [] := by simp [hp]
      rw [this, List.append_nil]
      exact rA.mono (vis_same (e2.trans e3))
    | true =>
      refine iteT ⟨X.K, B', ρ', O, el xs[i], fun X' hX' => ⟨hK X' hX', he hp X' B' eL hX'⟩, s2.same e3, fun v H4 e4 r4 => ⟨acc, e4 _ _ (e3 _ _ (e2 _ _ hA)), la, ?_⟩⟩
      have up : vis B.F ((D, .lst []) :: O) (upd H4 D (.lst (acc ++ [v]))) = vis B.F ((D, .lst []) :: O) H4 := by
        rw [visD, visD]
        funext a
        by_cases q : a = D
        · subst q; simp
        · rw [upd_ne q]
      refine ⟨fun a o q => ?_, acc ++ [v], upd_same, ?_⟩
      · rw [upd_ne (ne_of_none q hD)]
        exact e4 _ _ (eS3 _ _ q)
      · rw [up, tk, List.filter_append]
        have : List.filter pr [xs[i]] = [xs[i]] := by simp [hp]
        rw [this, List.map_append]
        refine (rA.mono (vis_same ((e2.trans e3).trans e4))).append (.cons ?_ .nil)
        rw [← ev]
        exact r4
  · have e : i = xs.length := by omega
    subst e
    refine .inl ⟨by have q := S.stops B' O H' eL sB.m eB hG; rw [hlx] at q; exact q, k D H' acc (e1.free hD) (e1.trans eS) hA ?_⟩
    rw [List.take_length] at rA
    rw [show vis B.F ((D, .lst ((xs.filter pr).map el)) :: O) H' = vis B.F ((D, .lst []) :: O) H' from vis_keys rfl]
    exact rA
theorem en_lcW {α : Type} {xs : List α} {h : α → D} {pr : α → Bool} {el : α → D} {elt iter tg : Expr} {ifs : List Expr} {scope : Scope} {own : List (Str × Nat)} {wi : TI} {G : Om → Prop} {g : TG} {sl : List Nat} {f}
    (hc : X.calm = true) (hN : X.N.Nodup) (hi : EI X B ρ O tg iter wi G (xs.map h)) (hG : G O) (ok : BlkOk X.N X.env.scope scope own)
    (hg : ∀ X', Blk X scope X' → EB X' tg g sl f) (hsl : ∀ j ∈ sl, j ∈ own.map (·.2))
    (hb : ∀ x ∈ xs, ∃ ρ', f (h x) (wipeD ρ (own.map (·.2))) = some ρ' ∧ (∀ X' B', B'.L = B.L → Blk X scope X' → ETs X' B' ρ' O ifs (pr x)) ∧ (pr x = true → ∀ X' B', B'.L = B.L → Blk X scope X' → EV X' B' ρ' O elt (el x)))
    (hz : xs.length < sizeLine) (hs : ∀ x, foldedSetIterable iter X.env x = pure x := by intro _; rfl) :
    EN X B ρ O (.ListComp elt [⟨tg, iter, ifs, 0⟩] scope pos) ((xs.filter pr).map el) :=
  pe_imp (pe_lc (own := own) (g := g) (tt := tAnyTs (Blk X scope) ifs) (te := tAnyE (Blk X scope) elt) hc hN hi.pi ok (fun s H C cl fp => (hg _ ⟨s, H, C, cl, fp, rfl⟩).pg) (fun s H C cl fp => anyTs_ok ⟨s, H, C, cl, fp, rfl⟩) (fun s H C cl fp => anyE_ok ⟨s, H, C, cl, fp, rfl⟩) hs) fun σ H Q q => lcW_imp hc hN hi hG ok hg hsl hb hz σ H Q q
/-- name = [comprehension], the name a local: the list as it stays -/
theorem j_setLc {α : Type} {xs : List α} {h : α → D} {pr : α → Bool} {el : α → D} {elt iter tg : Expr} {ifs : List Expr} {scope : Scope} {own : List (Str × Nat)} {wi : TI} {G : Om → Prop} {g : TG} {sl : List Nat} {f}
    (hc : X.calm = true) (hN : X.N.Nodup) (hi : EI X B ρ O tg iter wi G (xs.map h)) (hG : G O) (ok : BlkOk X.N X.env.scope scope own)
    (hg : ∀ X', Blk X scope X' → EB X' tg g sl f) (hsl : ∀ j ∈ sl, j ∈ own.map (·.2))
    (hb : ∀ x ∈ xs, ∃ ρ', f (h x) (wipeD ρ (own.map (·.2))) = some ρ' ∧ (∀ X' B', B'.L = B.L → Blk X scope X' → ETs X' B' ρ' O ifs (pr x)) ∧ (pr x = true → ∀ X' B', B'.L = B.L → Blk X scope X' → EV X' B' ρ' O elt (el x)))
    (hz : xs.length < sizeLine) {i : Nat} {y : Str} {py : Pos} (hy : X.N[i]? = some y) (hyl : X.env.scope.names.lookup y = some .local) (hsw : swapsWith (.ListComp elt [⟨tg, iter, ifs, 0⟩] scope pos') (some (.Name y py)) pos.line X.env = pure true) {es : List D} (hes : (xs.filter pr).map el = es) (hnx : A.nx (ρ.set i (some (.lst es))) O) (hs : ∀ x, foldedSetIterable iter X.env x = pure x := by intro _; rfl) :
    J1 X B (.Assign [.Name y py] (.ListComp elt [⟨tg, iter, ifs, 0⟩] scope pos') pos) ρ O A :=
  by
  subst hes
  exact ps_imp (ps_setLc (own := own) (g := g) (tt := tAnyTs (Blk X scope) ifs) (te := tAnyE (Blk X scope) elt) hc hN hy hyl hsw hi.pi ok (fun s H C cl fp => (hg _ ⟨s, H, C, cl, fp, rfl⟩).pg) (fun s H C cl fp => anyTs_ok ⟨s, H, C, cl, fp, rfl⟩) (fun s H C cl fp => anyE_ok ⟨s, H, C, cl, fp, rfl⟩) hs) fun Dn σ H ⟨st, p⟩ => lcW_imp hc hN hi hG ok hg hsl hb hz σ H _ ⟨st, fun q H1 vs hp e1 hv r => by
    have fp := st.m.newF hp
    have op := st.m.newO hp
    have r' : Rp X.K (vis B.F O H1) (.ref q) (.lst ((xs.filter pr).map el)) := .lst (vis_some.mpr ⟨fp, op, hv⟩) (r.mono fun a o h => by
      obtain ⟨h1, h2, h3⟩ := vis_some.mp h
      rw [has_cons, Bool.or_eq_false_iff] at h2
      exact vis_some.mpr ⟨h1, h2.2, h3⟩)
    exact p.nx _ O _ H1 hnx ((st.same e1).set r') (vis_same e1)⟩

end
end DL

set_option Elab.async false
set_option linter.all false
set_option maxRecDepth 100000
set_option maxHeartbeats 2000000
namespace DL
open PySem PySem.Spec PyProof.Rows L2

section
variable {X : Cx} {B : Gd} {ρ ρ' : List (Option D)} {O O' O1 O2 : Om} {A : AE} {a b c e o : Expr} {es : List Expr} {d d1 d2 d3 : D} {ds : List D} {pos pos' p apos : Pos} {b1 b2 : Bool} {st : Stmt} {ss rest : List Stmt} {x : Str}
/-! ### built-ins by name -/
theorem ev_bltn {v : V} {u : Value} (hg : Gl X x) (hm : X.mg x = none) (hv : bootBuiltins x = some u) (r : RelV v u) (rp : ∀ H, Rp X.K H v d) (hn : x ≠ "__name__" := by decide) (hd : (x == ("__debug__" : Str)) = false := by decide) : EV X B ρ O (.Name x pos) d :=
  pe_imp (pe_bltn hg hm hv r hn hd) fun σ H Q ⟨st, k⟩ => k v H (Same.refl H) (rp _)
def RC (K : PySem.W.Frag) (B : Gd) (O : Om) (r : List V → Hp → VK → Prop) (ds : List D) (d : D) : Prop :=
  ∀ (xs : List V) (H : Hp) (Q : VK), MOk K B O H → RpL K (vis B.F O H) xs ds → (∀ v H', Same H H' → Rp K (vis B.F O H') v d → Q v H') → r xs H Q
/-- a new list comes -/
def RCN (K : PySem.W.Frag) (B : Gd) (O : Om) (r : List V → Hp → VK → Prop) (ds es : List D) : Prop :=
  ∀ (xs : List V) (H : Hp) (Q : VK), MOk K B O H → RpL K (vis B.F O H) xs ds → (∀ p H' vs, H p = none → Same H H' → H' p = some (.lst vs) → RpL K (vis B.F ((p, .lst es) :: O) H') vs es → Q (.ref p) H') → r xs H Q
theorem call_rc {r : List V → Hp → VK → Prop} (hr : RC X.K B O r ds d) (σ : L2.St) (H : Hp) (Q : VK) (h : tD X.K B ρ O d σ H Q) : tCB r (tA X.K B ρ O ds) σ H Q := by
  obtain ⟨st, k⟩ := h
  exact ⟨st, fun vs H1 e1 r1 => hr vs H1 Q (st.same e1).m r1 fun v H2 e2 r2 => k v H2 (e1.trans e2) r2⟩
theorem call_rcn {r : List V → Hp → VK → Prop} {es : List D} (hr : RCN X.K B O r ds es) (σ : L2.St) (H : Hp) (Q : VK) (h : tN X.K B ρ O es σ H Q) : tCB r (tA X.K B ρ O ds) σ H Q := by
  obtain ⟨st, k⟩ := h
  exact ⟨st, fun vs H1 e1 r1 => hr vs H1 Q (st.same e1).m r1 fun p H2 ws hp e2 hq r2 => k p H2 ws (e1.free hp) (e1.trans e2) hq r2⟩
theorem ev_callB {r : List V → Hp → VK → Prop} {id : String} (hc : CallR X (.builtin id) r) (hr : RC X.K B O r ds d) (hg : Gl X x) (hm : X.mg x = none) (hv : bootBuiltins x = some (.builtin id)) (ha : EA X B ρ O (e :: es) ds) (hn : x ≠ "__name__" := by decide) (hdb : (x == ("__debug__" : Str)) = false := by decide)
    (he : starEach (e :: es) X.env = (false, eval e X.env) :: starEach es X.env := by rfl) (hpl : (backTo pos (starEach es X.env)).any (·.1) = false := by rfl) : EV X B ρ O (.Call (.Name x p) (e :: es) [] pos) d :=
  pe_imp (pe_callB hc hg hm hv ha hn hdb he hpl) (call_rc hr)
theorem ev_callTy {r : List V → Hp → VK → Prop} {T : String} (hc : CallR X (.type T) r) (hr : RC X.K B O r ds d) (hg : Gl X x) (hm : X.mg x = none) (hv : bootBuiltins x = some (.type T)) (ha : EA X B ρ O (e :: es) ds) (hn : x ≠ "__name__" := by decide) (hdb : (x == ("__debug__" : Str)) = false := by decide)
    (he : starEach (e :: es) X.env = (false, eval e X.env) :: starEach es X.env := by rfl) (hpl : (backTo pos (starEach es X.env)).any (·.1) = false := by rfl) : EV X B ρ O (.Call (.Name x p) (e :: es) [] pos) d :=
  pe_imp (pe_callTy hc hg hm hv ha hn hdb he hpl) (call_rc hr)
theorem en_callTy {r : List V → Hp → VK → Prop} {T : String} {ds' : List D} (hc : CallR X (.type T) r) (hr : RCN X.K B O r ds ds') (hg : Gl X x) (hm : X.mg x = none) (hv : bootBuiltins x = some (.type T)) (ha : EA X B ρ O (e :: es) ds) (hn : x ≠ "__name__" := by decide) (hdb : (x == ("__debug__" : Str)) = false := by decide)
    (he : starEach (e :: es) X.env = (false, eval e X.env) :: starEach es X.env := by rfl) (hpl : (backTo pos (starEach es X.env)).any (·.1) = false := by rfl) : EN X B ρ O (.Call (.Name x p) (e :: es) [] pos) ds' :=
  pe_imp (pe_callTy hc hg hm hv ha hn hdb he hpl) (call_rcn hr)
theorem en_callB {r : List V → Hp → VK → Prop} {id : String} {ds' : List D} (hc : CallR X (.builtin id) r) (hr : RCN X.K B O r ds ds') (hg : Gl X x) (hm : X.mg x = none) (hv : bootBuiltins x = some (.builtin id)) (ha : EA X B ρ O (e :: es) ds) (hn : x ≠ "__name__" := by decide) (hdb : (x == ("__debug__" : Str)) = false := by decide)
    (he : starEach (e :: es) X.env = (false, eval e X.env) :: starEach es X.env := by rfl) (hpl : (backTo pos (starEach es X.env)).any (·.1) = false := by rfl) : EN X B ρ O (.Call (.Name x p) (e :: es) [] pos) ds' :=
  pe_imp (pe_callB hc hg hm hv ha hn hdb he hpl) (call_rcn hr)
/-- a new list of what stands -/
theorem new_same {K : PySem.W.Frag} {H : Hp} (m : MOk K B O H) {vs : List V} (r : RpL K (vis B.F O H) vs ds) {Q : VK} (k : ∀ p H' vs, H p = none → Same H H' → H' p = some (.lst vs) → RpL K (vis B.F ((p, .lst ds) :: O) H') vs ds → Q (.ref p) H') :
    ∀ l, H l = none → Q (.ref l) (upd H l (.lst vs)) := fun l hl => k l _ vs hl (same_new hl) upd_same (new_vis m hl r _)
theorem vw_rp {K : PySem.W.Frag} {H : Hp} {xs : List V} (w : Vw (B.L ++ O) d ds) (m : MOk K B O H) (r : RpL K (vis B.F O H) xs [d]) : ∃ a vs, xs = [.ref a] ∧ SqL K H a vs ∧ RpL K (vis B.F O H) vs ds := by
  cases r with
  | cons h r =>
    cases r
    obtain ⟨a, vs, e, q, rl⟩ := w.sql m h
    exact ⟨a, vs, by rw [e], q, rl⟩
/-- a view of a list or a tuple -/
def Vq (O : Om) (d : D) (ds : List D) : Prop := Vw O d ds ∨ d = .tup ds
theorem Vq.sq {K : PySem.W.Frag} {H : Hp} {v : V} (w : Vq (B.L ++ O) d ds) (m : MOk K B O H) (r : Rp K (vis B.F O H) v d) : ∃ a vs, v = .ref a ∧ (SqL K H a vs ∨ SqT K H a vs) ∧ RpL K (vis B.F O H) vs ds := by
  rcases w with w | rfl
  · obtain ⟨a, vs, e, q, rl⟩ := w.sql m r
    exact ⟨a, vs, e, .inl q, rl⟩
  · cases r with
    | tup h r => exact ⟨_, _, rfl, .inr (same_t vis_le h), r⟩
theorem vq_rp {K : PySem.W.Frag} {H : Hp} {xs : List V} (w : Vq (B.L ++ O) d ds) (m : MOk K B O H) (r : RpL K (vis B.F O H) xs [d]) : ∃ a vs, xs = [.ref a] ∧ (SqL K H a vs ∨ SqT K H a vs) ∧ RpL K (vis B.F O H) vs ds := by
  cases r with
  | cons h r =>
    cases r
    obtain ⟨a, vs, e, q, rl⟩ := w.sq m h
    exact ⟨a, vs, by rw [e], q, rl⟩
theorem rc_len {K : PySem.W.Frag} (w : Vq (B.L ++ O) d ds) : RC K B O (fun xs H Q => ∃ p ys, xs = [.ref p] ∧ (SqL K H p ys ∨ SqT K H p ys) ∧ Q (.int ys.length) H) [d] (.int ds.length) := fun xs H Q m r k => by
  obtain ⟨a, vs, e, q, rl⟩ := vq_rp w m r
  exact ⟨a, vs, e, q, by rw [rl.length]; exact k _ H (Same.refl H) (.int _)⟩
theorem rc_lenS {z : Str} {K : PySem.W.Frag} (hz : z.length ≤ sizeLine) : RC K B O (fun xs H Q => ∃ z, xs = [.str z] ∧ z.length ≤ sizeLine ∧ Q (.int z.length) H) [.str z] (.int z.length) := fun xs H Q m r k => by
  cases r with
  | cons h r => cases r; cases h; exact ⟨z, rfl, hz, k _ H (Same.refl H) (.int _)⟩
theorem rc_int {i : Int} {K : PySem.W.Frag} : RC K B O (fun xs H Q => (∃ i, xs = [.int i] ∧ Q (.int i) H) ∨ ∃ k, xs = [.bl k] ∧ Q (.int (if k then 1 else 0)) H) [.int i] (.int i) := fun xs H Q m r k => by
  cases r with
  | cons h r => cases r; cases h; exact .inl ⟨i, rfl, k _ H (Same.refl H) (.int _)⟩
theorem rc_intS {z : Str} {n : Int} {K : PySem.W.Frag} (h1 : PySem.intText? z = some n) (h2 : z.length ≤ 640) : RC K B O (fun xs H Q => ∃ a n, xs = [.str a] ∧ PySem.intText? a = some n ∧ a.length ≤ 640 ∧ Q (.int n) H) [.str z] (.int n) := fun xs H Q m r k => by
  cases r with
  | cons h r => cases r; cases h; exact ⟨z, n, rfl, h1, h2, k _ H (Same.refl H) (.int _)⟩
theorem rc_strI {i : Int} {K : PySem.W.Frag} (hz : i.natAbs.log2 < 1920) : RC K B O (fun xs H Q => ∃ i, xs = [.int i] ∧ i.natAbs.log2 < 1920 ∧ Q (.str (toString i)) H) [.int i] (.str (toString i)) := fun xs H Q m r k => by
  cases r with
  | cons h r => cases r; cases h; exact ⟨i, rfl, hz, k _ H (Same.refl H) (.str _)⟩
theorem rcn_list {K : PySem.W.Frag} (w : Vq (B.L ++ O) d ds) : RCN K B O (fun xs H Q => ∃ p ys, xs = [.ref p] ∧ (SqL K H p ys ∨ SqT K H p ys) ∧ ∀ l, H l = none → Q (.ref l) (upd H l (.lst ys))) [d] ds := fun xs H Q m r k => by
  obtain ⟨a, vs, e, q, rl⟩ := vq_rp w m r
  exact ⟨a, vs, e, q, new_same m rl k⟩
theorem rc_tuple {K : PySem.W.Frag} (w : Vq (B.L ++ O) d ds) : RC K B O (fun xs H Q => ∃ p ys, xs = [.ref p] ∧ ((SqL K H p ys ∧ ∀ l, H l = none → Q (.ref l) (upd H l (.tup ys))) ∨ (SqT K H p ys ∧ Q (.ref p) H))) [d] (.tup ds) := fun xs H Q m r k => by
  rcases w with w | rfl
  · obtain ⟨a, vs, e, q, rl⟩ := vw_rp w m r
    exact ⟨a, vs, e, .inl ⟨q, fun l hl => k _ _ (same_new hl) (.tup (.inl (.inl (m.visNew hl))) (rl.mono (vis_same (same_new hl))))⟩⟩
  · cases r with
    | cons h r =>
      cases r
      cases h with
      | tup hq r => exact ⟨_, _, rfl, .inr ⟨same_t vis_le hq, k _ H (Same.refl H) (.tup hq r)⟩⟩
theorem rc_any {bs : List Bool} {K : PySem.W.Frag} (w : Vw (B.L ++ O) d (bs.map fun x => D.bl x)) : RC K B O (rAny K) [d] (.bl (bs.any id)) := fun xs H Q m r k => by
  obtain ⟨a, vs, e, q, rl⟩ := vw_rp w m r
  have ev := rl.bls
  subst ev
  exact ⟨a, bs, e, q, k _ H (Same.refl H) (.bl _)⟩
theorem rc_all {bs : List Bool} {K : PySem.W.Frag} (w : Vw (B.L ++ O) d (bs.map fun x => D.bl x)) : RC K B O (rAll K) [d] (.bl (bs.all id)) := fun xs H Q m r k => by
  obtain ⟨a, vs, e, q, rl⟩ := vw_rp w m r
  have ev := rl.bls
  subst ev
  exact ⟨a, bs, e, q, k _ H (Same.refl H) (.bl _)⟩

/-! ### isinstance -/
/-- a datum's built-in type -/
inductive DT (O : Om) : D → String → Prop where
  | non : DT O .non "NoneType"
  | bl {b : Bool} : DT O (.bl b) "bool"
  | int {i : Int} : DT O (.int i) "int"
  | str {s : Str} : DT O (.str s) "str"
  | lst {ds : List D} : DT O (.lst ds) "list"
  | tup {ds : List D} : DT O (.tup ds) "tuple"
  | mlst {a : Addr} {ds : List D} : (a, M.lst ds) ∈ O → DT O (.rf a) "list"
  | mdk {a : Addr} {kvs : List (Key × D)} : (a, M.dk kvs) ∈ O → DT O (.rf a) "dict"
theorem dt_ty {K : PySem.W.Frag} {H : Hp} {v : V} {t : String} (h : DT (B.L ++ O) d t) (m : MOk K B O H) (r : Rp K (vis B.F O H) v d) : TyX K H v (.type t) := by
  cases h with
  | non => cases r; exact .base .non
  | bl => cases r; exact .base (.bl _)
  | int => cases r; exact .base (.int _)
  | str => cases r; exact .base (.str _)
  | lst =>
    cases r with
    | lst hq r => exact .base (.lst (vis_le _ _ hq))
  | tup =>
    cases r with
    | tup hq r =>
      rcases same_t vis_le hq with (h | ⟨o, h⟩) | ⟨o, its, n, h, hc, _⟩
      · exact .base (.tup h)
      · exact .fTuple h
      · exact .kTuple h hc
  | mlst hm =>
    cases r
    obtain ⟨vs, h, _⟩ := (List.mem_append.mp hm).elim (m.lent _ _) (m.mem _ _)
    exact .base (.lst h)
  | mdk hm =>
    cases r
    obtain ⟨vs, h, _⟩ := (List.mem_append.mp hm).elim (m.lent _ _) (m.mem _ _)
    exact .base (.dK h)
theorem rc_isi {t c : String} {K : PySem.W.Frag} (h : DT (B.L ++ O) d t) (hk : kitB t c = some b1) : RC K B O (rIsi K) [d, .ty c] (.bl b1) := fun xs H Q m r k => by
  cases r with
  | cons h1 r =>
    cases r with
    | cons h2 r =>
      cases r
      cases h2
      exact ⟨_, _, _, _, b1, rfl, .ty c, dt_ty h m h1, kit_ty hk, k _ H (Same.refl H) (.bl _)⟩

/-! ### items -/
theorem ix_imp {r : R2} (hr : IxR X r) (hrd : RD X.K B O r d1 d2 d) (ha : EV X B ρ O a d1) (hb : EV X B ρ O b d2) (hs : PlainIx b := by intro _ _; rfl) : EV X B ρ O (.Subscript a b pos) d := pe_imp (pe_ix hr ha hb hs) (two hrd)
theorem rd_ixL {i : Int} {K : PySem.W.Frag} (w : Vw (B.L ++ O) d1 ds) (h : atI ds i = some d) : RD K B O (rIxL K) d1 (.int i) d := fun x y H Q m r1 r2 k => by
  cases r2
  obtain ⟨a, vs, e, q, rl⟩ := w.sql m r1
  obtain ⟨j, h1, h2, h3, h4, h5⟩ := atI_get h
  obtain ⟨v, hv, rv⟩ := rl.get h2
  refine ⟨a, vs, i, v, e, rfl, q, ?_, k v H (Same.refl H) rv⟩
  unfold atI at h ⊢
  rw [rl.length]
  cases hi : ixN ds.length i with
  | none => rw [hi] at h; cases h
  | some j' =>
    rw [hi] at h
    have e' := (ixN_seq hi).1
    rw [h1] at e'
    cases e'
    exact hv
theorem rd_ixT {i : Int} {K : PySem.W.Frag} (h : atI ds i = some d) : RD K B O (rIxT K) (.tup ds) (.int i) d := fun x y H Q m r1 r2 k => by
  cases r2
  cases r1 with
  | tup hq rl =>
    obtain ⟨j, h1, h2, h3, h4, h5⟩ := atI_get h
    obtain ⟨v, hv, rv⟩ := rl.get h2
    refine ⟨_, _, i, v, rfl, rfl, same_t vis_le hq, ?_, k v H (Same.refl H) rv⟩
    unfold atI at h ⊢
    rw [rl.length]
    cases hi : ixN ds.length i with
    | none => rw [hi] at h; cases h
    | some j' =>
      rw [hi] at h
      have e' := (ixN_seq hi).1
      rw [h1] at e'
      cases e'
      exact hv
theorem rd_ixS {z : Str} {i : Int} {c : Nat} {K : PySem.W.Frag} (hz : z.length ≤ sizeLine) (h : atI z.cps.toList i = some c) : RD K B O rIxS (.str z) (.int i) (.str ⟨#[c]⟩) := fun x y H Q m r1 r2 k => by
  cases r1; cases r2
  exact ⟨z, i, c, rfl, rfl, hz, h, k _ H (Same.refl H) (.str _)⟩
theorem ev_ixL {i : Int} (ha : EV X B ρ O a d1) (hb : EV X B ρ O b (.int i)) (w : Vw (B.L ++ O) d1 ds) (h : atI ds i = some d) (hs : PlainIx b := by intro _ _; rfl) : EV X B ρ O (.Subscript a b pos) d := ix_imp ix_list (rd_ixL w h) ha hb hs
theorem ev_ixT {i : Int} (ha : EV X B ρ O a (.tup ds)) (hb : EV X B ρ O b (.int i)) (h : atI ds i = some d) (hs : PlainIx b := by intro _ _; rfl) : EV X B ρ O (.Subscript a b pos) d := ix_imp ix_tup (rd_ixT h) ha hb hs
theorem ev_ixS {z : Str} {i : Int} {c : Nat} (ha : EV X B ρ O a (.str z)) (hb : EV X B ρ O b (.int i)) (hz : z.length ≤ sizeLine) (h : atI z.cps.toList i = some c) (hs : PlainIx b := by intro _ _; rfl) : EV X B ρ O (.Subscript a b pos) (.str ⟨#[c]⟩) := ix_imp ix_str (rd_ixS hz h) ha hb hs

/-! ### slices -/
def tOo (K : PySem.W.Frag) (B : Gd) (ρ : List (Option D)) (O : Om) (i : Option Int) : TO := fun σ H Q => StOk K B ρ O σ H ∧ ∀ H', Same H H' → Q i H'
abbrev EO (X : Cx) (B : Gd) (ρ : List (Option D)) (O : Om) (e : Option Expr) (i : Option Int) : Prop := PO X e (tOo X.K B ρ O i)
theorem po_imp {e : Option Expr} {t t' : TO} (h : PO X e t) (w : ∀ σ H Q, t' σ H Q → t σ H Q) : PO X e t' := ⟨fun pins s σ H Q I q => h.run pins s σ H Q I (w σ H Q q)⟩
theorem eo_none : EO X B ρ O none none := po_imp po_none fun σ H Q ⟨st, k⟩ => k H (Same.refl H)
theorem eo_some {i : Int} (h : EV X B ρ O e (.int i)) : EO X B ρ O (some e) (some i) := po_imp (po_some h) fun σ H Q ⟨st, k⟩ => ⟨st, fun v H1 e1 r1 => by cases r1; exact ⟨i, rfl, k H1 e1⟩⟩
def cutD (xs : List D) (lo hi : Option Int) : List D := (xs.drop (HT.sIx xs.length 0 lo)).take (HT.sIx xs.length xs.length hi - HT.sIx xs.length 0 lo)
theorem RpL.cut {K : PySem.W.Frag} {H : Hp} {vs : List V} {ds : List D} (r : RpL K H vs ds) (lo hi : Option Int) : RpL K H (cutV vs lo hi) (cutD ds lo hi) := by
  unfold cutV cutD
  rw [r.length]
  exact (r.drop _).take _
theorem en_slice {lo hi : Option Expr} {l h : Option Int} {p2 : Pos} (ha : EV X B ρ O e d) (w : Vw (B.L ++ O) d ds) (hl : EO X B ρ O lo l) (hh : EO X B ρ O hi h) : EN X B ρ O (.Subscript e (.Slice lo hi none p2) pos) (cutD ds l h) :=
  pe_imp (pe_slice sl_list ha hl hh) fun σ H Q ⟨st, k⟩ => ⟨st, fun v H1 e1 r1 => ⟨st.same e1, fun H2 e2 => ⟨(st.same e1).same e2, fun H3 e3 => by
    have s3 := ((st.same e1).same e2).same e3
    have e13 := e2.trans e3
    obtain ⟨a, vs, ea, q, rl⟩ := w.sql s3.m (r1.mono (vis_same e13))
    exact ⟨a, vs, ea, q, new_same s3.m (rl.cut l h) fun q H' ws hq e' hv r => k q H' ws (e1.free (e13.free hq)) ((e1.trans e13).trans e') hv r⟩⟩⟩⟩
theorem ev_sliceS {lo hi : Option Expr} {l h : Option Int} {p2 : Pos} {z : Str} (ha : EV X B ρ O e (.str z)) (hl : EO X B ρ O lo l) (hh : EO X B ρ O hi h) (hz : z.length ≤ sizeLine) : EV X B ρ O (.Subscript e (.Slice lo hi none p2) pos) (.str (cutS z l h)) :=
  pe_imp (pe_slice sl_str ha hl hh) fun σ H Q ⟨st, k⟩ => ⟨st, fun v H1 e1 r1 => ⟨st.same e1, fun H2 e2 => ⟨(st.same e1).same e2, fun H3 e3 => by
    cases r1
    exact ⟨z, rfl, hz, k _ H3 ((e1.trans e2).trans e3) (.str _)⟩⟩⟩⟩

/-! ### in -/
theorem RpL.scals {K : PySem.W.Frag} {H : Hp} : ∀ {vs : List V} {ds : List D}, RpL K H vs ds → ds.all isScal = true → vs = ds.map scalD
  | _, _, .nil, _ => rfl
  | _, _, .cons h r, e => by
    simp only [List.all_cons, Bool.and_eq_true] at e
    rw [List.map_cons, rp_scal h e.1, r.scals e.2]
theorem rd_in {K : PySem.W.Frag} (w : Vq (B.L ++ O) d2 ds) (h1 : isScal d1 = true) (h2 : ds.all isScal = true) (h3 : flatV (scalD d1) = true) (h4 : (ds.map scalD).all flatV = true) : RD K B O (rIn K false) d1 d2 (.bl (inV (scalD d1) (ds.map scalD))) := fun x y H Q m r1 r2 k => by
  obtain ⟨a, vs, e, q, rl⟩ := w.sq m r2
  rw [rp_scal r1 h1, e]
  have ev := rl.scals h2
  subst ev
  exact ⟨a, _, rfl, q, h3, h4, k _ H (Same.refl H) (.bl _)⟩
theorem rd_notin {K : PySem.W.Frag} (w : Vq (B.L ++ O) d2 ds) (h1 : isScal d1 = true) (h2 : ds.all isScal = true) (h3 : flatV (scalD d1) = true) (h4 : (ds.map scalD).all flatV = true) : RD K B O (rIn K true) d1 d2 (.bl (!inV (scalD d1) (ds.map scalD))) := fun x y H Q m r1 r2 k => by
  obtain ⟨a, vs, e, q, rl⟩ := w.sq m r2
  rw [rp_scal r1 h1, e]
  have ev := rl.scals h2
  subst ev
  exact ⟨a, _, rfl, q, h3, h4, k _ H (Same.refl H) (.bl _)⟩
theorem inV_strs (x : Str) (ys : List Str) : inV (.str x) (ys.map V.str) = decide (x ∈ ys) := by
  unfold inV
  induction ys with
  | nil => simp
  | cons y ys ih =>
    rw [List.map_cons, List.any_cons, ih]
    have : eqV (.str y) (.str x) = decide (y = x) := by
      rw [Bool.eq_iff_iff]; simp [eqV]
    rw [this]
    by_cases h : y = x
    · subst h; simp
    · have h' : ¬ x = y := fun q => h q.symm
      simp [h, h']
theorem inV_ints (x : Int) (ys : List Int) : inV (.int x) (ys.map V.int) = decide (x ∈ ys) := by
  unfold inV
  induction ys with
  | nil => simp
  | cons y ys ih =>
    rw [List.map_cons, List.any_cons, ih]
    have : eqV (.int y) (.int x) = decide (y = x) := by
      rw [Bool.eq_iff_iff]; simp [eqV]
    rw [this]
    by_cases h : y = x
    · subst h; simp
    · have h' : ¬ x = y := fun q => h q.symm
      simp [h, h']
theorem rd_inS {K : PySem.W.Frag} {x : Str} {ys : List Str} (w : Vq (B.L ++ O) d2 (ys.map fun y => D.str y)) : RD K B O (rIn K false) (.str x) d2 (.bl (decide (x ∈ ys))) :=
  rd_imp (rd_in w rfl (by simp [isScal]) rfl (by simp [flatV, scalD])) (by rw [List.map_map]; exact congrArg D.bl (inV_strs x ys))
theorem rd_notinS {K : PySem.W.Frag} {x : Str} {ys : List Str} (w : Vq (B.L ++ O) d2 (ys.map fun y => D.str y)) : RD K B O (rIn K true) (.str x) d2 (.bl (!decide (x ∈ ys))) :=
  rd_imp (rd_notin w rfl (by simp [isScal]) rfl (by simp [flatV, scalD])) (by rw [List.map_map]; exact congrArg (fun b => D.bl (!b)) (inV_strs x ys))
theorem rd_inI {K : PySem.W.Frag} {x : Int} {ys : List Int} (w : Vq (B.L ++ O) d2 (ys.map fun y => D.int y)) : RD K B O (rIn K false) (.int x) d2 (.bl (decide (x ∈ ys))) :=
  rd_imp (rd_in w rfl (by simp [isScal]) rfl (by simp [flatV, scalD])) (by rw [List.map_map]; exact congrArg D.bl (inV_ints x ys))
theorem rd_notinI {K : PySem.W.Frag} {x : Int} {ys : List Int} (w : Vq (B.L ++ O) d2 (ys.map fun y => D.int y)) : RD K B O (rIn K true) (.int x) d2 (.bl (!decide (x ∈ ys))) :=
  rd_imp (rd_notin w rfl (by simp [isScal]) rfl (by simp [flatV, scalD])) (by rw [List.map_map]; exact congrArg (fun b => D.bl (!b)) (inV_ints x ys))
/-- one sign in a text -/
theorem rd_inC {K : PySem.W.Frag} {c : Nat} {z : Str} : RD K B O (fun x y H Q => ∃ (c : Nat) (z : Str), x = .str ⟨#[c]⟩ ∧ y = .str z ∧ Q (.bl (decide (c ∈ z.cps.toList))) H) (.str ⟨#[c]⟩) (.str z) (.bl (decide (c ∈ z.cps.toList))) := fun x y H Q m r1 r2 k => by
  cases r1; cases r2
  exact ⟨c, z, rfl, rfl, k _ H (Same.refl H) (.bl _)⟩

/-! ### methods of texts -/
theorem ev_m1 {id : String} {name : Str} {r : V → List V → Hp → VK → Prop} {z : Str} (slot : Slot "str" name id) (ty : typeOf (.builtin id) = pure (.type "method_descriptor")) (rule : MtR X id r) (ho : EV X B ρ O o (.str z)) (he : EV X B ρ O e d1)
    (hr : RC X.K B O (fun xs H Q => r (.str z) xs H Q) [d1] d)
    (hs : starEach [e] X.env = [(false, eval e X.env)] := by rfl) (hbase : attributeBase o name X.env (eval o X.env) = eval o X.env := by rfl) (hline : (apos.endLine == pos.line) = true := by rfl) : EV X B ρ O (.Call (.Attribute o name apos) [e] [] pos) d :=
  pe_imp (pe_m1 slot ty rule ho he hs hbase hline) fun σ H Q ⟨st, k⟩ => ⟨st, fun v H1 e1 r1 => by
    cases r1
    exact ⟨⟨z, rfl⟩, st.same e1, fun y H2 e2 r2 => hr [y] H2 Q ((st.same e1).same e2).m (.cons r2 .nil) fun v H3 e3 r3 => k v H3 ((e1.trans e2).trans e3) r3⟩⟩
theorem en_m1 {id : String} {name : Str} {r : V → List V → Hp → VK → Prop} {z : Str} (slot : Slot "str" name id) (ty : typeOf (.builtin id) = pure (.type "method_descriptor")) (rule : MtR X id r) (ho : EV X B ρ O o (.str z)) (he : EV X B ρ O e d1)
    (hr : RCN X.K B O (fun xs H Q => r (.str z) xs H Q) [d1] ds)
    (hs : starEach [e] X.env = [(false, eval e X.env)] := by rfl) (hbase : attributeBase o name X.env (eval o X.env) = eval o X.env := by rfl) (hline : (apos.endLine == pos.line) = true := by rfl) : EN X B ρ O (.Call (.Attribute o name apos) [e] [] pos) ds :=
  pe_imp (pe_m1 slot ty rule ho he hs hbase hline) fun σ H Q ⟨st, k⟩ => ⟨st, fun v H1 e1 r1 => by
    cases r1
    exact ⟨⟨z, rfl⟩, st.same e1, fun y H2 e2 r2 => hr [y] H2 Q ((st.same e1).same e2).m (.cons r2 .nil) fun p H3 ws hp e3 hv r3 => k p H3 ws (e1.free (e2.free hp)) ((e1.trans e2).trans e3) hv r3⟩⟩
theorem ev_find {z y : Str} (ho : EV X B ρ O o (.str z)) (he : EV X B ρ O e (.str y)) (hs : starEach [e] X.env = [(false, eval e X.env)] := by rfl) (hbase : attributeBase o "find" X.env (eval o X.env) = eval o X.env := by rfl) (hline : (apos.endLine == pos.line) = true := by rfl) :
    EV X B ρ O (.Call (.Attribute o "find" apos) [e] [] pos) (.int (Txt.find z y)) :=
  ev_m1 F.slot_str_find F.type_str_find mt_find ho he (fun xs H Q m r k => by
    cases r with
    | cons h r => cases r; cases h; exact ⟨z, y, rfl, rfl, k _ H (Same.refl H) (.int _)⟩) hs hbase hline
theorem en_split {z y : Str} (ho : EV X B ρ O o (.str z)) (he : EV X B ρ O e (.str y)) (hy : (y.length == 0) = false) (hz : z.length + 2 ≤ sizeLine) (hs : starEach [e] X.env = [(false, eval e X.env)] := by rfl) (hbase : attributeBase o "split" X.env (eval o X.env) = eval o X.env := by rfl) (hline : (apos.endLine == pos.line) = true := by rfl) :
    EN X B ρ O (.Call (.Attribute o "split" apos) [e] [] pos) ((Txt.split z y).map fun s => D.str s) :=
  en_m1 F.slot_str_split F.type_str_split mt_split ho he (fun xs H Q m r k => by
    cases r with
    | cons h r => cases r; cases h; exact ⟨z, y, rfl, rfl, hy, hz, new_same m (.ofStrs _) k⟩) hs hbase hline
theorem ev_join {z : Str} {ys : List Str} (ho : EV X B ρ O o (.str z)) (he : EV X B ρ O e d1) (w : Vq (B.L ++ O) d1 (ys.map fun s => D.str s)) (hz : (ys.map (·.length)).sum + ys.length * z.length ≤ 16777216)
    (hs : starEach [e] X.env = [(false, eval e X.env)] := by rfl) (hbase : attributeBase o "join" X.env (eval o X.env) = eval o X.env := by rfl) (hline : (apos.endLine == pos.line) = true := by rfl) :
    EV X B ρ O (.Call (.Attribute o "join" apos) [e] [] pos) (.str (Txt.join z ys)) :=
  ev_m1 F.slot_str_join F.type_str_join mt_join ho he (fun xs H Q m r k => by
    obtain ⟨a, vs, e, q, rl⟩ := vq_rp w m r
    have ev := rl.strs
    subst ev
    exact ⟨z, a, ys, rfl, e, q, hz, k _ H (Same.refl H) (.str _)⟩) hs hbase hline

/-! ### lists that change -/
def putO (O : Om) (p : Addr) (m : M) : Om := O.map fun q => if q.1 = p then (p, m) else q
theorem putO_keys {p : Addr} {m : M} : (putO O p m).map (·.1) = O.map (·.1) := by
  unfold putO
  rw [List.map_map]
  refine List.map_congr_left fun q _ => ?_
  show (if q.1 = p then (p, m) else q).1 = q.1
  split
  · rename_i h; exact h.symm
  · rfl
theorem vis_put {F : Addr → Bool} {H : Hp} {p : Addr} {o : HO} (h : has O p = true) : vis F O (upd H p o) = vis F O H := by
  funext a
  unfold vis
  by_cases e : a = p
  · subst e
    rw [h, Bool.or_true, if_pos rfl, if_pos rfl]
  · rw [upd_ne e]
/-- a mutable object gets another content -/
theorem StOk.put {K : PySem.W.Frag} {σ : L2.St} {H : Hp} {p : Addr} {m m' : M} {o : HO} (st : StOk K B ρ O σ H) (hm : (p, m) ∈ O) (r : MRp K (vis B.F O H) (upd H p o) p m') : StOk K B ρ (putO O p m') σ (upd H p o) ∧ vis B.F (putO O p m') (upd H p o) = vis B.F O H := by
  have hp : has O p = true := has_mem.mpr ⟨m, hm⟩
  have ev : vis B.F (putO O p m') (upd H p o) = vis B.F O H := by rw [vis_keys (O' := O) putO_keys, vis_put hp]
  refine ⟨⟨⟨fun a u hb => ?_, fun a u ha => ?_, by rw [putO_keys]; exact st.m.nd, fun a u ha => ?_⟩, by rw [ev]; exact st.env⟩, ev⟩
  · obtain ⟨h1, h2⟩ := st.m.base a u hb
    have ne : a ≠ p := fun z => by rw [z, hp] at h2; cases h2
    exact ⟨by rw [upd_ne ne]; exact h1, by rw [has_keys putO_keys]; exact h2⟩
  · rw [ev]
    unfold putO at ha
    obtain ⟨⟨b, n⟩, hb, e⟩ := List.mem_map.mp ha
    by_cases q : b = p
    · have e' : (if b = p then (p, m') else (b, n)) = (a, u) := e
      rw [if_pos q] at e'
      cases e'
      exact r
    · have e' : (if b = p then (p, m') else (b, n)) = (a, u) := e
      rw [if_neg q] at e'
      cases e'
      exact (st.m.mem _ _ hb).mono (Same.refl _) fun o h => by rw [upd_ne q]; exact h
  · rw [ev]
    have ne : a ≠ p := fun z => by
      obtain ⟨u', hu⟩ := B.ok a (B.lF a u ha)
      have := (st.m.base a u' hu).2
      rw [z, hp] at this; cases this
    exact (st.m.lent a u ha).mono (Same.refl _) fun o h => by rw [upd_ne ne]; exact h
/-- one entry's content changed -/
inductive Put : Om → Addr → M → M → Om → Prop where
  | head {O : Om} {p : Addr} {m m' : M} : Put ((p, m) :: O) p m m' ((p, m') :: O)
  | tail {O O' : Om} {q : Addr × M} {p : Addr} {m m' : M} : Put O p m m' O' → Put (q :: O) p m m' (q :: O')
theorem Put.mem {p : Addr} {m m' : M} : ∀ {O O' : Om}, Put O p m m' O' → (p, m) ∈ O
  | _, _, .head => List.mem_cons_self
  | _, _, .tail h => List.mem_cons_of_mem _ h.mem
theorem Put.eq {p : Addr} {m m' : M} : ∀ {O O' : Om}, Put O p m m' O' → (O.map (·.1)).Nodup → putO O p m' = O'
  | _, _, .head (O := O), nd => by
    rw [List.map_cons, List.nodup_cons] at nd
    show (if p = p then (p, m') else (p, m)) :: putO O p m' = _
    rw [if_pos rfl]
    congr 1
    unfold putO
    refine (List.map_congr_left fun q hq => ?_).trans (List.map_id _)
    have : q.1 ≠ p := fun z => nd.1 (z ▸ List.mem_map_of_mem (f := (·.1)) hq)
    show (if q.1 = p then (p, m') else q) = q
    rw [if_neg this]
  | _, _, .tail (q := q) (O := O) h, nd => by
    rw [List.map_cons, List.nodup_cons] at nd
    have : q.1 ≠ p := fun z => nd.1 (z ▸ List.mem_map_of_mem (f := (·.1)) h.mem)
    show (if q.1 = p then (p, m') else q) :: putO O p m' = _
    rw [if_neg this, h.eq nd.2]
theorem StOk.putP {K : PySem.W.Frag} {σ : L2.St} {H : Hp} {p : Addr} {m m' : M} {o : HO} (st : StOk K B ρ O σ H) (hm : Put O p m m' O') (r : MRp K (vis B.F O H) (upd H p o) p m') : StOk K B ρ O' σ (upd H p o) ∧ vis B.F O' (upd H p o) = vis B.F O H := by
  have h := st.put hm.mem r
  rw [hm.eq st.m.nd] at h
  exact h
theorem eg_append {p : Addr} {ds0 : List D} (ho : EV X B ρ O o (.rf p)) (hm : (p, M.lst ds0) ∈ O) (he : EG X B ρ O e d O1) (hm1 : Put O1 p (.lst ds) (.lst (ds ++ [d])) O2) (hz : ds.length < sizeLine)
    (hbase : attributeBase o "append" X.env (eval o X.env) = eval o X.env := by rfl)
    (hfew : ((backTo pos (starEach [e] X.env)).all (fun x => !x.1) && (backToKw pos (keywordEach [] X.env)).all (fun x => x.1.isSome)
      && decide ([e].length + ([] : List Keyword).length + (if ([] : List Keyword).isEmpty then 0 else 1) < 30)) = true := by rfl)
    (hline : (apos.endLine == pos.line) = true := by rfl) (hs : starEach [e] X.env = (false, eval e X.env) :: starEach [] X.env := by rfl) (hplain : (backTo pos (starEach [] X.env)).any (·.1) = false := by rfl) :
    EG X B ρ O (.Call (.Attribute o "append" apos) [e] [] pos) .non O2 :=
  pe_imp (pe_bm PySem.F.plainAttrs_list PySem.F.slot_list_append PySem.F.type_list_append mt_append ho (pa_cons he pa_nil hs) hbase hfew hline hs hplain) fun σ H Q ⟨st, k⟩ => ⟨st, fun v H1 e1 r1 => by
    cases r1
    have s1 := st.same e1
    obtain ⟨vs, h1, h2⟩ := s1.m.mem _ _ hm
    refine ⟨.inl ⟨rfl, vs, .inl (.inl h1)⟩, s1, fun w H2 s2 e2 r2 => ?_⟩
    obtain ⟨ws, h3, h4⟩ := s2.m.mem _ _ hm1.mem
    obtain ⟨s3, ev⟩ := s2.putP (o := .lst (ws ++ [w])) hm1 ⟨_, upd_same, h4.append (.cons r2 .nil)⟩
    refine ⟨p, ws, w, rfl, rfl, h3, by rw [h4.length]; exact hz, k .non _ s3 ?_ .non⟩
    rw [ev]
    exact (vis_same e1).trans e2⟩
theorem eg_pop {p : Addr} (ho : EV X B ρ O o (.rf p)) (hd : ds[ds.length - 1]? = some d) (hm : Put O p (.lst ds) (.lst ds.dropLast) O')
    (hbase : attributeBase o "pop" X.env (eval o X.env) = eval o X.env := by rfl) (hline : (apos.endLine == pos.line) = true := by rfl) :
    EG X B ρ O (.Call (.Attribute o "pop" apos) [] [] pos) d O' :=
  pe_imp (pe_bm0 PySem.F.plainAttrs_list PySem.F.slot_list_pop PySem.F.type_list_pop mt_pop ho hbase hline) fun σ H Q ⟨st, k⟩ => ⟨st, fun v H1 e1 r1 => by
    cases r1
    have s1 := st.same e1
    obtain ⟨vs, h1, h2⟩ := s1.m.mem _ _ hm.mem
    obtain ⟨w, hw, rw'⟩ := h2.get hd
    obtain ⟨s3, ev⟩ := s1.putP (o := .lst vs.dropLast) hm ⟨_, upd_same, h2.dropLast⟩
    refine ⟨.inl ⟨rfl, vs, .inl (.inl h1)⟩, p, vs, w, rfl, rfl, h1, by rw [h2.length]; exact hw, k w _ s3 ?_ ?_⟩
    · rw [ev]; exact vis_same e1
    · rw [ev]; exact rw'⟩
/-- xs[i] = e -/
theorem j_setIx {p : Addr} {i : Int} {j : Nat} (ho : EV X B ρ O o (.rf p)) (hi : EV X B ρ O c (.int i)) (he : EV X B ρ O e d) (hm : Put O p (.lst ds) (.lst (ds.set j d)) O') (hj : ixN ds.length i = some j) (h : A.nx ρ O')
    (ha : ∀ v, assign (.Subscript o c pos') X.env v = (do
      let ov ← holding [v] (eval o X.env)
      let iv ← holding [v, ov] (eval c X.env)
      standAt pos'
      holding [v, ov, iv] (setItem ov iv v)
      release [v, ov, iv] []) := by intro _; rfl)
    (hs : swapsWithSole [.Subscript o c pos'] e pos.line X.env = pure false := by rfl) (hw : swappedStores [.Subscript o c pos'] e X.env = pure none := by rfl)
    (h1 : (assignEach [.Subscript o c pos'] X.env).map (·.2) = [assign (.Subscript o c pos') X.env] := by rfl) : J1 X B (.Assign [.Subscript o c pos'] e pos) ρ O A :=
  ps_imp (ps_asg he (pg_sub ho hi set_list ha) hs hw h1) fun Dn σ H ⟨st, pp⟩ => ⟨st, fun v H1 e1 r1 => ⟨st.same e1, fun u H2 e2 r2 => ⟨(st.same e1).same e2, fun w H3 e3 r3 => by
    cases r2
    cases r3
    have s3 := ((st.same e1).same e2).same e3
    obtain ⟨vs, h2, h4⟩ := s3.m.mem _ _ hm.mem
    obtain ⟨s4, ev⟩ := s3.putP (o := .lst (vs.set j v)) hm ⟨_, upd_same, h4.set (r1.mono (vis_same (e2.trans e3))) j⟩
    refine ⟨p, vs, i, j, rfl, rfl, h2, by rw [h4.length]; exact hj, pp.nx ρ _ σ _ h s4 ?_⟩
    rw [ev]
    exact vis_same ((e1.trans e2).trans e3)⟩⟩⟩
/-- xs + ys -/
theorem SqL.mutable {K : PySem.W.Frag} {H : Hp} {p : Addr} {xs : List V} (h : H p = some (.lst xs)) : SqL K H p xs := .inl (.inl h)
end
end DL

set_option Elab.async false
set_option linter.all false
set_option maxRecDepth 100000
set_option maxHeartbeats 2000000
namespace DL
open PySem PySem.Spec PyProof.Rows L2

/-! ### what is handed back: mutables become values -/
mutual
inductive Frz (O : Om) : D → D → Prop where
  | refl (d : D) : Frz O d d
  | mlst {p : Addr} {ds ds' : List D} : (p, M.lst ds) ∈ O → FrzL O ds ds' → Frz O (.rf p) (.lst ds')
  | mins {p C : Addr} {ns : List Str} {ds ds' : List D} : (p, M.ins C ns ds) ∈ O → FrzL O ds ds' → Frz O (.rf p) (.obj C ns ds')
  | tup {ds ds' : List D} : FrzL O ds ds' → Frz O (.tup ds) (.tup ds')
  | lst {ds ds' : List D} : FrzL O ds ds' → Frz O (.lst ds) (.lst ds')
inductive FrzL (O : Om) : List D → List D → Prop where
  | refl (ds : List D) : FrzL O ds ds
  | cons {d d' : D} {ds ds' : List D} : Frz O d d' → FrzL O ds ds' → FrzL O (d :: ds) (d' :: ds')
end
section
variable {K : PySem.W.Frag} {B : Gd} {O : Om} {H : Hp}
theorem vis_all : Same (vis B.F O H) (vis B.F [] H) := fun a o h => by
  obtain ⟨h1, h2, h3⟩ := vis_some.mp h
  exact vis_some.mpr ⟨h1, rfl, h3⟩
theorem MOk.visM (m : MOk K B O H) {p : Addr} {o : HO} (hp : has O p = true) (e : H p = some o) : vis B.F [] H p = some o := by
  refine vis_some.mpr ⟨?_, rfl, e⟩
  cases q : B.F p with
  | false => rfl
  | true =>
    obtain ⟨u, e'⟩ := B.ok p q
    have := (m.base p u e').2
    rw [hp] at this; cases this
mutual
theorem Rp.frz {Hv Hv' : Hp} (e : Same Hv Hv') (hm : ∀ p m, (p, m) ∈ O → MRp K Hv Hv' p m) : ∀ {v : V} {d d' : D}, Frz O d d' → Rp K Hv v d → Rp K Hv' v d'
  | _, _, _, .refl d, r => r.mono e
  | _, _, _, .mlst h f, r => by
    cases r
    obtain ⟨vs, h1, h2⟩ := hm _ _ h
    exact .lst h1 (RpL.frz e hm f h2)
  | _, _, _, .mins h f, r => by
    cases r
    obtain ⟨dx, fv, h1, h2, h3⟩ := hm _ _ h
    exact .obj h1 h2 (RpL.frz e hm f h3)
  | _, _, _, .tup f, r => by
    cases r with
    | tup hq r => exact .tup (same_t e hq) (RpL.frz e hm f r)
  | _, _, _, .lst f, r => by
    cases r with
    | lst hq r => exact .lst (e _ _ hq) (RpL.frz e hm f r)
theorem RpL.frz {Hv Hv' : Hp} (e : Same Hv Hv') (hm : ∀ p m, (p, m) ∈ O → MRp K Hv Hv' p m) : ∀ {vs : List V} {ds ds' : List D}, FrzL O ds ds' → RpL K Hv vs ds → RpL K Hv' vs ds'
  | _, _, _, .refl ds, r => r.mono e
  | _, _, _, .cons f g, r => by
    cases r with
    | cons h r => exact .cons (Rp.frz e hm f h) (RpL.frz e hm g r)
end
theorem MOk.frz (m : MOk K B O H) : ∀ p mm, (p, mm) ∈ O → MRp K (vis B.F O H) (vis B.F [] H) p mm := fun p mm h =>
  (m.mem p mm h).mono (Same.refl _) fun o q => m.visM (has_mem.mpr ⟨_, h⟩) q
end

/-! ### contracts -/
/-- what a callee finds: F hidden, the mutables L of the caller readable -/
structure Bor (K : PySem.W.Frag) (F : Addr → Bool) (L O : Om) (H : Hp) : Prop where
  ok : ∀ a, F a = true → ∃ o, H a = some o
  lF : ∀ a m, (a, m) ∈ L → F a = true
  lent : ∀ a m, (a, m) ∈ L → MRp K (vis F O H) H a m
/-- values in, a value out, nothing changed -/
def spP (K : PySem.W.Frag) (Ar : Om → List D → D → Prop) : Sp := fun vs H Q _ => ∃ (F : Addr → Bool) (L : Om) (ds : List D) (d : D), Bor K F L [] H ∧ RpL K (vis F [] H) vs ds ∧ Ar L ds d ∧
  ∀ v H', Same H H' → Rp K (vis F [] H') v d → Q v H'
/-- a new list out, that nobody else holds -/
def spN (K : PySem.W.Frag) (Ar : Om → List D → List D → Prop) : Sp := fun vs H Q _ => ∃ (F : Addr → Bool) (L : Om) (ds es : List D), Bor K F L [] H ∧ RpL K (vis F [] H) vs ds ∧ Ar L ds es ∧
  ∀ p H' ws, H p = none → Same H H' → H' p = some (.lst ws) → RpL K (vis F [(p, .lst es)] H') ws es → Q (.ref p) H'
/-- an __init__: the fields of the new instance -/
def spI (K : PySem.W.Frag) (C : Addr) (Ar : Om → List D → List Str → List D → Prop) : Sp := fun vs H Q _ => ∃ (F : Addr → Bool) (L : Om) (x dx : Addr) (us : List V) (ds : List D) (ns : List Str) (fs : List D), vs = .ref x :: us ∧ Bor K F L [(x, .ins C [] [])] H ∧ F x = false ∧
  H x = some (.ins C dx []) ∧ RpL K (vis F [(x, .ins C [] [])] H) us ds ∧ Ar L ds ns fs ∧
  ∀ H' dx' fv, (∀ a o, a ≠ x → H a = some o → H' a = some o) → H' x = some (.ins C dx' fv) → fv.map (·.1) = ns → RpL K (vis F [(x, .ins C [] [])] H') (fv.map (·.2)) fs → Q .non H'
/-- a def that keeps a promise, with what its call needs -/
structure Fok (P : Program) (w : World) (K : PySem.W.Frag) (mg : Str → Option Value) (base : Heap) (CX : CXT) (k : Nat) (f : Addr) (sp : Sp) : Prop where
  ex : ∃ fd ps, FnOk P w K mg base CX k f fd ps sp ∧ Binds K fd ps []
  kp : PySem.W.keepIn K (.ref f) = true
theorem Fok.raw {P : Program} {w : World} {K : PySem.W.Frag} {mg : Str → Option Value} {base : Heap} {CX : CXT} {k : Nat} {f : Addr} {sp : Sp} (F : Fok P w K mg base CX k f sp) : FnR P w K mg base CX k f sp := by
  obtain ⟨fd, ps, G, b⟩ := F.ex
  have h := G.raw b .nil
  exact h.imp fun vs H Q E q => by rw [List.append_nil]; exact q
/-- .. by its name -/
structure Cal (P : Program) (w : World) (K : PySem.W.Frag) (mg : Str → Option Value) (base : Heap) (CX : CXT) (k : Nat) (x : Str) (sp : Sp) : Prop where
  ex : ∃ f, Fok P w K mg base CX k f sp ∧ mg x = some (.ref f)
theorem pe_callR {X : Cx} {CX : CXT} {k : Nat} {f : Addr} {sp : Sp} {E : XK} {x : Str} {e : Expr} {es : List Expr} {t : TA} {p pos : Pos} (F : FnR X.prog X.w X.K X.mg X.base CX k f sp) (hr : Room k X.A) (hg : Gl X x) (hm : X.mg x = some (.ref f)) (hk : PySem.W.keepIn X.K (.ref f) = true) (hx : Passes CX X E)
    (ha : PA X (e :: es) t) (hdb : (x == ("__debug__" : Str)) = false := by decide) (he : starEach (e :: es) X.env = (false, eval e X.env) :: starEach es X.env := by rfl) (hpl : (backTo pos (starEach es X.env)).any (·.1) = false := by rfl) :
    PE X (.Call (.Name x p) (e :: es) [] pos) (fun σ H Q => t σ H fun vs H1 => sp vs H1 Q E) := by
  refine ⟨fun pins s σ H Q I h => ?_⟩
  refine wpAny_Call_Name_kw (ld_glob I hg hm ?_ hdb)
  refine PySem.W.callWith_K (h₀ := X.base) I.ok.mod.kin hk (thn (ha.run pos pins s σ H _ I h) fun us s1 ⟨vs, H1, I1, r, q⟩ => ⟨I1.kIn, ?_⟩) he hpl
  exact wpAny_call (run_fnR F hr hx I1 r q)

section
variable {X : Cx} {B : Gd} {ρ ρ' : List (Option D)} {O O' O1 O2 : Om} {A : AE} {a b c e o : Expr} {es : List Expr} {d d1 d2 d3 : D} {ds : List D} {pos pos' p apos : Pos} {b1 b2 : Bool} {st : Stmt} {ss rest : List Stmt} {x : Str} {k : Nat} {C : Addr}
/-- the caller's frame for a callee -/
def frF (B : Gd) (O : Om) : Addr → Bool := fun a => B.F a || has O a
theorem vis_fr {H : Hp} : vis (frF B O) [] H = vis B.F O H := by
  funext a
  unfold vis frF
  show (if (B.F a || has O a || false) = true then none else H a) = _
  rw [Bool.or_false]
theorem vis_fr1 {H : Hp} {q : Addr} {m : M} : vis (frF B O) [(q, m)] H = vis B.F ((q, m) :: O) H := by
  funext a
  unfold vis frF
  rw [has_cons, has_cons]
  show (if (B.F a || has O a || (q == a || false)) = true then none else H a) = _
  rw [Bool.or_false, Bool.or_assoc, Bool.or_comm (has O a)]
theorem fr_ok {K : PySem.W.Frag} {H : Hp} (m : MOk K B O H) : ∀ a, frF B O a = true → ∃ o, H a = some o := fun a h => by
  unfold frF at h
  rw [Bool.or_eq_true] at h
  rcases h with h | h
  · obtain ⟨o, e⟩ := B.ok a h
    exact ⟨o, (m.base a o e).1⟩
  · obtain ⟨mm, e⟩ := has_mem.mp h
    exact (m.mem a mm e).some
theorem bor_of {K : PySem.W.Frag} {H : Hp} (m : MOk K B O H) : Bor K (frF B O) (B.L ++ O) [] H :=
  ⟨fr_ok m, fun a mm h => by
    unfold frF
    rcases List.mem_append.mp h with h | h
    · rw [B.lF a mm h]; rfl
    · rw [has_mem.mpr ⟨mm, h⟩, Bool.or_true], fun a mm h => by
    rw [vis_fr]
    exact (List.mem_append.mp h).elim (m.lent a mm) (m.mem a mm)⟩
theorem spP_use {K : PySem.W.Frag} {Ar : Om → List D → D → Prop} {H : Hp} {Q : VK} {E : XK} {vs : List V} (m : MOk K B O H) (r : RpL K (vis B.F O H) vs ds) (h : Ar (B.L ++ O) ds d) (k : ∀ v H', Same H H' → Rp K (vis B.F O H') v d → Q v H') : spP K Ar vs H Q E :=
  ⟨frF B O, B.L ++ O, ds, d, bor_of m, by rw [vis_fr]; exact r, h, fun v H' e r' => k v H' e (by rw [vis_fr] at r'; exact r')⟩
theorem spN_use {K : PySem.W.Frag} {Ar : Om → List D → List D → Prop} {H : Hp} {Q : VK} {E : XK} {vs : List V} {fs : List D} (m : MOk K B O H) (r : RpL K (vis B.F O H) vs ds) (h : Ar (B.L ++ O) ds fs) (k : ∀ p H' ws, H p = none → Same H H' → H' p = some (.lst ws) → RpL K (vis B.F ((p, .lst fs) :: O) H') ws fs → Q (.ref p) H') : spN K Ar vs H Q E :=
  ⟨frF B O, B.L ++ O, ds, fs, bor_of m, by rw [vis_fr]; exact r, h, fun p H' ws hp e hv r' => k p H' ws hp e hv (by rw [vis_fr1] at r'; exact r')⟩
/-- f(..) -/
theorem ev_call {Ar : Om → List D → D → Prop} (c : Cal X.prog X.w X.K X.mg X.base CX0 k x (spP X.K Ar)) (hr : Room k X.A) (hg : Gl X x) (ha : EA X B ρ O (e :: es) ds) (h : Ar (B.L ++ O) ds d) (hdb : (x == ("__debug__" : Str)) = false := by decide)
    (he : starEach (e :: es) X.env = (false, eval e X.env) :: starEach es X.env := by rfl) (hpl : (backTo pos (starEach es X.env)).any (·.1) = false := by rfl) : EV X B ρ O (.Call (.Name x p) (e :: es) [] pos) d := by
  obtain ⟨f, F, hm⟩ := c.ex
  exact pe_imp (pe_callR (E := E0) F.raw hr hg hm F.kp pass0 ha hdb he hpl) fun σ H Q ⟨st, k⟩ => ⟨st, fun vs H1 e1 r1 => spP_use (st.same e1).m r1 h fun v H2 e2 r2 => k v H2 (e1.trans e2) r2⟩
theorem eg_call {Ar : Om → List D → D → Prop} (c : Cal X.prog X.w X.K X.mg X.base CX0 k x (spP X.K Ar)) (hr : Room k X.A) (hg : Gl X x) (ha : EGA X B ρ O (e :: es) ds O') (h : Ar (B.L ++ O') ds d) (hdb : (x == ("__debug__" : Str)) = false := by decide)
    (he : starEach (e :: es) X.env = (false, eval e X.env) :: starEach es X.env := by rfl) (hpl : (backTo pos (starEach es X.env)).any (·.1) = false := by rfl) : EG X B ρ O (.Call (.Name x p) (e :: es) [] pos) d O' := by
  obtain ⟨f, F, hm⟩ := c.ex
  exact pe_imp (pe_callR (E := E0) F.raw hr hg hm F.kp pass0 ha hdb he hpl) fun σ H Q ⟨st, k⟩ => ⟨st, fun vs H1 s1 e1 r1 => spP_use s1.m r1 h fun v H2 e2 r2 => k v H2 (s1.same e2) (e1.trans (vis_same e2)) r2⟩
theorem en_call {Ar : Om → List D → List D → Prop} {fs : List D} (c : Cal X.prog X.w X.K X.mg X.base CX0 k x (spN X.K Ar)) (hr : Room k X.A) (hg : Gl X x) (ha : EA X B ρ O (e :: es) ds) (h : Ar (B.L ++ O) ds fs) (hdb : (x == ("__debug__" : Str)) = false := by decide)
    (he : starEach (e :: es) X.env = (false, eval e X.env) :: starEach es X.env := by rfl) (hpl : (backTo pos (starEach es X.env)).any (·.1) = false := by rfl) : EN X B ρ O (.Call (.Name x p) (e :: es) [] pos) fs := by
  obtain ⟨f, F, hm⟩ := c.ex
  exact pe_imp (pe_callR (E := E0) F.raw hr hg hm F.kp pass0 ha hdb he hpl) fun σ H Q ⟨st, k⟩ => ⟨st, fun vs H1 e1 r1 => spN_use (st.same e1).m r1 h fun p H2 ws hp e2 hv r2 => k p H2 ws (e1.free hp) (e1.trans e2) hv r2⟩

/-! ### fields -/
theorem look_at : ∀ {fv : List (Str × V)} {ns : List Str} {f : Str} {i : Nat} {v : V}, fv.map (·.1) = ns → ns.idxOf? f = some i → (fv.map (·.2))[i]? = some v → fv.lookup f = some v
  | [], _, _, _, _, rfl, h, _ => by simp at h
  | (g, u) :: fv, _, f, i, v, rfl, h, hv => by
    rw [List.map_cons, List.idxOf?_cons] at h
    by_cases e : g = f
    · subst e
      simp at h
      subst h
      simp at hv
      subst hv
      simp [List.lookup]
    · have e1 : (g == f) = false := beq_eq_false_iff_ne.mpr e
      have e2 : (f == g) = false := beq_eq_false_iff_ne.mpr (Ne.symm e)
      rw [e1] at h
      simp only [Bool.false_eq_true, if_false, Option.map_eq_some_iff] at h
      obtain ⟨j, hj, rfl⟩ := h
      rw [List.lookup_cons, e2]
      exact look_at rfl hj (by simpa using hv)
theorem look_no : ∀ {fv : List (Str × V)} {ns : List Str} {f : Str}, fv.map (·.1) = ns → ns.idxOf? f = none → fv.lookup f = none
  | [], _, _, rfl, _ => rfl
  | (g, u) :: fv, _, f, rfl, h => by
    rw [List.map_cons, List.idxOf?_cons] at h
    by_cases e : g = f
    · subst e; simp at h
    · have e1 : (g == f) = false := beq_eq_false_iff_ne.mpr e
      have e2 : (f == g) = false := beq_eq_false_iff_ne.mpr (Ne.symm e)
      rw [e1] at h
      simp only [Bool.false_eq_true, if_false, Option.map_eq_none_iff] at h
      rw [List.lookup_cons, e2]
      exact look_no rfl h
/-- an instance: one that stays, or a mutable -/
def Vo (O : Om) (d : D) (C : Addr) (ns : List Str) (ds : List D) : Prop := d = .obj C ns ds ∨ ∃ a, d = .rf a ∧ (a, M.ins C ns ds) ∈ O
theorem Vo.at {K : PySem.W.Frag} {H : Hp} {v : V} {ns : List Str} (w : Vo (B.L ++ O) d C ns ds) (m : MOk K B O H) (r : Rp K (vis B.F O H) v d) : ∃ a dx fv, v = .ref a ∧ H a = some (.ins C dx fv) ∧ fv.map (·.1) = ns ∧ RpL K (vis B.F O H) (fv.map (·.2)) ds := by
  rcases w with rfl | ⟨a, rfl, h⟩
  · cases r with
    | obj h1 h2 h3 => exact ⟨_, _, _, rfl, vis_le _ _ h1, h2, h3⟩
  · cases r
    obtain ⟨dx, fv, h1, h2, h3⟩ := (List.mem_append.mp h).elim (m.lent _ _) (m.mem _ _)
    exact ⟨_, dx, fv, rfl, h1, h2, h3⟩
theorem ev_fld {ns : List Str} {f : Str} {i : Nat} (he : EV X B ρ O e d1) (w : Vo (B.L ++ O) d1 C ns ds) (c : Cls X.K C) (n : NoAttr X.K C f) (hi : ns.idxOf? f = some i) (hd : ds[i]? = some d) (hb : attributeBase e f X.env (eval e X.env) = eval e X.env := by rfl) :
    EV X B ρ O (.Attribute e f pos) d :=
  pe_imp (pe_fld he hb) fun σ H Q ⟨st, k⟩ => ⟨st, fun v H1 e1 r1 => by
    obtain ⟨a, dx, fv, ea, h1, h2, h3⟩ := w.at (st.same e1).m r1
    obtain ⟨u, hu, ru⟩ := h3.get hd
    exact ⟨a, C, dx, fv, u, ea, h1, c, n, look_at h2 hi hu, k u H1 e1 ru⟩⟩
/-- C.NAME -/
theorem ev_cval {f : Str} {mc : Value} {v : V} {u : Value} (he : EV X B ρ O e (.rf C)) (rd : ClX.CRead X.K C mc) (cv : ClX.CVal X.K C mc f v u) (rp : ∀ H, Rp X.K H v d) (hb : attributeBase e f X.env (eval e X.env) = eval e X.env := by rfl) : EV X B ρ O (.Attribute e f pos) d :=
  pe_imp (ClX.pe_cval he hb) fun σ H Q ⟨st, k⟩ => ⟨st, fun v H1 e1 r1 => by
    cases r1
    exact ⟨C, mc, _, _, rfl, rd, cv, k _ H1 e1 (rp _)⟩⟩
/-- self.f = e, a new field -/
theorem put_new : ∀ {fv : List (Str × V)} {f : Str} {v : V}, (fv.map (·.1)).idxOf? f = none → putF f v fv = fv ++ [(f, v)]
  | [], _, _, _ => rfl
  | (g, u) :: fv, f, v, h => by
    rw [List.map_cons, List.idxOf?_cons] at h
    by_cases e : g = f
    · subst e; simp at h
    · have e1 : (g == f) = false := beq_eq_false_iff_ne.mpr e
      rw [e1] at h
      simp only [Bool.false_eq_true, if_false, Option.map_eq_none_iff] at h
      show (if g = f then (g, v) :: fv else (g, u) :: putF f v fv) = _
      rw [if_neg e, put_new h]
      rfl
theorem put_at : ∀ {fv : List (Str × V)} {f : Str} {v : V} {i : Nat}, (fv.map (·.1)).idxOf? f = some i → (putF f v fv).map (·.1) = fv.map (·.1) ∧ (putF f v fv).map (·.2) = (fv.map (·.2)).set i v
  | [], _, _, _, h => by simp at h
  | (g, u) :: fv, f, v, i, h => by
    rw [List.map_cons, List.idxOf?_cons] at h
    by_cases e : g = f
    · subst e
      simp at h
      subst h
      have : putF g v ((g, u) :: fv) = (g, v) :: fv := by
        show (if g = g then (g, v) :: fv else (g, u) :: putF g v fv) = _
        rw [if_pos rfl]
      rw [this]
      exact ⟨rfl, rfl⟩
    · have e1 : (g == f) = false := beq_eq_false_iff_ne.mpr e
      rw [e1] at h
      simp only [Bool.false_eq_true, if_false, Option.map_eq_some_iff] at h
      obtain ⟨j, hj, rfl⟩ := h
      have : putF f v ((g, u) :: fv) = (g, u) :: putF f v fv := by
        show (if g = f then (g, v) :: fv else (g, u) :: putF f v fv) = _
        rw [if_neg e]
      obtain ⟨h1, h2⟩ := put_at (v := v) hj
      rw [this, List.map_cons, List.map_cons, List.map_cons, List.map_cons, h1, h2]
      exact ⟨rfl, rfl⟩
theorem j_fldNew {q : Addr} {ns : List Str} {f : Str} (ho : EV X B ρ O o (.rf q)) (he : EV X B ρ O e d) (c : Cls X.K C) (n : NoAttr X.K C f) (hm : Put O q (.ins C ns ds) (.ins C (ns ++ [f]) (ds ++ [d])) O') (hi : ns.idxOf? f = none) (hl : ns.length < 1000)
    (h : A.nx ρ O') (hs : swapsWith e (some (.Attribute o f pos')) pos.line X.env = pure false) : J1 X B (.Assign [.Attribute o f pos'] e pos) ρ O A :=
  ps_imp (ps_fld ho he hs) fun Dn σ H ⟨st, pp⟩ => ⟨st, fun v H1 e1 r1 => ⟨st.same e1, fun u H2 e2 r2 => by
    cases r2
    have s2 := (st.same e1).same e2
    obtain ⟨dx, fv, h1, h2, h3⟩ := s2.m.mem _ _ hm.mem
    have hp : putF f v fv = fv ++ [(f, v)] := put_new (by rw [h2]; exact hi)
    obtain ⟨s3, ev⟩ := s2.putP (o := .ins C dx (putF f v fv)) hm ⟨dx, _, upd_same, by rw [hp, List.map_append, h2]; rfl, by
      rw [hp, List.map_append]
      exact h3.append (.cons (r1.mono (vis_same e2)) .nil)⟩
    refine ⟨q, C, dx, fv, rfl, h1, c, n, by rw [← List.length_map (f := (·.1)) (as := fv), h2]; exact hl, pp.nx ρ _ σ _ h s3 ?_⟩
    rw [ev]
    exact vis_same (e1.trans e2)⟩⟩
theorem j_fldSet {q : Addr} {ns : List Str} {f : Str} {i : Nat} (ho : EV X B ρ O o (.rf q)) (he : EV X B ρ O e d) (c : Cls X.K C) (n : NoAttr X.K C f) (hm : Put O q (.ins C ns ds) (.ins C ns (ds.set i d)) O') (hi : ns.idxOf? f = some i) (hl : ns.length < 1000)
    (h : A.nx ρ O') (hs : swapsWith e (some (.Attribute o f pos')) pos.line X.env = pure false) : J1 X B (.Assign [.Attribute o f pos'] e pos) ρ O A :=
  ps_imp (ps_fld ho he hs) fun Dn σ H ⟨st, pp⟩ => ⟨st, fun v H1 e1 r1 => ⟨st.same e1, fun u H2 e2 r2 => by
    cases r2
    have s2 := (st.same e1).same e2
    obtain ⟨dx, fv, h1, h2, h3⟩ := s2.m.mem _ _ hm.mem
    obtain ⟨g1, g2⟩ := put_at (fv := fv) (v := v) (f := f) (i := i) (by rw [h2]; exact hi)
    obtain ⟨s3, ev⟩ := s2.putP (o := .ins C dx (putF f v fv)) hm ⟨dx, _, upd_same, by rw [g1, h2], by
      rw [g2]
      exact h3.set (r1.mono (vis_same e2)) i⟩
    refine ⟨q, C, dx, fv, rfl, h1, c, n, by rw [← List.length_map (f := (·.1)) (as := fv), h2]; exact hl, pp.nx ρ _ σ _ h s3 ?_⟩
    rw [ev]
    exact vis_same (e1.trans e2)⟩⟩

/-! ### methods, properties, instances called -/
/-- o.m(..), o a value -/
theorem ev_meth {Ar : Om → List D → D → Prop} {ns : List Str} {m : Str} {f : Addr} (he : EV X B ρ O o (.obj C ns ds)) (c : Cls X.K C) (hm : Meth X.K C m f) (F : Fok X.prog X.w X.K X.mg X.base CX0 k f (spP X.K Ar)) (hr : Room k X.A) (ha : EA X B ρ O (e :: es) es') (hn : ns.idxOf? m = none)
    (h : Ar (B.L ++ O) (.obj C ns ds :: es') d) (pl : Sem Bool)
    (hst : starEach (e :: es) X.env = (false, eval e X.env) :: starEach es X.env := by rfl) (hpl : (backTo pos (starEach es X.env)).any (·.1) = false := by rfl)
    (ht : eval (.Call (.Attribute o m apos) (e :: es) [] pos) X.env = (do
      let ov ← eval o X.env
      standAt apos.atName
      let (f, first) ← holding [ov] (getMethod ov m pl)
      callWith pos f first (backTo pos (starEach (e :: es) X.env)) (backToKw pos (keywordEach [] X.env))) := by rfl) :
    EV X B ρ O (.Call (.Attribute o m apos) (e :: es) [] pos) d :=
  pe_imp (pe_methR (E := E0) (pl := pl) he c hm F.raw hr pass0 ha hst hpl ht) fun σ H Q ⟨st, k⟩ => ⟨st, fun v H1 e1 r1 => by
    cases r1 with
    | obj h1 h2 h3 => exact ⟨_, _, _, rfl, vis_le _ _ h1, look_no h2 hn, st.same e1, fun vs H2 e2 r2 => spP_use ((st.same e1).same e2).m (.cons ((Rp.obj h1 h2 h3).mono (vis_same e2)) r2) h fun w H3 e3 r3 => k w H3 ((e1.trans e2).trans e3) r3⟩⟩
/-- o.f, a property -/
theorem ev_prop {Ar : Om → List D → D → Prop} {ns : List Str} {f : Str} {pp g : Addr} (he : EV X B ρ O o (.obj C ns ds)) (c : Cls X.K C) (hp : PropOf X.K C f pp g) (F : Fok X.prog X.w X.K X.mg X.base CX0 k g (spP X.K Ar)) (hr : Room (k + 1) X.A)
    (h : Ar (B.L ++ O) [.obj C ns ds] d) (hb : attributeBase o f X.env (eval o X.env) = eval o X.env := by rfl) : EV X B ρ O (.Attribute o f pos) d := by
  obtain ⟨fd, ps, G, b⟩ := F.ex
  exact pe_imp (pe_prop (E := E0) (dvs := []) he c hp G hr b .nil pass0 hb) fun σ H Q ⟨st, k⟩ => ⟨st, fun v H1 e1 r1 => by
    cases r1 with
    | obj h1 h2 h3 => exact ⟨_, _, _, rfl, vis_le _ _ h1, spP_use (st.same e1).m (.cons (Rp.obj h1 h2 h3) .nil) h fun w H3 e3 r3 => k w H3 (e1.trans e3) r3⟩⟩
/-- f(..), f an instance -/
theorem ev_callO {Ar : Om → List D → D → Prop} {ns : List Str} {g : Addr} {fe : Expr} {es' : List D} (hf : EV X B ρ O fe (.obj C ns ds)) (c : StX.CallO X.K C g) (F : Fok X.prog X.w X.K X.mg X.base CX0 k g (spP X.K Ar)) (hr : Room k X.A) (ha : EA X B ρ O (e :: es) es') (h : Ar (B.L ++ O) (.obj C ns ds :: es') d)
    (ht : eval (.Call fe (e :: es) [] pos) X.env = (do callWith pos (← eval fe X.env) [] (backTo pos (starEach (e :: es) X.env)) (backToKw pos (keywordEach [] X.env))) := by rfl)
    (he : starEach (e :: es) X.env = (false, eval e X.env) :: starEach es X.env := by rfl) (hpl : (backTo pos (starEach es X.env)).any (·.1) = false := by rfl) : EV X B ρ O (.Call fe (e :: es) [] pos) d :=
  pe_imp (StX.pe_callO (E := E0) hf c F.raw hr pass0 ha ht he hpl) fun σ H Q ⟨st, k⟩ => ⟨st, fun v H1 e1 r1 => by
    cases r1 with
    | obj h1 h2 h3 => exact ⟨_, rfl, st.same e1, fun vs H2 e2 r2 => ⟨.inr ⟨_, _, e2 _ _ (vis_le _ _ h1)⟩, spP_use ((st.same e1).same e2).m (.cons ((Rp.obj h1 h2 h3).mono (vis_same e2)) r2) h fun w H3 e3 r3 => k w H3 ((e1.trans e2).trans e3) r3⟩⟩⟩
/-- C.m(..), m a classmethod -/
theorem ev_cmeth {Ar : Om → List D → D → Prop} {m : Str} {mc : Value} {pp g : Addr} {es' : List D} (he : EV X B ρ O o (.rf C)) (rd : ClX.CRead X.K C mc) (c : ClX.CMet X.K C mc m pp g) (F : Fok X.prog X.w X.K X.mg X.base CX0 k g (spP X.K Ar)) (hr : Room k X.A) (ha : EA X B ρ O (e :: es) es')
    (h : Ar (B.L ++ O) (.rf C :: es') d) (pl : Sem Bool)
    (hst : starEach (e :: es) X.env = (false, eval e X.env) :: starEach es X.env := by rfl) (hpl : (backTo pos (starEach es X.env)).any (·.1) = false := by rfl)
    (ht : eval (.Call (.Attribute o m apos) (e :: es) [] pos) X.env = (do
      let ov ← eval o X.env
      standAt apos.atName
      let (f, first) ← holding [ov] (getMethod ov m pl)
      callWith pos f first (backTo pos (starEach (e :: es) X.env)) (backToKw pos (keywordEach [] X.env))) := by rfl) :
    EV X B ρ O (.Call (.Attribute o m apos) (e :: es) [] pos) d :=
  pe_imp (ClX.pe_cmeth (E := E0) (pl := pl) he rd c F.raw hr pass0 ha hst hpl ht) fun σ H Q ⟨st, k⟩ => ⟨st, fun v H1 e1 r1 => by
    cases r1
    exact ⟨rfl, st.same e1, fun vs H2 e2 r2 => spP_use ((st.same e1).same e2).m (.cons (.rf C) r2) h fun w H3 e3 r3 => k w H3 ((e1.trans e2).trans e3) r3⟩⟩
/-- C(..), a value -/
theorem made_use {K : PySem.W.Frag} {Ar : Om → List D → List Str → List D → Prop} {H : Hp} {Q : VK} {E : XK} {vs : List V} {ns : List Str} {fs : List D} (m : MOk K B O H) (r : RpL K (vis B.F O H) vs ds) (h : Ar (B.L ++ O) ds ns fs)
    (k : ∀ v H', Same H H' → Rp K (vis B.F O H') v (.obj C ns fs) → Q v H') (x dx : Addr) (hx : H x = none) (hdx : H dx = none) (ne : dx ≠ x) :
    spI K C Ar (V.ref x :: vs) (upd (upd H dx (.own x)) x (.ins C dx [])) (fun v H2 => v = .non ∧ Q (.ref x) H2) E := by
  have s1 : Same H (upd (upd H dx (.own x)) x (.ins C dx [])) := fun b o e => by
    rw [upd_ne (ne_of_none e hx), upd_ne (ne_of_none e hdx)]
    exact e
  have fx : frF B O x = false := by
    unfold frF
    rw [m.newF hx, m.newO hx]; rfl
  have v1 : Same (vis B.F O H) (vis (frF B O) [(x, .ins C [] [])] (upd (upd H dx (.own x)) x (.ins C dx []))) := fun a o q => by
    obtain ⟨h1, h2, h3⟩ := vis_some.mp q
    have na : a ≠ x := ne_of_none h3 hx
    refine vis_some.mpr ⟨by unfold frF; rw [h1, h2]; rfl, ?_, s1 _ _ h3⟩
    rw [has_cons]
    show (x == a || false) = false
    rw [Bool.or_false]
    exact beq_eq_false_iff_ne.mpr (Ne.symm na)
  have bo := bor_of m
  refine ⟨frF B O, B.L ++ O, x, dx, vs, ds, ns, fs, rfl, ⟨fun a h => let ⟨o, e⟩ := fr_ok m a h; ⟨o, s1 _ _ e⟩, bo.lF, fun a mm hm => (show MRp K (vis B.F O H) H a mm by rw [← vis_fr]; exact bo.lent a mm hm).mono v1 fun o q => s1 _ _ q⟩, fx, upd_same, r.mono v1, h, fun H' dx' fv hk hx' hns r' => ⟨rfl, ?_⟩⟩
  · have s2 : Same H H' := fun b o e => hk b o (ne_of_none e hx) (s1 b o e)
    refine k _ H' s2 (.obj (vis_some.mpr ⟨m.newF hx, m.newO hx, hx'⟩) hns (r'.mono fun a o q => ?_))
    obtain ⟨h1, h2, h3⟩ := vis_some.mp q
    unfold frF at h1
    rw [Bool.or_eq_false_iff] at h1
    exact vis_some.mpr ⟨h1.1, h1.2, h3⟩
theorem ev_make {Ar : Om → List D → List Str → List D → Prop} {f : Addr} {ns : List Str} {fs : List D} (Mk : Mk X.K C f) (F : Fok X.prog X.w X.K X.mg X.base CX0 k f (spI X.K C Ar)) (hr : Room (k + 1) X.A) (hg : Gl X x) (hm : X.mg x = some (.ref C)) (ha : EA X B ρ O (e :: es) ds) (h : Ar (B.L ++ O) ds ns fs) (hdb : (x == ("__debug__" : Str)) = false := by decide)
    (he : starEach (e :: es) X.env = (false, eval e X.env) :: starEach es X.env := by rfl) (hpl : (backTo pos (starEach es X.env)).any (·.1) = false := by rfl) : EV X B ρ O (.Call (.Name x p) (e :: es) [] pos) (.obj C ns fs) :=
  pe_imp (StX.pe_makeR (E := E0) Mk F.raw hr hg hm pass0 ha hdb he hpl) fun σ H Q ⟨st, k⟩ => ⟨st, fun vs H1 e1 r1 y dy hy hdy ne => made_use (st.same e1).m r1 h (fun v H2 e2 r2 => k v H2 (e1.trans e2) r2) y dy hy hdy ne⟩

/-! ### a def keeps its promise -/
end
section
variable {P : Program} {w : World} {K : PySem.W.Frag} {mg : Str → Option Value} {base : Heap}
def startD (N : List Str) (ds : List D) : List (Option D) := ds.map some ++ List.replicate (N.length - ds.length) none
theorem start_env {Hv : Hp} {N : List Str} {vs : List V} {ds : List D} (r : RpL K Hv vs ds) : EnvR K Hv (L2.start N vs) (startD N ds) := by
  have hl := r.length
  refine ⟨by simp [L2.start, startD, hl], fun i d e => ?_⟩
  unfold startD at e
  unfold L2.start
  by_cases hi : i < ds.length
  · rw [List.getElem?_append_left (by simpa using hi)] at e
    rw [List.getElem?_append_left (by rw [List.length_map, hl]; exact hi)]
    rw [List.getElem?_map] at e
    obtain ⟨d', h1, h2⟩ := Option.map_eq_some_iff.mp e
    cases h2
    obtain ⟨v, hv, rv⟩ := r.get h1
    exact ⟨v, by rw [List.getElem?_map, hv]; rfl, rv⟩
  · rw [List.getElem?_append_right (by simpa using hi)] at e
    obtain ⟨_, h⟩ := List.mem_replicate.mp (List.mem_of_getElem? e)
    cases h
theorem fn_pure {Ar : Om → List D → D → Prop} {x qual : Str} {st : Stmt} {f : Addr} {fd : FuncData} {N ps : List Str} {k : Nat} (F : Fun K x qual st f fd) (S : FnScope N ps (defScope st)) (len : ∀ L ds d, Ar L ds d → ds.length = ps.length)
    (h : ∀ (cdv : Value) (A : Around) (outer : List Env) (s : Shared) (H : Hp) (E : XK) (B : Gd) (ds : List D) (d : D), Room k (A.deeper (envOfC qual (defScope st) s.heap.objs.size f cdv)) → Ar B.L ds d →
      J (cxOf CX0 P w K mg base N qual (defScope st) f cdv A outer s H E).nox B (defBody st) (startD N ds) [] { nx := fun _ _ => d = .non, rt := fun d' O' => Frz O' d' d }) : FnOk P w K mg base CX0 (k + 1) f fd ps (spP K Ar) := by
  refine F.ok S (fun vs H Q E q => ?_) (fun cdv A outer s H vs Q E hr q => ?_)
  · obtain ⟨F', L, ds, d, _, r, ha, _⟩ := q
    rw [r.length]; exact len L ds d ha
  · obtain ⟨F', L, ds, d, bo, r, ha, kk⟩ := q
    refine ⟨_, h cdv A outer s H E ⟨F', H, fun c d _ H => E c d H, L, bo.ok, bo.lF⟩ ds d hr ha, ⟨⟨fun a o e => ⟨e, rfl⟩, (fun a m hm => nomatch hm), (by simp), bo.lent⟩, start_env r⟩, ?_, ?_, fun _ _ _ _ z => z.elim, fun _ _ _ _ z => z.elim, fun _ _ _ _ _ _ _ _ _ z => z.elim⟩
    · intro ρ O σ H' e s' _
      subst e
      exact kk _ H' (fun a o q => (s'.m.base a o q).1) .non
    · intro d' O' v H' fz m r'
      exact kk v H' (fun a o q => (m.base a o q).1) (Rp.frz vis_all m.frz fz r')
theorem fn_new {Ar : Om → List D → List D → Prop} {x qual : Str} {st : Stmt} {f : Addr} {fd : FuncData} {N ps : List Str} {k : Nat} (F : Fun K x qual st f fd) (S : FnScope N ps (defScope st)) (len : ∀ L ds d, Ar L ds d → ds.length = ps.length)
    (h : ∀ (cdv : Value) (A : Around) (outer : List Env) (s : Shared) (H : Hp) (E : XK) (B : Gd) (ds : List D) (es : List D), Room k (A.deeper (envOfC qual (defScope st) s.heap.objs.size f cdv)) → Ar B.L ds es →
      J (cxOf CX0 P w K mg base N qual (defScope st) f cdv A outer s H E).nox B (defBody st) (startD N ds) [] { nx := fun _ _ => False, rt := fun d' O' => ∃ p, d' = .rf p ∧ O' = [(p, .lst es)] }) : FnOk P w K mg base CX0 (k + 1) f fd ps (spN K Ar) := by
  refine F.ok S (fun vs H Q E q => ?_) (fun cdv A outer s H vs Q E hr q => ?_)
  · obtain ⟨F', L, ds, d, _, r, ha, _⟩ := q
    rw [r.length]; exact len L ds d ha
  · obtain ⟨F', L, ds, es, bo, r, ha, kk⟩ := q
    refine ⟨_, h cdv A outer s H E ⟨F', H, fun c d _ H => E c d H, L, bo.ok, bo.lF⟩ ds es hr ha, ⟨⟨fun a o e => ⟨e, rfl⟩, (fun a m hm => nomatch hm), (by simp), bo.lent⟩, start_env r⟩, fun _ _ _ _ z => z.elim, ?_, fun _ _ _ _ z => z.elim, fun _ _ _ _ z => z.elim, fun _ _ _ _ _ _ _ _ _ z => z.elim⟩
    rintro d' O' v H' ⟨p, rfl, rfl⟩ m r'
    cases r'
    obtain ⟨ws, h1, h2⟩ := m.mem p _ List.mem_cons_self
    refine kk p H' ws ?_ (fun a o q => (m.base a o q).1) h1 h2
    cases q : H p with
    | none => rfl
    | some o =>
      have := (m.base p o q).2
      simp [has] at this
theorem fn_init {C : Addr} {Ar : Om → List D → List Str → List D → Prop} {x qual : Str} {st : Stmt} {f : Addr} {fd : FuncData} {N ps : List Str} {k : Nat} (F : Fun K x qual st f fd) (S : FnScope N ps (defScope st)) (len : ∀ L ds ns fs, Ar L ds ns fs → ds.length + 1 = ps.length)
    (h : ∀ (cdv : Value) (A : Around) (outer : List Env) (s : Shared) (H : Hp) (E : XK) (B : Gd) (x : Addr) (ds : List D) (ns : List Str) (fs : List D), Room k (A.deeper (envOfC qual (defScope st) s.heap.objs.size f cdv)) → Ar B.L ds ns fs →
      J (cxOf CX0 P w K mg base N qual (defScope st) f cdv A outer s H E).nox B (defBody st) (startD N (.rf x :: ds)) [(x, .ins C [] [])] { nx := fun _ O' => ∃ fs' O1, O' = O1 ++ [(x, .ins C ns fs')] ∧ FrzL O1 fs' fs, rt := fun _ _ => False }) : FnOk P w K mg base CX0 (k + 1) f fd ps (spI K C Ar) := by
  refine F.ok S (fun vs H Q E q => ?_) (fun cdv A outer s H vs Q E hr q => ?_)
  · obtain ⟨F', L, x, dx, us, ds, ns, fs, rfl, _, _, _, r, ha, _⟩ := q
    rw [List.length_cons, r.length]; exact len L ds ns fs ha
  · obtain ⟨F', L, x, dx, us, ds, ns, fs, rfl, bo, fx, hx, r, ha, kk⟩ := q
    let Hb : Hp := fun a => if a = x then none else H a
    have hbx : ∀ a o, Hb a = some o → a ≠ x ∧ H a = some o := fun a o e => by
      have e' : (if a = x then none else H a) = some o := e
      by_cases q : a = x
      · rw [if_pos q] at e'; cases e'
      · rw [if_neg q] at e'; exact ⟨q, e'⟩
    have hF' : ∀ a, F' a = true → ∃ o, Hb a = some o := fun a h => by
      obtain ⟨o, e⟩ := bo.ok a h
      have ne : a ≠ x := fun z => by rw [z, fx] at h; cases h
      exact ⟨o, by show (if a = x then none else H a) = _; rw [if_neg ne]; exact e⟩
    refine ⟨_, h cdv A outer s H E ⟨F', Hb, fun c d _ H => E c d H, L, hF', bo.lF⟩ x ds ns fs hr ha, ⟨⟨fun a o e => ?_, fun a m hm => ?_, by simp, bo.lent⟩, start_env (.cons (.rf x) r)⟩, ?_, fun _ _ _ _ z => z.elim, fun _ _ _ _ z => z.elim, fun _ _ _ _ z => z.elim, fun _ _ _ _ _ _ _ _ _ z => z.elim⟩
    · obtain ⟨n, e⟩ := hbx a o e
      refine ⟨e, ?_⟩
      show (x == a || false) = false
      rw [Bool.or_false]
      exact beq_eq_false_iff_ne.mpr (Ne.symm n)
    · cases List.mem_singleton.mp hm
      exact ⟨dx, [], hx, rfl, .nil⟩
    · rintro ρ O' σ H' ⟨fs', O1, rfl, fz⟩ s' _
      obtain ⟨dx', fv, h1, h2, h3⟩ := s'.m.mem x _ (List.mem_append_right _ List.mem_cons_self)
      have nd := s'.m.nd
      rw [List.map_append, List.nodup_append] at nd
      have nx : ∀ p m, (p, m) ∈ O1 → p ≠ x := fun p m hp => nd.2.2 p (List.mem_map_of_mem (f := (·.1)) hp) x (by simp)
      have e1 : Same (vis F' (O1 ++ [(x, .ins C ns fs')]) H') (vis F' [(x, .ins C [] [])] H') := fun a o q => by
        obtain ⟨q1, q2, q3⟩ := vis_some.mp q
        refine vis_some.mpr ⟨q1, ?_, q3⟩
        unfold has at q2 ⊢
        rw [List.any_append, Bool.or_eq_false_iff] at q2
        exact q2.2
      refine kk H' dx' fv (fun a o na q => (s'.m.base a o (by show (if a = x then none else H a) = _; rw [if_neg na]; exact q)).1) h1 h2 (RpL.frz e1 (fun p m hp => ?_) fz h3)
      refine (s'.m.mem p m (List.mem_append_left _ hp)).mono (Same.refl _) fun o q => ?_
      have q' := s'.m.visM (has_mem.mpr ⟨m, List.mem_append_left _ hp⟩) q
      obtain ⟨g1, _, g3⟩ := vis_some.mp q'
      refine vis_some.mpr ⟨g1, ?_, g3⟩
      show (x == p || false) = false
      rw [Bool.or_false]
      exact beq_eq_false_iff_ne.mpr (Ne.symm (nx p m hp))
end
end DL
namespace DL
open PySem PySem.Spec PyProof.Rows L2
section
variable {X : Cx} {B : Gd} {ρ ρ1 : List (Option D)} {O O1 : Om} {A : AE} {st : Stmt} {rest : List Stmt}
theorem j_cut (ρ1 : List (Option D)) (O1 : Om) (h1 : J1 X B st ρ O { A with nx := fun ρ' O' => Wk ρ1 ρ' ∧ O' = O1 }) (h2 : J X B rest ρ1 O1 A) : J X B (st :: rest) ρ O A := by
  refine j_cons (ps_imp h1 fun Dn σ H ⟨st, p⟩ => ⟨st, fun ρ' O' σ' H' q s' e => ?_, p.rt, p.bk, p.ct, p.ex⟩)
  obtain ⟨w, rfl⟩ := q
  refine p.nx ρ' O' σ' H' ?_ s' e
  exact pss_imp h2 fun Dn σ H ⟨s2, p2⟩ => ⟨s2.weak w, p2⟩
theorem wk_refl : Wk ρ ρ := ⟨rfl, fun _ _ h => h⟩
theorem wk_nil : Wk [] [] := wk_refl
theorem wk_none {r r' : List (Option D)} {d : Option D} (h : Wk r r') : Wk (none :: r) (d :: r') := ⟨by simp [h.1], fun i e q => by
  cases i with
  | zero => simp at q
  | succ i => simpa using h.2 i e (by simpa using q)⟩
theorem wk_some {r r' : List (Option D)} {d d' : D} (e : d = d') (h : Wk r r') : Wk (some d :: r) (some d' :: r') := ⟨by simp [h.1], fun i e' q => by
  cases i with
  | zero => subst e; simpa using q
  | succ i => simpa using h.2 i e' (by simpa using q)⟩
end
end DL

set_option Elab.async false
set_option linter.all false
set_option maxRecDepth 100000
set_option maxHeartbeats 2000000
namespace DL
open PySem PySem.Spec PyProof.Rows L2
section
variable {X : Cx} {B : Gd} {ρ ρ' : List (Option D)} {O O' O1 O2 : Om} {A : AE} {a b c e o : Expr} {es : List Expr} {d d1 d2 d3 : D} {ds : List D} {pos pos' p apos : Pos} {b1 b2 : Bool} {st : Stmt} {ss rest : List Stmt} {x : Str} {k : Nat} {C : Addr}
/-! ### short forms, for a printed proof -/
theorem nm (i : Nat) (hd : ρ[i]? = some (some d)) (hN : X.N[i]? = some x := by rfl) (hv : Vis X.env.scope x := by first | exact Or.inl rfl | exact Or.inr (Or.inl rfl) | exact Or.inr (Or.inr rfl)) (h1 : (x == ("__debug__" : Str)) = false := by decide) (h2 : (x == ("__classdict__" : Str)) = false := by decide) :
    EV X B ρ O (.Name x pos) d := ev_name hN hv hd h1 h2
theorem sset (i : Nat) (nd : X.N.Nodup) (he : EV X B ρ O e d) (h : A.nx (ρ.set i (some d)) O) (hi : X.N[i]? = some x := by rfl) (hx : Loc X.env.scope x := by first | exact .inl rfl | exact .inr rfl) (hs : swapsWith e (some (.Name x pos')) pos.line X.env = pure false := by rfl)
    (hf : X.fn x = true ∨ X.env.scope.names.lookup x = some .local := by first | exact .inr rfl | exact .inl rfl) : J1 X B (.Assign [.Name x pos'] e pos) ρ O A := j_set nd hi hx he hs hf h
theorem ssetG (i : Nat) (nd : X.N.Nodup) (he : EG X B ρ O e d O') (h : A.nx (ρ.set i (some d)) O') (hi : X.N[i]? = some x := by rfl) (hx : Loc X.env.scope x := by first | exact .inl rfl | exact .inr rfl) (hs : swapsWith e (some (.Name x pos')) pos.line X.env = pure false := by rfl)
    (hf : X.fn x = true ∨ X.env.scope.names.lookup x = some .local := by first | exact .inr rfl | exact .inl rfl) : J1 X B (.Assign [.Name x pos'] e pos) ρ O A := j_setG nd hi hx he hs hf h
theorem ssetN (i : Nat) (nd : X.N.Nodup) (he : EN X B ρ O e ds) (h : ∀ p, has O p = false → A.nx (ρ.set i (some (.rf p))) ((p, .lst ds) :: O)) (hi : X.N[i]? = some x := by rfl) (hx : Loc X.env.scope x := by first | exact .inl rfl | exact .inr rfl) (hs : swapsWith e (some (.Name x pos')) pos.line X.env = pure false := by rfl)
    (hf : X.fn x = true ∨ X.env.scope.names.lookup x = some .local := by first | exact .inr rfl | exact .inl rfl) : J1 X B (.Assign [.Name x pos'] e pos) ρ O A := j_setN nd hi hx he hs hf h
theorem bnm (i : Nat) (nd : X.N.Nodup) (hi : X.N[i]? = some x := by rfl) (hx : Loc X.env.scope x := by first | exact .inl rfl | exact .inr rfl) (hf : X.fn x = true ∨ X.env.scope.names.lookup x = some .local := by first | exact .inr rfl | exact .inl rfl) : EB X (.Name x pos) (gName i) [i] (bName i) := eb_name nd hi hx hf
/-- a loop: what the turns do to the slots, to the mutables; what is true beside -/
theorem sfor {iter tg : Expr} {body : List Stmt} {wi : TI} {sl : List Nat} {f} {g : TG} {G : Om → Prop} (U : Nat → List (Option D) → List (Option D)) (V : Nat → Om → Om) (Z : Nat → Prop)
    (hp : PassesOwn (model X.prog X.w) X.A X.env X.xe) (hc : X.calm = true) (hi : EI X B ρ O tg iter wi G ds) (hg : EB X tg g sl f)
    (hv : ∀ i, G (V i O))
    (h0 : Wk (U 0 ρ) ρ ∧ O = V 0 O ∧ Z 0)
    (hs : ∀ i d, ds[i]? = some d → i < ds.length → Z i → ∃ ρ', f d (U i ρ) = some ρ' ∧ J X B body ρ' (V i O) { A with nx := fun ρ2 O2 => Wk (U (i + 1) ρ) ρ2 ∧ O2 = V (i + 1) O ∧ Z (i + 1), ct := fun ρ2 O2 => Wk (U (i + 1) ρ) ρ2 ∧ O2 = V (i + 1) O ∧ Z (i + 1), bk := A.nx })
    (hd : Z ds.length → A.nx (U ds.length ρ) (V ds.length O))
    (hfs : ∀ x, foldedSetIterable iter X.env x = pure x := by intro _; rfl) : J1 X B (.For tg iter body [] pos) ρ O A := by
  refine j_for (fun i ρ' O' => ρ' = U i ρ ∧ O' = V i O ∧ Z i) hp hc hi hg (fun i ρ' O' h => by rw [h.2.1]; exact hv i) ⟨_, h0.1, rfl, h0.2⟩ (fun i d ρ' O' hd' h => ?_) (fun ρ' O' h => ?_) hfs
  · obtain ⟨rfl, rfl, hz⟩ := h
    obtain ⟨ρ1, h1, h2⟩ := hs i d hd' (List.getElem?_eq_some_iff.mp hd').1 hz
    refine ⟨ρ1, h1, j_imp h2 (fun ρ O h => ⟨_, h.1, rfl, h.2⟩) (fun _ _ h => h) (fun _ _ h => h) (fun ρ O h => ⟨_, h.1, rfl, h.2⟩) (fun _ _ _ _ _ h => h)⟩
  · obtain ⟨rfl, rfl, hz⟩ := h
    exact hd hz

/-! ### more rules -/
theorem ev_ifI {x y : Int} (hc : ET X B ρ O c b1) (ha : b1 = true → EV X B ρ O a (.int x)) (hb : b1 = false → EV X B ρ O b (.int y)) : EV X B ρ O (.IfExp c a b pos) (.int (if b1 = true then x else y)) := by
  cases b1 with
  | true => exact ev_if hc ha (fun h => nomatch h)
  | false => exact ev_if hc (fun h => nomatch h) hb
theorem ev_ifS {x y : Str} (hc : ET X B ρ O c b1) (ha : b1 = true → EV X B ρ O a (.str x)) (hb : b1 = false → EV X B ρ O b (.str y)) : EV X B ρ O (.IfExp c a b pos) (.str (if b1 = true then x else y)) := by
  cases b1 with
  | true => exact ev_if hc ha (fun h => nomatch h)
  | false => exact ev_if hc (fun h => nomatch h) hb
theorem ev_ifB {x y : Bool} (hc : ET X B ρ O c b1) (ha : b1 = true → EV X B ρ O a (.bl x)) (hb : b1 = false → EV X B ρ O b (.bl y)) : EV X B ρ O (.IfExp c a b pos) (.bl (if b1 = true then x else y)) := by
  cases b1 with
  | true => exact ev_if hc ha (fun h => nomatch h)
  | false => exact ev_if hc (fun h => nomatch h) hb
theorem ev_conv {d' : D} (h : EV X B ρ O e d) (q : d = d') : EV X B ρ O e d' := q ▸ h
theorem en_conv {es' : List D} (h : EN X B ρ O e ds) (q : ds = es') : EN X B ρ O e es' := q ▸ h
theorem et_conv (h : ET X B ρ O e b1) (q : b1 = b2) : ET X B ρ O e b2 := q ▸ h
theorem rd_notinC {K : PySem.W.Frag} {c : Nat} {z : Str} : RD K B O (fun x y H Q => ∃ (c : Nat) (z : Str), x = .str ⟨#[c]⟩ ∧ y = .str z ∧ Q (.bl (!decide (c ∈ z.cps.toList))) H) (.str ⟨#[c]⟩) (.str z) (.bl (!decide (c ∈ z.cps.toList))) := fun x y H Q m r1 r2 k => by
  cases r1; cases r2
  exact ⟨c, z, rfl, rfl, k _ H (Same.refl H) (.bl _)⟩
def isNonD : D → Bool
  | .non => true
  | _ => false
theorem rd_isN {K : PySem.W.Frag} : RD K B O (fun x y H Q => y = .non ∧ Q (.bl (decide (x = .non))) H) d1 .non (.bl (isNonD d1)) := fun x y H Q m r1 r2 k => by
  cases r2
  refine ⟨rfl, ?_⟩
  have : decide (x = V.non) = isNonD d1 := by cases r1 <;> simp [isNonD]
  rw [this]
  exact k _ H (Same.refl H) (.bl _)
theorem rd_notN {K : PySem.W.Frag} : RD K B O (fun x y H Q => y = .non ∧ Q (.bl (!decide (x = .non))) H) d1 .non (.bl (!isNonD d1)) := fun x y H Q m r1 r2 k => by
  cases r2
  refine ⟨rfl, ?_⟩
  have : decide (x = V.non) = isNonD d1 := by cases r1 <;> simp [isNonD]
  rw [this]
  exact k _ H (Same.refl H) (.bl _)
theorem et_lst (h : EV X B ρ O e d) (w : Vw (B.L ++ O) d ds) (he : ∀ whole, isTrue e X.env whole = (do let v ← whole; standAt e.pos; holding [v] (truthy v)) := by intro _; rfl) : ET X B ρ O e (!ds.isEmpty) :=
  pt_imp (pt_truth h he) fun σ H Q ⟨st, k⟩ => ⟨st, fun v H1 e1 r1 => by
    obtain ⟨a, vs, rfl, q, rl⟩ := w.sql (st.same e1).m r1
    refine ⟨!vs.isEmpty, .inl ⟨vs, q, rfl⟩, ?_⟩
    have : vs.isEmpty = ds.isEmpty := by
      have := rl.length
      cases vs <;> cases ds <;> simp_all
    rw [this]
    exact k H1 e1⟩
/-- text * n -/
theorem op_rep_str : OpR X (binaryOp .Mult) (fun x y H Q => ∃ z n, x = .str z ∧ y = .int n ∧ MulOk z n ∧ Q (.str (Txt.mul z n)) H) := by
  intro pins s σ H x y v u Q I rx ry h
  obtain ⟨z, n, rfl, rfl, hz, q⟩ := h
  obtain ⟨t, rfl⟩ := rx
  obtain ⟨t', rfl⟩ := ry
  exact SB.mul hz fun t' tk => ⟨.str _, H, I.tok _, ⟨_, rfl⟩, q⟩
theorem rd_repS {K : PySem.W.Frag} {z : Str} {n : Int} (hz : MulOk z n) : RD K B O (fun x y H Q => ∃ z n, x = .str z ∧ y = .int n ∧ MulOk z n ∧ Q (.str (Txt.mul z n)) H) (.str z) (.int n) (.str (Txt.mul z n)) := fun x y H Q m r1 r2 k => by
  cases r1; cases r2
  exact ⟨z, n, rfl, rfl, hz, k _ H (Same.refl H) (.str _)⟩
/-- xs[::-1] -/
theorem en_rev {k : Nat} {p1 p2 p3 : Pos} (he : EV X B ρ O e d) (w : Vw (B.L ++ O) d ds) : EN X B ρ O (.Subscript e (.Slice none none (some (.UnaryOp .USub (.Constant (.int 1) k p1) p2)) p3) pos) ds.reverse :=
  pe_imp (pe_revL he) fun σ H Q ⟨st, kk⟩ => ⟨st, fun v H1 e1 r1 => by
    obtain ⟨a, vs, rfl, q, rl⟩ := w.sql (st.same e1).m r1
    exact ⟨a, vs, rfl, q, new_same (st.same e1).m rl.reverse fun p H' ws hp e2 hv r => kk p H' ws (e1.free hp) (e1.trans e2) hv r⟩⟩
/-- x[i] of a row, a tuple of ints -/
theorem atI_map {α : Type} {xs : List α} {f : α → D} (df : α) {i : Int} (h0 : 0 ≤ i) (h : i < (xs.length : Int)) : atI (xs.map f) i = some (f (xs.getD i.toNat df)) := by
  obtain ⟨j, rfl⟩ : ∃ j : Nat, i = (j : Int) := ⟨i.toNat, by omega⟩
  have hj : j < xs.length := by omega
  exact atI_nat (by simp [hj])
theorem atM {α : Type} {xs : List α} {f : α → D} (df : α) {i : Int} (h0 : 0 ≤ i) (h : i < (xs.length : Int)) : atI (xs.map fun x => f x) i = some (f (xs.getD i.toNat df)) := atI_map df h0 h
theorem atC {xs : List Nat} {i : Int} (h0 : 0 ≤ i) (h : i < (xs.length : Int)) : atI xs i = some (xs.getD i.toNat 0) := by
  obtain ⟨j, rfl⟩ : ∃ j : Nat, i = (j : Int) := ⟨i.toNat, by omega⟩
  have hj : j < xs.length := by omega
  exact atI_nat (by simp [hj])
theorem at2 {α : Type} (f : α → D) {a b : α} {i : Int} (h0 : 0 ≤ i) (h : i < 2) : atI [f a, f b] i = some (f ([a, b].getD i.toNat a)) := atI_map (xs := [a, b]) a h0 h
theorem at3 {α : Type} (f : α → D) {a b c : α} {i : Int} (h0 : 0 ≤ i) (h : i < 3) : atI [f a, f b, f c] i = some (f ([a, b, c].getD i.toNat a)) := atI_map (xs := [a, b, c]) a h0 h
theorem at4 {α : Type} (f : α → D) {a b c d : α} {i : Int} (h0 : 0 ≤ i) (h : i < 4) : atI [f a, f b, f c, f d] i = some (f ([a, b, c, d].getD i.toNat a)) := atI_map (xs := [a, b, c, d]) a h0 h
theorem at5 {α : Type} (f : α → D) {a b c d e : α} {i : Int} (h0 : 0 ≤ i) (h : i < 5) : atI [f a, f b, f c, f d, f e] i = some (f ([a, b, c, d, e].getD i.toNat a)) := atI_map (xs := [a, b, c, d, e]) a h0 h
theorem at6 {α : Type} (f : α → D) {a b c d e g : α} {i : Int} (h0 : 0 ≤ i) (h : i < 6) : atI [f a, f b, f c, f d, f e, f g] i = some (f ([a, b, c, d, e, g].getD i.toNat a)) := atI_map (xs := [a, b, c, d, e, g]) a h0 h
/-- in of a written dict: what it says of a text -/
structure KDi (K : PySem.W.Frag) (w : World) (a : Addr) (f : Str → Option D) : Prop where
  ex : ∃ es n, KDict K w a es n
  at_ : ∀ z : Str, ∃ r, PySem.W.nsIn K a z = some r ∧ (match f z, r with | none, none => True | some dv, some u => ∃ v, RelV v u ∧ ∀ H, Rp K H v dv | _, _ => False)
theorem ev_inD {f : Str → Option D} {q : Addr} {z : Str} (D : KDi X.K X.w q f) (ha : EV X B ρ O a (.str z)) (hb : EV X B ρ O b (.rf q)) (hm : behindInMarks .In b = false) : EV X B ρ O (.Compare a [.In] [b] pos) (.bl (f z).isSome) := by
  obtain ⟨es, n, kd⟩ := D.ex
  obtain ⟨r, h1, h2⟩ := D.at_ z
  have e : r.isSome = (f z).isSome := by cases hf : f z <;> cases r <;> simp_all
  refine ev_cmp (op_in_kd kd) (fun x y H Q m r1 r2 k => ?_) ha hb hm
  cases r1; cases r2
  exact ⟨z, r, rfl, rfl, h1, by rw [e]; exact k _ H (Same.refl H) (.bl _)⟩
theorem et_inD {f : Str → Option D} {q : Addr} {z : Str} (D : KDi X.K X.w q f) (ha : EV X B ρ O a (.str z)) (hb : EV X B ρ O b (.rf q)) (hm : behindInMarks .In b = false) : ET X B ρ O (.Compare a [.In] [b] pos) (f z).isSome := by
  obtain ⟨es, n, kd⟩ := D.ex
  obtain ⟨r, h1, h2⟩ := D.at_ z
  have e : r.isSome = (f z).isSome := by cases hf : f z <;> cases r <;> simp_all
  refine et_cmp (op_in_kd kd) (fun x y H Q m r1 r2 k => ?_) ha hb hm
  cases r1; cases r2
  exact ⟨z, r, rfl, rfl, h1, by rw [e]; exact k _ H (Same.refl H) (.bl _)⟩
theorem et_notinD {f : Str → Option D} {q : Addr} {z : Str} (D : KDi X.K X.w q f) (ha : EV X B ρ O a (.str z)) (hb : EV X B ρ O b (.rf q)) (hm : behindInMarks .NotIn b = false) : ET X B ρ O (.Compare a [.NotIn] [b] pos) (!(f z).isSome) := by
  obtain ⟨es, n, kd⟩ := D.ex
  obtain ⟨r, h1, h2⟩ := D.at_ z
  have e : r.isSome = (f z).isSome := by cases hf : f z <;> cases r <;> simp_all
  refine et_cmp (op_notIn_kd kd) (fun x y H Q m r1 r2 k => ?_) ha hb hm
  cases r1; cases r2
  exact ⟨z, r, rfl, rfl, h1, by rw [e]; exact k _ H (Same.refl H) (.bl _)⟩
/-- d[k], d written -/
theorem ev_itemD {f : Str → Option D} {q : Addr} {z : Str} (D : KDi X.K X.w q f) (ha : EV X B ρ O a (.rf q)) (hb : EV X B ρ O b (.str z)) (h : f z = some d) (hs : PlainIx b := by intro _ _; rfl) : EV X B ρ O (.Subscript a b pos) d := by
  obtain ⟨es, n, kd⟩ := D.ex
  obtain ⟨r, h1, h2⟩ := D.at_ z
  rw [h] at h2
  cases r with
  | none => exact h2.elim
  | some u =>
    obtain ⟨v, rv, rp⟩ := h2
    refine pe_imp (pe_ix ix_kdict ha hb hs) (two fun x y H Q m r1 r2 k => ?_)
    cases r1; cases r2
    exact ⟨q, z, v, rfl, rfl, ⟨es, n, u, kd.at_, kd.lit, h1, rv⟩, k v H (Same.refl H) (rp _)⟩
/-- d.get(k, x), d written -/
theorem pe_kget2 {K0 : Nat} {q : Addr} {es0 : Array DictEntry} {n0 : Nat} {to ty tx : TE} {e1 e2 : Expr} (kd : KDict X.K X.w q es0 n0) (ho : PE X o to) (he : PE X e1 ty) (hf : PE X e2 tx) (m : M2 X o "get" apos e1 e2 pos) :
    PE X (.Call (.Attribute o "get" apos) [e1, e2] [] pos) (fun σ H Q => to σ H fun x H1 => x = .ref q ∧ ty σ H1 fun y H2 => tx σ H2 fun z H3 => ∃ (k : Str) (r : Option Value), y = .str k ∧ PySem.W.nsIn X.K q k = some r ∧ ((r = none → Q z H3) ∧ ∀ u, r = some u → ∃ v, RelV v u ∧ Q v H3)) := by
  refine ⟨fun pins s σ H Q I h => ?_⟩
  refine wpAny_Call_method m.base m.few m.line PySem.F.plainAttrs_dict PySem.F.slot_dict_get PySem.F.type_dict_get (thn (ho.run pins s σ H _ I h) fun u s1 ⟨x, H1, I1, rx, ex, q1⟩ => ?_)
  subst ex
  obtain rfl : u = Value.ref q := rx
  have hq := I1.kIn _ _ kd.at_
  refine ⟨⟨_, hq, rfl⟩, fun b e => by cases e; exact ⟨_, hq, rfl⟩, ?_⟩
  rw [m.trees]
  refine Calls.callWith_builtin rfl (Calls.evalArgs_plain (Calls.spliced_cons (thn (he.run pins s1 σ H1 _ I1 q1) fun iv s2 ⟨y, H2, I2, ry, q2⟩ =>
    Calls.spliced_cons (thn (hf.run pins s2 σ H2 _ I2 q2) fun fv s3 ⟨z, H3, I3, rz, k, r, ey, e, q3⟩ => Calls.spliced_nil ?_))))
  subst ey
  obtain ⟨t, rfl⟩ := ry
  have hm := PySem.W.mapOf_K (prog := X.prog) (w := X.w) I3.kIn kd.at_ kd.lit
  refine call_meetsIn PySem.F.slot_dict_get hm.typeIs PySem.F.entry_dict_get (PySem.F.args_dict_get_3 _ _ _) (meets_dict_get_default (strKind X.prog X.w) q (strKind_is X.prog X.w k t) kd.low fv) ⟨_, hm, ?_⟩
  have hfk := PySem.W.find_K kd.at_ e
  show EP X pins σ Q (((findBy Value.isStrOf es0 k)).getD fv) _
  rw [hfk]
  cases r with
  | none => exact ⟨z, H3, I3.tok _, rz, q3.1 rfl⟩
  | some u =>
    obtain ⟨v, rv, qv⟩ := q3.2 u rfl
    exact ⟨v, H3, I3.tok _, rv, qv⟩
theorem ev_getD {f : Str → Option D} {q : Addr} {z : Str} {e1 e2 : Expr} (D : KDi X.K X.w q f) (ho : EV X B ρ O o (.rf q)) (he : EV X B ρ O e1 (.str z)) (hf : EV X B ρ O e2 d1) (m : M2 X o "get" apos e1 e2 pos := by exact ⟨rfl, rfl, rfl, rfl⟩) : EV X B ρ O (.Call (.Attribute o "get" apos) [e1, e2] [] pos) ((f z).getD d1) := by
  obtain ⟨es, n, kd⟩ := D.ex
  obtain ⟨r, h1, h2⟩ := D.at_ z
  refine pe_imp (pe_kget2 (K0 := 0) kd ho he hf m) fun σ H Q ⟨st, k⟩ => ⟨st, fun v H1 e1 r1 => ?_⟩
  cases r1
  refine ⟨rfl, st.same e1, fun v2 H2 e2 r2 => ?_⟩
  cases r2
  refine ⟨(st.same e1).same e2, fun v3 H3 e3 r3 => ⟨z, r, rfl, h1, fun hr => ?_, fun u hu => ?_⟩⟩
  · subst hr
    cases hz : f z with
    | some dv => rw [hz] at h2; exact h2.elim
    | none => exact k v3 H3 ((e1.trans e2).trans e3) (by rw [hz]; exact r3)
  · subst hu
    cases hz : f z with
    | none => rw [hz] at h2; exact h2.elim
    | some dv =>
      rw [hz] at h2
      obtain ⟨v, rv, rp⟩ := h2
      exact ⟨v, rv, k v H3 ((e1.trans e2).trans e3) (by rw [hz]; exact rp _)⟩
/-- cls(..), the class in a slot -/
theorem pe_makeL {i k : Nat} {f : Addr} {sp : Sp} {E : XK} {CX : CXT} {t : TA} (M : Mk X.K C f) (F : FnR X.prog X.w X.K X.mg X.base CX k f sp) (hr : Room (k + 1) X.A) (hN : X.N[i]? = some x) (hv : Vis X.env.scope x) (hx : Passes CX X E) (ha : PA X (e :: es) t)
    (hdb : (x == ("__debug__" : Str)) = false := by decide) (hcd : (x == ("__classdict__" : Str)) = false := by decide)
    (he : starEach (e :: es) X.env = (false, eval e X.env) :: starEach es X.env := by rfl) (hpl : (backTo pos (starEach es X.env)).any (·.1) = false := by rfl) : PE X (.Call (.Name x p) (e :: es) [] pos) (fun σ H Q => σ[i]? = some (some (.ref C)) ∧ StX.tMakeR C sp E t σ H Q) := by
  refine ⟨fun pins s σ H Q I h => ?_⟩
  obtain ⟨hs, ht⟩ := h
  refine wpAny_Call_Name_kw (thn ((pe_var (pos := p) hN hv hdb hcd).run pins s σ H (fun v H1 => v = .ref C ∧ H1 = H) I ⟨.ref C, hs, rfl, rfl⟩) fun u s1 ⟨v, H1, I1, r1, q1⟩ => ?_)
  obtain ⟨rfl, rfl⟩ := q1
  cases r1
  refine PySem.W.callWith_K (h₀ := X.base) I.ok.mod.kin M.kp (thn (ha.run pos pins s1 σ _ _ I1 ht) fun us s2 ⟨vs, H2, I2, r, q⟩ => ⟨I2.kIn, ?_⟩) he hpl
  exact StX.run_makeR M F hr hx I2 r q
theorem ev_makeL {Ar : Om → List D → List Str → List D → Prop} {f : Addr} {ns : List Str} {fs : List D} (i : Nat) (hd : ρ[i]? = some (some (.rf C))) (Mk : Mk X.K C f) (F : Fok X.prog X.w X.K X.mg X.base CX0 k f (spI X.K C Ar)) (hr : Room (k + 1) X.A) (ha : EA X B ρ O (e :: es) ds) (h : Ar (B.L ++ O) ds ns fs)
    (hN : X.N[i]? = some x := by rfl) (hv : Vis X.env.scope x := by first | exact Or.inl rfl | exact Or.inr (Or.inl rfl) | exact Or.inr (Or.inr rfl)) (hdb : (x == ("__debug__" : Str)) = false := by decide) (hcd : (x == ("__classdict__" : Str)) = false := by decide)
    (he : starEach (e :: es) X.env = (false, eval e X.env) :: starEach es X.env := by rfl) (hpl : (backTo pos (starEach es X.env)).any (·.1) = false := by rfl) : EV X B ρ O (.Call (.Name x p) (e :: es) [] pos) (.obj C ns fs) :=
  pe_imp (pe_makeL (E := E0) Mk F.raw hr hN hv pass0 ha hdb hcd he hpl) fun σ H Q ⟨st, k⟩ => by
    obtain ⟨v, hv, rv⟩ := st.env.2 i _ hd
    cases rv
    exact ⟨hv, st, fun vs H1 e1 r1 y dy hy hdy ne => made_use (st.same e1).m r1 h (fun v H2 e2 r2 => k v H2 (e1.trans e2) r2) y dy hy hdy ne⟩

/-! ### == of data -/
mutual
inductive PyR : D → PyData → Prop where
  | non : PyR .non .none
  | bl (b : Bool) : PyR (.bl b) (.bool b)
  | int (i : Int) : PyR (.int i) (.int i)
  | str (x : Str) : PyR (.str x) (.str x)
  | lst {ds : List D} {ps : List PyData} : PyRL ds ps → PyR (.lst ds) (.list ps)
  | tup {ds : List D} {ps : List PyData} : PyRL ds ps → PyR (.tup ds) (.tuple ps)
inductive PyRL : List D → List PyData → Prop where
  | nil : PyRL [] []
  | cons {d : D} {ds : List D} {p : PyData} {ps : List PyData} : PyR d p → PyRL ds ps → PyRL (d :: ds) (p :: ps)
end
section
variable {K : PySem.W.Frag} {Hv H : Hp} (e : Same Hv H)
mutual
theorem PyR.dp (e : Same Hv H) : ∀ {d : D} {p : PyData} {v : V}, PyR d p → Rp K Hv v d → Dp K H v p
  | _, _, _, .non, r => by cases r; exact .non
  | _, _, _, .bl b, r => by cases r; exact .bl b
  | _, _, _, .int b, r => by cases r; exact .int b
  | _, _, _, .str b, r => by cases r; exact .str b
  | _, _, _, .lst h, r => by cases r with | lst hq r => exact .lst (.inl (.inl (e _ _ hq))) (PyRL.dp e h r)
  | _, _, _, .tup h, r => by cases r with | tup hq r => exact .tup (same_t e hq) (PyRL.dp e h r)
theorem PyRL.dp (e : Same Hv H) : ∀ {ds : List D} {ps : List PyData} {vs : List V}, PyRL ds ps → RpL K Hv vs ds → DpAll K H vs ps
  | _, _, _, .nil, r => by cases r; exact .nil
  | _, _, _, .cons h g, r => by cases r with | cons q r => exact .cons (PyR.dp e h q) (PyRL.dp e g r)
end
end
/-- data of one shape whose == is Lean's -/
structure EqOk {α : Type} [DecidableEq α] (f : α → D) (P : α → Prop) (n : Nat) (g : α → PyData) : Prop where
  py : ∀ x, PyR (f x) (g x)
  lay : ∀ x, P x → (g x).canLay0 = true
  dep : ∀ x, (g x).depth ≤ n
  eqv : ∀ x y, PyData.eqv (g x) (g y) = decide (x = y)
theorem EqOk.int : EqOk D.int (fun _ => True) 0 PyData.int := ⟨fun x => .int x, fun x _ => by simp [PyData.canLay0], fun x => by simp [PyData.depth], fun x y => by rw [Bool.eq_iff_iff]; simp [PyData.eqv]⟩
theorem EqOk.str : EqOk D.str (fun x => PyData.strOk x = true) 0 PyData.str := ⟨fun x => .str x, fun x h => by simpa [PyData.canLay0] using h, fun x => by simp [PyData.depth], fun x y => by rw [Bool.eq_iff_iff]; simp [PyData.eqv]⟩
section
variable {α : Type} [DecidableEq α] {f : α → D} {P : α → Prop} {n : Nat} {g : α → PyData}
theorem EqOk.pyL (h : EqOk f P n g) : ∀ xs : List α, PyRL (xs.map f) (xs.map g)
  | [] => .nil
  | x :: xs => .cons (h.py x) (h.pyL xs)
theorem EqOk.layL (h : EqOk f P n g) : ∀ xs : List α, (∀ x ∈ xs, P x) → PyData.canLayAll0 (xs.map g) = true
  | [], _ => by simp [PyData.canLayAll0]
  | x :: xs, q => by
    simp only [List.map_cons, PyData.canLayAll0, h.lay x (q x List.mem_cons_self), h.layL xs fun y hy => q y (List.mem_cons_of_mem _ hy), Bool.and_self]
theorem EqOk.eqvL (h : EqOk f P n g) : ∀ xs ys : List α, PyData.eqvAll (xs.map g) (ys.map g) = decide (xs = ys)
  | [], [] => by simp [PyData.eqvAll]
  | [], y :: ys => by simp [PyData.eqvAll]
  | x :: xs, [] => by simp [PyData.eqvAll]
  | x :: xs, y :: ys => by
    simp only [List.map_cons, PyData.eqvAll, h.eqv x y, h.eqvL xs ys, List.cons.injEq]
    rw [Bool.eq_iff_iff]; simp
theorem EqOk.depL (h : EqOk f P n g) : ∀ xs : List α, PyData.depthAll (xs.map g) ≤ n
  | [] => by simp [PyData.depthAll]
  | x :: xs => by
    have h1 := h.dep x
    have h2 := h.depL xs
    simp only [List.map_cons, PyData.depthAll]
    omega
theorem EqOk.lst (h : EqOk f P n g) : EqOk (fun xs : List α => D.lst (xs.map f)) (fun xs => ∀ x ∈ xs, P x) (n + 1) (fun xs => PyData.list (xs.map g)) :=
  ⟨fun xs => .lst (h.pyL xs), fun xs q => by simpa [PyData.canLay0] using h.layL xs q, fun xs => by have := h.depL xs; simp only [PyData.depth]; omega, fun xs ys => by simpa [PyData.eqv] using h.eqvL xs ys⟩
theorem EqOk.tup (h : EqOk f P n g) : EqOk (fun xs : List α => D.tup (xs.map f)) (fun xs => ∀ x ∈ xs, P x) (n + 1) (fun xs => PyData.tuple (xs.map g)) :=
  ⟨fun xs => .tup (h.pyL xs), fun xs q => by simpa [PyData.canLay0] using h.layL xs q, fun xs => by have := h.depL xs; simp only [PyData.depth]; omega, fun xs ys => by simpa [PyData.eqv] using h.eqvL xs ys⟩
/-- == of two such: x, y as they stand, a mutable's content -/
def Vd (O : Om) (d d' : D) : Prop := d = d' ∨ ∃ a ds, d = .rf a ∧ (a, M.lst ds) ∈ O ∧ d' = .lst ds
theorem Vd.dp {K : PySem.W.Frag} {H : Hp} {v : V} {d' : D} {q : PyData} (w : Vd (B.L ++ O) d d') (m : MOk K B O H) (r : Rp K (vis B.F O H) v d) (h : PyR d' q) : Dp K H v q := by
  rcases w with rfl | ⟨a, ds, rfl, hm, rfl⟩
  · exact h.dp vis_le r
  · cases r
    obtain ⟨vs, h1, h2⟩ := (List.mem_append.mp hm).elim (m.lent _ _) (m.mem _ _)
    cases h with
    | lst h => exact .lst (.inl (.inl h1)) (h.dp vis_le h2)
theorem shaped_of {q : PyData} (h1 : q.canLay0 = true) (h2 : q.depth ≤ n) (hn : n ≤ 64) : SeqAt.shaped q = true := by
  unfold SeqAt.shaped
  rw [h1, Bool.true_and]
  exact decide_eq_true (by omega)
theorem rd_eqD {K : PySem.W.Frag} {x y : α} (h : EqOk f P n g) (hn : n ≤ 64) (w1 : Vd (B.L ++ O) d1 (f x)) (w2 : Vd (B.L ++ O) d2 (f y)) (h1 : P x) (h2 : P y) : RD K B O (rEqD K) d1 d2 (.bl (decide (x = y))) := fun u v H Q m r1 r2 k =>
  ⟨g x, g y, w1.dp m r1 (h.py x), w2.dp m r2 (h.py y), shaped_of (h.lay x h1) (h.dep x) hn, shaped_of (h.lay y h2) (h.dep y) hn, by rw [h.eqv]; exact k _ H (Same.refl H) (.bl _)⟩
theorem rd_neD {K : PySem.W.Frag} {x y : α} (h : EqOk f P n g) (hn : n ≤ 64) (w1 : Vd (B.L ++ O) d1 (f x)) (w2 : Vd (B.L ++ O) d2 (f y)) (h1 : P x) (h2 : P y) : RD K B O (rNeD K) d1 d2 (.bl (!decide (x = y))) := fun u v H Q m r1 r2 k =>
  ⟨g x, g y, w1.dp m r1 (h.py x), w2.dp m r2 (h.py y), shaped_of (h.lay x h1) (h.dep x) hn, shaped_of (h.lay y h2) (h.dep y) hn, by rw [h.eqv]; exact k _ H (Same.refl H) (.bl _)⟩
end
end
end DL
namespace DL
theorem rng_item {n : Nat} {i : Nat} {d : D} (h : (rngD 0 n)[i]? = some d) : i < n ∧ d = .int (i : Int) := by
  unfold rngD at h
  rw [List.getElem?_map] at h
  obtain ⟨j, h1, h2⟩ := Option.map_eq_some_iff.mp h
  obtain ⟨hi, e⟩ := List.getElem?_eq_some_iff.mp h1
  rw [List.getElem_range] at e
  subst e
  exact ⟨by simpa using hi, by rw [← h2, Int.zero_add]⟩
theorem map_item {α : Type} {xs : List α} {f : α → D} {i : Nat} {d : D} (h : (xs.map f)[i]? = some d) : ∃ x, xs[i]? = some x ∧ d = f x := by
  rw [List.getElem?_map] at h
  obtain ⟨x, h1, h2⟩ := Option.map_eq_some_iff.mp h
  exact ⟨x, h1, h2.symm⟩
theorem enum_item {α : Type} {xs : List α} {f : α → D} {i : Nat} {d : D} (h : (enumD (xs.map f))[i]? = some d) : ∃ x, xs[i]? = some x ∧ d = .tup [.int (i : Int), f x] := by
  unfold enumD at h
  rw [List.getElem?_map] at h
  obtain ⟨j, h1, h2⟩ := Option.map_eq_some_iff.mp h
  obtain ⟨hi, e⟩ := List.getElem?_eq_some_iff.mp h1
  rw [List.getElem_range] at e
  subst e
  have hi' : i < xs.length := by simpa using hi
  refine ⟨xs[i], by simp [hi'], ?_⟩
  rw [← h2]
  simp [hi']
theorem enum_len {ds : List D} : (enumD ds).length = ds.length := by simp [enumD]
theorem rng_len {lo : Int} {n : Nat} : (rngD lo n).length = n := by simp [rngD]
end DL

set_option Elab.async false
set_option linter.all false
set_option maxRecDepth 100000
set_option maxHeartbeats 2000000
namespace PySem
open PySem.Spec PyProof.Rows
theorem dl_enum_new {v : Value} {o : Obj} {H : Heap → Prop} (B : Begins v o H) :
    Meets (Builtin.«enumerate.__new__» ⟨[.type "enumerate", v], []⟩) (fun _ R s => H s.heap ∧
      R (.ok (.ret (.ref (s.heap.push o).objs.size))) { s with heap := (s.heap.push o).push { cls := .type "enumerate", data := .fields #[.none, .bool false, .ref s.heap.objs.size, rawInt 0, .none, .none] } }) :=
  .of_wp fun prog w A R s h => by
    obtain ⟨hp, g, d, tk, os⟩ := s; obtain ⟨h1, h⟩ := h
    have hsub := sub_enumerate
    have q1 : ∀ {A' : Around} {E : Value → Shared → Prop} {Q : Value → Shared → Prop}, Q (.ref hp.objs.size) ⟨hp.push o, g, d, tk, os⟩ → wpAny (model prog w) A' (pyIter v) Q E ⟨hp, g, d, tk, os⟩ :=
      fun q => B.iter prog w _ _ ⟨hp, g, d, tk, os⟩ _ h1 q
    wp_walk using q1
    refine wpAny_stack_any fun st => wpAny_pure ?_
    split
    · rename_i c _ _ _ _ _
      cases (c == Value.type "enumerate")
      · wp_walk using q1
        exact ⟨_, rfl, h⟩
      · wp_walk using q1
        exact ⟨_, rfl, h⟩
    · wp_walk using q1
      exact ⟨_, rfl, h⟩
theorem dl_enum_begins {prog : Program} {w : World} {A : Around} {E : Value → Shared → Prop} {s : Shared} {v : Value} {o : Obj} {H : Heap → Prop} {Q : Value → Shared → Prop} (B : Begins v o H) (h1 : H s.heap)
    (h : ∀ h', IsEnum h' (s.heap.objs.size + 1) s.heap.objs.size 0 .none → h'.get? s.heap.objs.size = some o → h'.objs.size = s.heap.objs.size + 2 →
      (∀ b o, s.heap.get? b = some o → h'.get? b = some o) → Q (.ref (s.heap.objs.size + 1)) { s with heap := h' }) :
    wpAny (model prog w) A (call (.type "enumerate") [v]) Q E s := by
  refine callType_new F.called_enumerate (by decide) (F.typeCall_enumerate_1 _) (F.newCall_enumerate_1 _) (fun obj => F.args_object_init_2 obj _) F.entry_enumerate_new
    (dl_enum_new B) ⟨h1, ?_⟩
  have hz : (s.heap.push o).objs.size = s.heap.objs.size + 1 := Heap.size_push ..
  show _ ∧ _
  rw [hz]
  have he : IsEnum ((s.heap.push o).push { cls := .type "enumerate", data := .fields #[.none, .bool false, .ref s.heap.objs.size, rawInt 0, .none, .none] }) (s.heap.objs.size + 1) s.heap.objs.size 0 .none := by
    have := Heap.get?_push_size (s.heap.push o) (o := { cls := .type "enumerate", data := .fields #[.none, .bool false, .ref s.heap.objs.size, rawInt 0, .none, .none] }) rfl
    rw [hz] at this; exact this
  refine ⟨⟨_, he, rfl⟩, h _ he (Heap.get?_push_of_some _ (Heap.get?_push_size _ B.free)) (by rw [Heap.size_push, hz]) fun b o x => Heap.get?_push_of_some _ (Heap.get?_push_of_some _ x)⟩
end PySem
namespace L2
open PySem PySem.Spec PyProof.Rows
/-! ### enumerate(tuple) -/
def Itet (K : PySem.W.Frag) (a : Addr) : It :=
  ⟨fun i H => ∃ (xs : List V) (x : V), SqT K H a xs ∧ xs[i]? = some x, fun i H v H' => ∃ T x, v = .ref T ∧ H T = none ∧ H' = upd H T (.tup [.int (i : Nat), x]) ∧ ∀ xs, SqT K H a xs → xs[i]? = some x, fun i H => ∃ xs : List V, SqT K H a xs ∧ xs.length ≤ i⟩
theorem enum_ne_tup {h : Heap} {e it t : Addr} {i : Int} {old : Value} {items : Array Value} (he : IsEnum h e it i old) (ht : h.IsTuple t items) : e ≠ t := by
  rintro rfl
  have e1 : h.get? e = _ := he
  obtain ⟨o, e2, hc, _⟩ := ht
  rw [e1] at e2
  cases e2
  have hc' : (Value.type "enumerate") = .type "tuple" := hc
  exact absurd hc' (by decide)
theorem iter_ne_tup {h : Heap} {it t a : Addr} {i : Nat} {items : Array Value} (he : h.IsTupleIter it a i) (ht : h.IsTuple t items) : t ≠ it := by
  rintro rfl
  obtain ⟨o, ho, hc, hd⟩ := he
  obtain ⟨o', e2, hc', _⟩ := ht
  rw [ho] at e2
  cases e2
  rw [hc] at hc'
  exact absurd hc' (by decide)
theorem turn_enumT {P : Program} {w : World} {K : PySem.W.Frag} {elts : List Expr} {kk : Nat} {tpos : Pos} (a e it : Addr) :
    Turn P w K (.Tuple elts kk tpos) (Itet K a) [e, it] e (fun i h => (∃ old, IsEnum h e it ((i : Nat) : Int) old) ∧ h.IsTupleIter it a i ∧ e ≠ it) where
  mem := by simp
  obj := fun i h st b hb => by
    obtain ⟨⟨old, he⟩, ⟨o, ho, hc, hd⟩, _⟩ := st
    have e' : b = e ∨ b = it := by simpa using hb
    rcases e' with z | z
    · rw [z]; exact ⟨_, he, fun v q => nomatch q⟩
    · rw [z]; exact ⟨o, ho, fun v q => by rw [hd] at q; cases q⟩
  keep := fun i h h' st k => let ⟨⟨old, he⟩, hi, hne⟩ := st; ⟨⟨old, k e (by simp) _ he⟩, hi.at fun o q => k it (by simp) o q, hne⟩
  item := by
    intro X hP hw hK hc i pins s σ H E I hf st hg
    subst hP hw hK
    obtain ⟨⟨old, he⟩, hit, hne⟩ := st
    obtain ⟨xs, x, hq, hx⟩ := hg
    obtain ⟨its, rv, p, hz⟩ := I.tuple hq
    have pt : s.heap.IsTuple a its.toArray := p
    obtain ⟨u, hu, ru⟩ := rv.get hx
    have hel : e < s.heap.objs.size := Heap.lt_size he
    have hil : it < s.heap.objs.size := by obtain ⟨_, q, _⟩ := hit; exact Heap.lt_size q
    have hea := enum_ne_tup he pt
    have hia := iter_ne_tup hit pt
    have hlt : i < its.toArray.size := by
      have := (List.getElem?_eq_some_iff.mp hu).1
      simpa using this
    refine wpAny_pyNext_enum_itemD (Draws.tuple (show X.A.in1.handled = none from I.ok.hd hc) it a hia its.toArray) he ⟨hit, pt⟩ hlt hne (by simp [hne, hea]) fun x' h' tk hx' ho st' hT hsz hk => ?_
    obtain rfl : x' = u := by
      have : its.toArray[i]? = some u := by simpa using hu
      rw [this] at hx'; exact (Option.some.inj hx').symm
    obtain ⟨hit', pt'⟩ := st'
    refine ⟨_, rfl, wpAny_letOwnedTupleGo_enum (s := { s with heap := h', toks := tk + 1 }) ho fun h'' he' sb => ?_⟩
    have hT2 : h''.get? s.heap.objs.size = some { cls := .type "tuple", data := .seq #[.int i tk, x'] } := (sb.2 _ (Nat.ne_of_gt hel)).trans hT
    have new : ObjOk X.prog X.w (upd H s.heap.objs.size (.tup [.int (i : Nat), x])) h'' s.heap.objs.size (.tup [.int (i : Nat), x]) :=
      ⟨by show 2 ≤ sizeLine; decide, [.int i tk, x'], .cons ⟨_, rfl⟩ (.cons ru .nil), ⟨_, hT2, rfl, _, rfl⟩⟩
    have I1 : Inv X pins σ (upd H s.heap.objs.size (.tup [.int (i : Nat), x])) { s with heap := h'', toks := tk + 1 } :=
      I.turnedNew (ch := [e, it]) (fun b ob hb q => (sb.2 b (fun z => hb (by simp [z]))).trans (hk b ob (fun z => hb (by simp [z])) (fun z => hb (by simp [z])) q)) hf (Nat.le_refl _) new
    refine ⟨.ref s.heap.objs.size, _, I1, rfl, ⟨_, x, rfl, I.hok.fresh (Nat.le_refl _), rfl, fun ys hy => by rw [I.tuple_inj hy hq]; exact hx⟩, ⟨⟨x', ?_⟩, hit'.at fun o q => (sb.2 it (Ne.symm hne)).trans q, hne⟩, fun b hb => ?_⟩
    · have e1 : ((i + 1 : Nat) : Int) = (i : Int) + 1 := by omega
      rw [e1]; exact he'
    · have hb' : b < s.heap.objs.size := by
        have e' : b = e ∨ b = it := by simpa using hb
        rcases e' with z | z
        · rw [z]; exact hel
        · rw [z]; exact hil
      rw [upd_ne (Nat.ne_of_lt hb')]
      exact (hf b hb).1
  done := by
    intro X hP hw hK hc i pins s σ H E I hf st hg
    subst hP hw hK
    obtain ⟨⟨old, he⟩, hit, hne⟩ := st
    obtain ⟨xs, hq, hx⟩ := hg
    obtain ⟨its, rv, p, hz⟩ := I.tuple hq
    have pt : s.heap.IsTuple a its.toArray := p
    obtain ⟨f0, f1, f2, f3, f4, f5⟩ := hf it (by simp)
    have hl := rv.length
    have hT : s.TypeIs (.ref e) "enumerate" := ⟨_, he, rfl⟩
    unfold pyNext
    refine wpAny_bind (wpAny_attempt (wpAny_callSpecial?_slot (name := Str.ofString "__next__") hT F.slot_enumerate_next
      (wpAny_call_entry F.slot_enumerate_next hT F.entry_enumerate_next ?_ (F.args_enumerate_next_1 _))))
    show wpAny _ _ (field (.ref e) 2 >>= _) _ _ _
    refine wpAny_bind (wpAny_field he rfl (x := .ref it) rfl ?_)
    refine wpAny_bind (wpAny_nextOf_tuple_end (show X.A.in1.in1.handled = none from I.ok.hd hc) hit pt (by simp; omega) fun h' x eb hx' => ?_)
    obtain ⟨o, ho, hcl⟩ := hx'
    refine wpAny_bind (wpAny_isInstance (T := "StopIteration") (b := true) ⟨o, ho, hcl⟩ isSubtype_stop ?_)
    exact wpAny_pure ⟨rfl, I.turned (t' := s.toks) (fun b o hb q => eb b o hb q) f0 f1 f3 f4 f5⟩
  self := fun A i s Q E st h => let ⟨⟨_, he⟩, _⟩ := st; wpAny_pyIter_enum he h
def iEnumT (K : PySem.W.Frag) (ta : TA) : TI := fun σ H R => ta σ H fun vs H1 => ∃ a xs, vs = [.ref a] ∧ ((SqL K H1 a xs ∧ R (Ite K a) H1) ∨ (SqT K H1 a xs ∧ R (Itet K a) H1))
theorem pi_enumT {X : Cx} {e : Expr} {ta : TA} {p pos tpos : Pos} {elts : List Expr} {kk : Nat} (hg : Gl X "enumerate") (hm : X.mg "enumerate" = none) (ha : PA X [e] ta) (hs : starEach [e] X.env = [(false, eval e X.env)] := by rfl) :
    PI X (.Tuple elts kk tpos) (.Call (.Name "enumerate" p) [e] [] pos) (iEnumT X.K ta) := by
  refine ⟨fun pins s σ H R I h => ?_⟩
  refine Call_ (ld_blt I hg hm boot_enumerate (PyProof.Rows.callWith_type1 (thn (ha.run pos pins s σ H _ I h) fun us s1 ⟨vs, H1, I1, r1, q1⟩ => ?_) hs rfl))
  obtain ⟨a, xs, ex, q⟩ := q1
  subst ex
  cases r1 with
  | cons r rr =>
    cases rr
    cases r
    rcases q with ⟨hq, q⟩ | ⟨hq, q⟩
    · obtain ⟨its, rv, p', hz⟩ := I1.list hq
      refine call_enumerate_list p'.isList fun h' he hit hsz hk => wpAny_pyIter_enum he ?_
      have I2 : Inv X pins σ H1 { s1 with heap := h' } := I1.kept (t' := s1.toks) hk
      refine ⟨s1.heap.objs.size + 1, [s1.heap.objs.size + 1, s1.heap.objs.size], _, _, H1, rfl, I2, turn_enum a (s1.heap.objs.size + 1) s1.heap.objs.size, ⟨⟨.none, he⟩, hit, Nat.succ_ne_self _⟩, fun b hb => ?_, q⟩
      have e' : b = s1.heap.objs.size + 1 ∨ b = s1.heap.objs.size := by simpa using hb
      have hle : s1.heap.objs.size ≤ b := by
        rcases e' with z | z
        · rw [z]; exact Nat.le_add_right _ _
        · rw [z]; exact Nat.le_refl _
      exact I1.fpOk hle (I1.hok.fresh hle)
    · obtain ⟨its, rv, p', hz⟩ := I1.tuple hq
      refine dl_enum_begins (begins_tuple a its.toArray) (show s1.heap.IsTuple a its.toArray from p') fun h' he hit hsz hk => wpAny_pyIter_enum he ?_
      have I2 : Inv X pins σ H1 { s1 with heap := h' } := I1.kept (t' := s1.toks) hk
      refine ⟨s1.heap.objs.size + 1, [s1.heap.objs.size + 1, s1.heap.objs.size], _, _, H1, rfl, I2, turn_enumT a (s1.heap.objs.size + 1) s1.heap.objs.size, ⟨⟨.none, he⟩, ⟨_, hit, rfl, rfl⟩, Nat.succ_ne_self _⟩, fun b hb => ?_, q⟩
      have e' : b = s1.heap.objs.size + 1 ∨ b = s1.heap.objs.size := by simpa using hb
      have hle : s1.heap.objs.size ≤ b := by
        rcases e' with z | z
        · rw [z]; exact Nat.le_add_right _ _
        · rw [z]; exact Nat.le_refl _
      exact I1.fpOk hle (I1.hok.fresh hle)
end L2
namespace DL
open PySem PySem.Spec PyProof.Rows L2
section
variable {X : Cx} {B : Gd} {ρ ρ' : List (Option D)} {O O' O1 O2 : Om} {A : AE} {a b c e o : Expr} {es : List Expr} {d d1 d2 d3 : D} {ds : List D} {pos pos' p apos : Pos} {b1 b2 : Bool} {st : Stmt} {ss rest : List Stmt} {x : Str} {k : Nat} {C : Addr}
theorem ei_enumQ {ea : Expr} {elts : List Expr} {kk : Nat} {p p' tpos : Pos} (hgl : Gl X "enumerate") (hm : X.mg "enumerate" = none) (hi : EA X B ρ O [ea] [d]) (w : Vq (B.L ++ O) d ds) (hse : starEach [ea] X.env = [(false, eval ea X.env)] := by rfl) :
    EI X B ρ O (.Tuple elts kk tpos) (.Call (.Name "enumerate" p) [ea] [] p') (iEnumT X.K (tA X.K B ρ O [d])) (fun O' => Vq (B.L ++ O') d ds) (enumD ds) :=
  ⟨pi_enumT hgl hm hi hse, fun σ H R st k => ⟨st, fun vs H1 e1 r1 => by
    have hl : (enumD ds).length = ds.length := by simp [enumD]
    cases r1 with
    | @cons v _ _ _ h r =>
    cases r
    rcases w with w | rfl
    · obtain ⟨a, vs, rfl, hq, rl⟩ := w.sql (st.same e1).m h
      have S := src_list w (st.same e1).m h rfl
      refine ⟨a, vs, rfl, .inl ⟨hq, k _ H1 e1 ⟨fun i B' O' H' eL hi m e g => ?_, fun B' O' H' eL m e g => ?_, fun i B' O' H' x H2 eL hi m e g y => ?_⟩⟩⟩
      · rw [hl] at hi
        have g' : Vw (B.L ++ O') d ds := by
          rcases g with g | g
          · exact g
          · subst g; rcases w with (w | ⟨a', w, _⟩) | w <;> cases w
        exact S.goes i B' O' H' eL hi m e g'
      · rw [hl]
        have g' : Vw (B.L ++ O') d ds := by
          rcases g with g | g
          · exact g
          · subst g; rcases w with (w | ⟨a', w, _⟩) | w <;> cases w
        exact S.stops B' O' H' eL m e g'
      · rw [hl] at hi
        have g' : Vw (B.L ++ O') d ds := by
          rcases g with g | g
          · exact g
          · subst g; rcases w with (w | ⟨a', w, _⟩) | w <;> cases w
        obtain ⟨T, x', ex, hT, e2, y⟩ := y
        subst e2 ex
        obtain ⟨_, d', hd', rd⟩ := S.yields i B' O' H' x' H' eL hi m e g' ⟨rfl, y⟩
        refine ⟨same_new hT, .tup [.int (i : Int), d'], ?_, .tup (.inl (.inl (m.visNew hT))) (.cons (.int _) (.cons (rd.mono (vis_same (same_new hT))) .nil))⟩
        unfold enumD; rw [List.getElem?_map, List.getElem?_range hi]; simp [hd']
    · cases h with
      | @tup a vs _ hq rl =>
      refine ⟨a, vs, rfl, .inr ⟨same_t vis_le hq, k _ H1 e1 ⟨fun i B' O' H' eL hi m e g => ?_, fun B' O' H' eL m e g => ?_, fun i B' O' H' x H2 eL hi m e g y => ?_⟩⟩⟩
      · rw [hl] at hi
        obtain ⟨v, hv, _⟩ := rl.get (i := i) (d := ds[i]) (by simp [hi])
        exact ⟨vs, v, same_t vis_le (same_t e hq), hv⟩
      · rw [hl]
        exact ⟨vs, same_t vis_le (same_t e hq), by rw [rl.length]; exact Nat.le_refl _⟩
      · rw [hl] at hi
        obtain ⟨T, x', ex, hT, e2, y⟩ := y
        subst e2 ex
        obtain ⟨v, hv, rv⟩ := rl.get (i := i) (d := ds[i]) (by simp [hi])
        have ex := y vs (same_t vis_le (same_t e hq))
        rw [hv] at ex
        cases ex
        refine ⟨same_new hT, .tup [.int (i : Int), ds[i]], ?_, .tup (.inl (.inl (m.visNew hT))) (.cons (.int _) (.cons ((rv.mono e).mono (vis_same (same_new hT))) .nil))⟩
        unfold enumD; rw [List.getElem?_map, List.getElem?_range hi]; simp [hi]⟩⟩
/-- a op b op' c of ints -/
theorem et_chainI {op op' : CmpOp} {g g' : Int → Int → Bool} {i j l : Int} (ho : OpR X (compareOp op) (rI0 fun i j => .bl (g i j))) (ho' : OpR X (compareOp op') (rI0 fun i j => .bl (g' i j))) (ha : EV X B ρ O a (.int i)) (hb : EV X B ρ O b (.int j)) (hc : EV X B ρ O c (.int l))
    (hm : lastMarks [op, op'] [b, c] = false := by with_unfolding_all rfl) : ET X B ρ O (.Compare a [op, op'] [b, c] pos) (g i j && g' j l) :=
  pt_imp (pt_chain ho ho' ha hb hc hm) fun σ H Q ⟨st, k⟩ => ⟨st, fun v H1 e1 r1 => by
    cases r1
    refine ⟨st.same e1, fun v H2 e2 r2 => ?_⟩
    cases r2
    refine ⟨i, j, rfl, rfl, g i j, rfl, ?_⟩
    cases h : g i j with
    | false => simp only [h, Bool.false_and] at k ⊢; exact ⟨false, rfl, k _ (e1.trans e2)⟩
    | true =>
      simp only [h, Bool.true_and, if_true] at k ⊢
      refine ⟨(st.same e1).same e2, fun v H3 e3 r3 => ?_⟩
      cases r3
      exact ⟨j, l, rfl, rfl, g' j l, rfl, k _ ((e1.trans e2).trans e3)⟩⟩
theorem atS {z : Str} {i : Int} (h0 : 0 ≤ i) (h : i < (z.length : Int)) : atI z.cps.toList i = some (z.cps.toList.getD i.toNat 0) := atC h0 (by rw [Array.length_toList]; exact h)
theorem vq_enum_item {α : Type} {xs : List α} {f : α → D} {i : Nat} {d : D} (h : (enumD (xs.map f))[i]? = some d) : ∃ x, xs[i]? = some x ∧ d = .tup [.int (i : Int), f x] := enum_item h
end
end DL

set_option Elab.async false
set_option linter.all false
set_option maxRecDepth 100000
set_option maxHeartbeats 2000000
namespace DL
open PySem PySem.Spec PyProof.Rows L2
/-! ### what a def computes, and when it may be asked -/
structure Cmp (α : Type) where
  ok : Prop
  val : α
namespace Cmp
variable {α β : Type}
abbrev ret (a : α) : Cmp α := ⟨True, a⟩
def req (p : Prop) (m : Cmp α) : Cmp α := ⟨p ∧ m.ok, m.val⟩
abbrev bnd (v : β) (f : β → Cmp α) : Cmp α := f v
def bind (m : Cmp β) (f : β → Cmp α) : Cmp α := ⟨m.ok ∧ (f m.val).ok, (f m.val).val⟩
def bad [Inhabited α] : Cmp α := ⟨False, default⟩
end Cmp
/-- an error: the place of its class in a table, what its field holds -/
structure Exn where
  c : Nat
  d : D
inductive Ctl (S L R : Type) where
  | nx (s : S) | rt (r : R) | bk (l : L) | ct (l : L) | ex (e : Exn)
section
variable {α S S2 L R : Type}
def forN (f : α → S → Cmp S) : List α → S → Cmp S
  | [], s => .ret s
  | x :: xs, s => (f x s).bind (forN f xs)
def Ctl.then_ (c : Ctl S L R) (k : S → Cmp (Ctl S2 L R)) : Cmp (Ctl S2 L R) :=
  match c with
  | .nx s => k s
  | .rt r => .ret (.rt r)
  | .bk l => .ret (.bk l)
  | .ct l => .ret (.ct l)
  | .ex e => .ret (.ex e)
def Cmp.bindC (m : Cmp (Ctl S L R)) (k : S → Cmp (Ctl S2 L R)) : Cmp (Ctl S2 L R) := m.bind fun c => c.then_ k
/-- .. to what is returned -/
def Ctl.thenR [Inhabited R] (c : Ctl S L R) (k : S → Cmp R) : Cmp R :=
  match c with
  | .nx s => k s
  | .rt r => .ret r
  | _ => .bad
def Cmp.bindR [Inhabited R] (m : Cmp (Ctl S L R)) (k : S → Cmp R) : Cmp R := m.bind fun c => c.thenR k
def Ctl.goOn (c : Ctl S S R) (k : S → Cmp (Ctl S L R)) : Cmp (Ctl S L R) :=
  match c with
  | .nx s => k s
  | .ct s => k s
  | .bk s => .ret (.nx s)
  | .rt r => .ret (.rt r)
  | .ex e => .ret (.ex e)
def forC (f : α → S → Cmp (Ctl S S R)) : List α → S → Cmp (Ctl S L R)
  | [], s => .ret (.nx s)
  | x :: xs, s => (f x s).bind fun c => c.goOn (forC f xs)
def whileN (c : S → Cmp Bool) (b : S → Cmp S) : Nat → S → Cmp S
  | 0, s => ⟨False, s⟩
  | n + 1, s => (c s).bind fun t => if t = true then (b s).bind (whileN c b n) else .ret s
end
/-! ### how a mirror stands over the text -/
def aN {S : Type} (st : S → List (Option D) → Om → Prop) (s : S) : AE := { nx := fun ρ O => ∃ ρ', Wk ρ' ρ ∧ st s ρ' O, rt := fun _ _ => False }
/-- .. a loop's turn -/
def aL {S : Type} (st : S → List (Option D) → Om → Prop) (s : S) : AE := { nx := fun ρ O => ∃ ρ', Wk ρ' ρ ∧ st s ρ' O, ct := fun ρ O => ∃ ρ', Wk ρ' ρ ∧ st s ρ' O, rt := fun _ _ => False }
/-- .. a def's end -/
def aR {R : Type} (rt : R → D → Om → Prop) (r : R) : AE := { nx := fun _ O => rt r .non O, rt := rt r }
def aC {S L R : Type} (st : S → List (Option D) → Om → Prop) (sl : L → List (Option D) → Om → Prop) (rt : R → D → Om → Prop) (ex : Exn → Addr → Str → D → List (Option D) → Om → Prop) : Ctl S L R → AE
  | .nx s => { nx := fun ρ O => ∃ ρ', Wk ρ' ρ ∧ st s ρ' O, rt := fun _ _ => False }
  | .rt r => { nx := fun _ _ => False, rt := rt r }
  | .bk l => { nx := fun _ _ => False, rt := fun _ _ => False, bk := fun ρ O => ∃ ρ', Wk ρ' ρ ∧ sl l ρ' O }
  | .ct l => { nx := fun _ _ => False, rt := fun _ _ => False, ct := fun ρ O => ∃ ρ', Wk ρ' ρ ∧ sl l ρ' O }
  | .ex e => { nx := fun _ _ => False, rt := fun _ _ => False, ex := ex e }
/-- a value handed back -/
abbrev rtP {R : Type} (e : R → D) : R → D → Om → Prop := fun r d O => Frz O d (e r)
/-- a new list handed back -/
abbrev rtN {α : Type} (e : α → D) : List α → D → Om → Prop := fun r d O => ∃ p, d = .rf p ∧ O = [(p, .lst (r.map e))]
abbrev noNx (A : AE) : AE := { A with nx := fun _ _ => False }
section
variable {X : Cx} {B : Gd} {ρ ρ' : List (Option D)} {O O' O1 O2 : Om} {a b c e o : Expr} {es : List Expr} {d d1 d2 d3 : D} {ds : List D} {pos pos' p apos : Pos} {b1 b2 : Bool} {st : Stmt} {ss rest s1 s2 body : List Stmt} {x : Str}
variable {α β S L R : Type} {A : α → AE}
abbrev JC (X : Cx) (B : Gd) (ss : List Stmt) (ρ : List (Option D)) (O : Om) (A : α → AE) (m : Cmp α) : Prop := m.ok → J X B ss ρ O (A m.val)
abbrev JC1 (X : Cx) (B : Gd) (s : Stmt) (ρ : List (Option D)) (O : Om) (A : α → AE) (m : Cmp α) : Prop := m.ok → J1 X B s ρ O (A m.val)
theorem jc_req {q : Prop} {m : Cmp α} (h : q → JC X B ss ρ O A m) : JC X B ss ρ O A (.req q m) := fun ok => h ok.1 ok.2
theorem jc1_req {q : Prop} {m : Cmp α} (h : q → JC1 X B st ρ O A m) : JC1 X B st ρ O A (.req q m) := fun ok => h ok.1 ok.2
theorem jc_one {m : Cmp α} (h : JC1 X B st ρ O A m) : JC X B [st] ρ O A m := fun ok => j_cons (ps_imp (h ok) fun Dn σ H ⟨s, p⟩ => ⟨s, fun ρ O σ H q => p.nx ρ O σ H (j_nil q), p.rt, p.bk, p.ct, p.ex⟩)
theorem jc_nil {v : α} (h : (A v).nx ρ O) : JC X B [] ρ O A (.ret v) := fun _ => j_nil h
theorem jc1_ite {m1 m2 : Cmp α} (hc : ET X B ρ O c b1) (h1 : b1 = true → JC X B s1 ρ O A m1) (h2 : b1 = false → JC X B s2 ρ O A m2) : JC1 X B (.If c s1 s2 pos) ρ O A (if b1 = true then m1 else m2) := fun ok => by
  cases b1 with
  | true => exact j_if hc (fun _ => h1 rfl ok) (fun h => nomatch h)
  | false => exact j_if hc (fun h => nomatch h) (fun _ => h2 rfl ok)
/-- the first branch leaves the block -/
theorem jc_ifr {m1 m2 : Cmp α} (hc : ET X B ρ O c b1) (h1 : b1 = true → JC X B s1 ρ O (fun v => noNx (A v)) m1) (h2 : b1 = false → JC X B rest ρ O A m2) : JC X B (.If c s1 [] pos :: rest) ρ O A (if b1 = true then m1 else m2) := fun ok => by
  cases b1 with
  | true => exact j_cons (j_if hc (fun _ => j_imp (h1 rfl ok) (fun _ _ z => z.elim) (fun _ _ z => z) (fun _ _ z => z) (fun _ _ z => z) (fun _ _ _ _ _ z => z)) (fun h => nomatch h))
  | false => exact j_cons (j_if hc (fun h => nomatch h) (fun _ => j_nil (h2 rfl ok)))
theorem jc_seqN {st1 : S → List (Option D) → Om → Prop} {m1 : Cmp S} {m2 : S → Cmp α} (h1 : JC1 X B st ρ O (aN st1) m1) (h2 : ∀ s ρ' O', st1 s ρ' O' → JC X B rest ρ' O' A (m2 s)) : JC X B (st :: rest) ρ O A (m1.bind m2) := fun ok =>
  j_cons (ps_imp (h1 ok.1) fun Dn σ H ⟨s, p⟩ => ⟨s, fun ρ' O' σ' H' ⟨ρ2, w, q⟩ s' e => p.nx ρ' O' σ' H' (pss_imp (h2 _ _ _ q ok.2) fun Dn σ H ⟨s, p⟩ => ⟨s.weak w, p⟩) s' e, fun _ _ _ _ z => z.elim, fun _ _ _ _ z => z.elim, fun _ _ _ _ z => z.elim, fun _ _ _ _ _ _ _ _ _ z => z.elim⟩)
theorem jc_seqC {S2 : Type} {st1 : S → List (Option D) → Om → Prop} {st2 : S2 → List (Option D) → Om → Prop} {sl : L → List (Option D) → Om → Prop} {rt : R → D → Om → Prop} {ex : Exn → Addr → Str → D → List (Option D) → Om → Prop} {m1 : Cmp (Ctl S L R)} {m2 : S → Cmp (Ctl S2 L R)}
    (h1 : JC1 X B st ρ O (aC st1 sl rt ex) m1) (h2 : ∀ s ρ' O', st1 s ρ' O' → JC X B rest ρ' O' (aC st2 sl rt ex) (m2 s)) : JC X B (st :: rest) ρ O (aC st2 sl rt ex) (m1.bindC m2) := fun ok => by
  obtain ⟨q, v⟩ := m1
  obtain ⟨ok1, ok2⟩ := ok
  have h := h1 ok1
  refine j_cons ?_
  cases v with
  | nx s => exact ps_imp h fun Dn σ H ⟨s, p⟩ => ⟨s, fun ρ' O' σ' H' ⟨ρ2, w, q⟩ s' e => p.nx ρ' O' σ' H' (pss_imp (h2 _ _ _ q ok2) fun Dn σ H ⟨s, p⟩ => ⟨s.weak w, p⟩) s' e, fun _ _ _ _ z => z.elim, fun _ _ _ _ z => z.elim, fun _ _ _ _ z => z.elim, fun _ _ _ _ _ _ _ _ _ z => z.elim⟩
  | rt r => exact ps_imp h fun Dn σ H ⟨s, p⟩ => ⟨s, fun _ _ _ _ z => z.elim, p.rt, fun _ _ _ _ z => z.elim, fun _ _ _ _ z => z.elim, fun _ _ _ _ _ _ _ _ _ z => z.elim⟩
  | bk r => exact ps_imp h fun Dn σ H ⟨s, p⟩ => ⟨s, fun _ _ _ _ z => z.elim, fun _ _ _ _ z => z.elim, p.bk, fun _ _ _ _ z => z.elim, fun _ _ _ _ _ _ _ _ _ z => z.elim⟩
  | ct r => exact ps_imp h fun Dn σ H ⟨s, p⟩ => ⟨s, fun _ _ _ _ z => z.elim, fun _ _ _ _ z => z.elim, fun _ _ _ _ z => z.elim, p.ct, fun _ _ _ _ _ _ _ _ _ z => z.elim⟩
  | ex r => exact ps_imp h fun Dn σ H ⟨s, p⟩ => ⟨s, fun _ _ _ _ z => z.elim, fun _ _ _ _ z => z.elim, fun _ _ _ _ z => z.elim, fun _ _ _ _ z => z.elim, p.ex⟩
theorem jc_seqR [Inhabited R] {st1 : S → List (Option D) → Om → Prop} {sl : L → List (Option D) → Om → Prop} {rt : R → D → Om → Prop} {ex : Exn → Addr → Str → D → List (Option D) → Om → Prop} {m1 : Cmp (Ctl S L R)} {m2 : S → Cmp R}
    (h1 : JC1 X B st ρ O (aC st1 sl rt ex) m1) (h2 : ∀ s ρ' O', st1 s ρ' O' → JC X B rest ρ' O' (aR rt) (m2 s)) : JC X B (st :: rest) ρ O (aR rt) (m1.bindR m2) := fun ok => by
  obtain ⟨q, v⟩ := m1
  obtain ⟨ok1, ok2⟩ := ok
  have h := h1 ok1
  refine j_cons ?_
  cases v with
  | nx s => exact ps_imp h fun Dn σ H ⟨s, p⟩ => ⟨s, fun ρ' O' σ' H' ⟨ρ2, w, q⟩ s' e => p.nx ρ' O' σ' H' (pss_imp (h2 _ _ _ q ok2) fun Dn σ H ⟨s, p⟩ => ⟨s.weak w, p⟩) s' e, fun _ _ _ _ z => z.elim, fun _ _ _ _ z => z.elim, fun _ _ _ _ z => z.elim, fun _ _ _ _ _ _ _ _ _ z => z.elim⟩
  | rt r => exact ps_imp h fun Dn σ H ⟨s, p⟩ => ⟨s, fun _ _ _ _ z => z.elim, p.rt, fun _ _ _ _ z => z.elim, fun _ _ _ _ z => z.elim, fun _ _ _ _ _ _ _ _ _ z => z.elim⟩
  | bk r => exact False.elim ok2
  | ct r => exact False.elim ok2
  | ex r => exact False.elim ok2
/-! ### plain statements -/
theorem jc_set (i : Nat) {v : β} {E : β → D} {m : β → Cmp α} (nd : X.N.Nodup) (he : EV X B ρ O e (E v)) (h : ∀ y, JC X B rest (ρ.set i (some (E y))) O A (m y)) (hi : X.N[i]? = some x := by rfl) (hx : Loc X.env.scope x := by first | exact .inl rfl | exact .inr rfl) (hs : swapsWith e (some (.Name x pos')) pos.line X.env = pure false := by rfl)
    (hf : X.fn x = true ∨ X.env.scope.names.lookup x = some .local := by first | exact .inr rfl | exact .inl rfl) : JC X B (.Assign [.Name x pos'] e pos :: rest) ρ O A (.bnd v m) := fun ok => j_cons (sset i nd he (h v ok) hi hx hs hf)
theorem jc_setN (i : Nat) {v : List β} {E : β → D} {m : List β → Cmp α} (nd : X.N.Nodup) (he : EN X B ρ O e (v.map E)) (h : ∀ q y, has O q = false → JC X B rest (ρ.set i (some (.rf q))) ((q, .lst (y.map E)) :: O) A (m y)) (hi : X.N[i]? = some x := by rfl) (hx : Loc X.env.scope x := by first | exact .inl rfl | exact .inr rfl) (hs : swapsWith e (some (.Name x pos')) pos.line X.env = pure false := by rfl)
    (hf : X.fn x = true ∨ X.env.scope.names.lookup x = some .local := by first | exact .inr rfl | exact .inl rfl) : JC X B (.Assign [.Name x pos'] e pos :: rest) ρ O A (.bnd v m) := fun ok => j_cons (ssetN i nd he (fun q hq => h q v hq ok) hi hx hs hf)
/-- (x, y) = e -/
theorem jc_asg {v : β} {E : β → D} {m : β → Cmp α} {tg : Expr} {g : TG} {sl : List Nat} {f} (he : EV X B ρ O e (E v)) (hg : EB X tg g sl f) (h : ∀ y, ∃ ρ', f (E y) ρ = some ρ' ∧ JC X B rest ρ' O A (m y)) (hs : swapsWithSole [tg] e pos.line X.env = pure false := by rfl) (hw : swappedStores [tg] e X.env = pure none := by rfl)
    (h1 : (assignEach [tg] X.env).map (·.2) = [assign tg X.env] := by rfl) : JC X B (.Assign [tg] e pos :: rest) ρ O A (.bnd v m) := fun ok => by
  obtain ⟨ρ', hf, hr⟩ := h v
  exact j_cons (j_asg he hg hf (hr ok) hs hw h1)
theorem jc_ret {v : α} (he : EV X B ρ O e d) (h : (A v).rt d O) : JC X B (.Return (some e) pos :: rest) ρ O A (.ret v) := fun _ => j_cons (j_ret he h)
theorem jc_retN {v : α} (h : (A v).rt .non O) : JC X B (.Return none pos :: rest) ρ O A (.ret v) := fun _ => j_cons (j_retN h)
theorem jc_pass {m : Cmp α} (h : JC X B rest ρ O A m) : JC X B (.Pass pos :: rest) ρ O A m := fun ok => j_cons (j_pass (h ok))
theorem jc_break {v : α} (h : (A v).bk ρ O) : JC X B (.Break pos :: rest) ρ O A (.ret v) := fun _ => j_cons (j_break h)
theorem jc_continue {v : α} (h : (A v).ct ρ O) : JC X B (.Continue pos :: rest) ρ O A (.ret v) := fun _ => j_cons (j_continue h)
theorem jc_expr {m : Cmp α} (he : EV X B ρ O e d) (h : JC X B rest ρ O A m) (hs : swapsWith e none pos.line X.env = pure false := by rfl) : JC X B (.Expr e pos :: rest) ρ O A m := fun ok => j_cons (j_expr (eg_of he) (h ok) hs)
theorem jc_append {q : Addr} {v : β} {xs : List β} {E : β → D} {m : List β → Cmp α} {O2 : List β → Om} (ho : EV X B ρ O o (.rf q)) (hm : (q, M.lst (xs.map E)) ∈ O) (he : EV X B ρ O e (E v)) (hp : ∀ ys : List β, Put O q (.lst (xs.map E)) (.lst (ys.map E)) (O2 ys)) (hz : xs.length < sizeLine) (h : ∀ ys, JC X B rest ρ (O2 ys) A (m ys))
    (hbase : attributeBase o "append" X.env (eval o X.env) = eval o X.env := by rfl)
    (hfew : ((backTo pos (starEach [e] X.env)).all (fun x => !x.1) && (backToKw pos (keywordEach [] X.env)).all (fun x => x.1.isSome)
      && decide ([e].length + ([] : List Keyword).length + (if ([] : List Keyword).isEmpty then 0 else 1) < 30)) = true := by rfl)
    (hline : (apos.endLine == pos.line) = true := by rfl) (hs : starEach [e] X.env = (false, eval e X.env) :: starEach [] X.env := by rfl) (hplain : (backTo pos (starEach [] X.env)).any (·.1) = false := by rfl)
    (hsw : swapsWith (.Call (.Attribute o "append" apos) [e] [] pos) none pos'.line X.env = pure false := by rfl) :
    JC X B (.Expr (.Call (.Attribute o "append" apos) [e] [] pos) pos' :: rest) ρ O A (.bnd (xs ++ [v]) m) := fun ok =>
  j_cons (j_expr (eg_append (d := E v) (ds := xs.map E) ho hm (eg_of he) (by have := hp (xs ++ [v]); rw [List.map_append] at this; exact this) (by rw [List.length_map]; exact hz) hbase hfew hline hs hplain) (h _ ok) hsw)
/-- xs[i] = e -/
theorem jc_setIx {q : Addr} {i : Int} {v : β} {xs : List β} {E : β → D} {m : List β → Cmp α} {O2 : List β → Om} (ho : EV X B ρ O o (.rf q)) (hi : EV X B ρ O c (.int i)) (he : EV X B ρ O e (E v)) (hp : ∀ ys : List β, Put O q (.lst (xs.map E)) (.lst (ys.map E)) (O2 ys)) (h0 : 0 ≤ i ∧ i < (xs.length : Int)) (h : ∀ ys, JC X B rest ρ (O2 ys) A (m ys))
    (ha : ∀ v, assign (.Subscript o c pos') X.env v = (do
      let ov ← holding [v] (eval o X.env)
      let iv ← holding [v, ov] (eval c X.env)
      standAt pos'
      holding [v, ov, iv] (setItem ov iv v)
      release [v, ov, iv] []) := by intro _; rfl)
    (hs : swapsWithSole [.Subscript o c pos'] e pos.line X.env = pure false := by rfl) (hw : swappedStores [.Subscript o c pos'] e X.env = pure none := by rfl)
    (h1 : (assignEach [.Subscript o c pos'] X.env).map (·.2) = [assign (.Subscript o c pos') X.env] := by rfl) :
    JC X B (.Assign [.Subscript o c pos'] e pos :: rest) ρ O A (.bnd (xs.set i.toNat v) m) := fun ok => by
  obtain ⟨j, rfl⟩ : ∃ j : Nat, i = (j : Int) := ⟨i.toNat, by omega⟩
  have hj : j < xs.length := by omega
  have e1 : ixN (xs.map E).length (j : Int) = some j := by
    unfold ixN
    rw [List.length_map, if_pos (by omega), if_pos (by omega)]
    simp
  refine j_cons (j_setIx ho hi he ?_ e1 (h (xs.set j v) ok) ha hs hw h1)
  have := hp (xs.set j v)
  rw [List.map_set] at this
  exact this
/-! ### loops -/
theorem jc1_for {xs : List α} {E : α → D} {iter tg : Expr} {wi : TI} {sl : List Nat} {bf} {g : TG} {G : Om → Prop} {f : α → S → Cmp S} {s0 : S} {st : S → List (Option D) → Om → Prop}
    (hp : PassesOwn (model X.prog X.w) X.A X.env X.xe) (hc : X.calm = true) (hi : EI X B ρ O tg iter wi G (xs.map E)) (hg : EB X tg g sl bf) (hv : ∀ s ρ O, st s ρ O → G O) (h0 : ∃ ρ0, Wk ρ0 ρ ∧ st s0 ρ0 O)
    (hb : ∀ y s ρ O, st s ρ O → ∃ ρ', bf (E y) ρ = some ρ' ∧ JC X B body ρ' O (aL st) (f y s))
    (hfs : ∀ x, foldedSetIterable iter X.env x = pure x := by intro _; rfl) : JC1 X B (.For tg iter body [] pos) ρ O (aN st) (forN f xs s0) := fun ok => by
  refine j_for (fun i ρ' O' => ∃ s, st s ρ' O' ∧ (forN f (xs.drop i) s).ok ∧ (forN f (xs.drop i) s).val = (forN f xs s0).val) hp hc hi hg (fun i ρ O ⟨s, q, _⟩ => hv s ρ O q) (by
    obtain ⟨ρ0, w, q⟩ := h0
    exact ⟨ρ0, w, s0, q, ok, rfl⟩) (fun i d ρ' O' hd ⟨s, q, k1, k2⟩ => ?_) (fun ρ' O' ⟨s, q, k1, k2⟩ => ?_) hfs
  · obtain ⟨y, hy, rfl⟩ := map_item hd
    obtain ⟨hl, ey⟩ := List.getElem?_eq_some_iff.mp hy
    have e1 : xs.drop i = y :: xs.drop (i + 1) := by rw [List.drop_eq_getElem_cons hl, ey]
    rw [e1] at k1 k2
    obtain ⟨ρ2, f1, j⟩ := hb y s ρ' O' q
    have fin : ∀ ρ3 O3, (∃ ρ'', Wk ρ'' ρ3 ∧ st (f y s).val ρ'' O3) → ∃ ρ4, Wk ρ4 ρ3 ∧ ∃ s, st s ρ4 O3 ∧ (forN f (xs.drop (i + 1)) s).ok ∧ (forN f (xs.drop (i + 1)) s).val = (forN f xs s0).val := fun ρ3 O3 ⟨ρ4, w, q4⟩ => ⟨ρ4, w, _, q4, k1.2, k2⟩
    exact ⟨ρ2, f1, j_imp (j k1.1) fin (fun _ _ z => z) (fun _ _ z => z.elim) fin (fun _ _ _ _ _ z => z.elim)⟩
  · rw [List.length_map, List.drop_length] at k2
    have k2' : s = (forN f xs s0).val := k2
    exact ⟨ρ', wk_refl, k2' ▸ q⟩
theorem jc1_forC {xs : List α} {E : α → D} {iter tg : Expr} {wi : TI} {sl : List Nat} {bf} {g : TG} {G : Om → Prop} {f : α → S → Cmp (Ctl S S R)} {s0 : S} {sl' : L → List (Option D) → Om → Prop} {rt : R → D → Om → Prop} {ex : Exn → Addr → Str → D → List (Option D) → Om → Prop} {st : S → List (Option D) → Om → Prop}
    (hp : PassesOwn (model X.prog X.w) X.A X.env X.xe) (hc : X.calm = true) (hi : EI X B ρ O tg iter wi G (xs.map E)) (hg : EB X tg g sl bf) (hv : ∀ s ρ O, st s ρ O → G O) (h0 : ∃ ρ0, Wk ρ0 ρ ∧ st s0 ρ0 O)
    (hb : ∀ y s ρ O, st s ρ O → ∃ ρ', bf (E y) ρ = some ρ' ∧ JC X B body ρ' O (aC st st rt ex) (f y s))
    (hfs : ∀ x, foldedSetIterable iter X.env x = pure x := by intro _; rfl) : JC1 X B (.For tg iter body [] pos) ρ O (aC st sl' rt ex) (forC f xs s0) := fun ok => by
  refine j_for (fun i ρ' O' => ∃ s, st s ρ' O' ∧ (forC (L := L) f (xs.drop i) s).ok ∧ (forC (L := L) f (xs.drop i) s).val = (forC f xs s0).val) hp hc hi hg (fun i ρ O ⟨s, q, _⟩ => hv s ρ O q) (by
    obtain ⟨ρ0, w, q⟩ := h0
    exact ⟨ρ0, w, s0, q, ok, rfl⟩) (fun i d ρ' O' hd ⟨s, q, k1, k2⟩ => ?_) (fun ρ' O' ⟨s, q, k1, k2⟩ => ?_) hfs
  · obtain ⟨y, hy, rfl⟩ := map_item hd
    obtain ⟨hl, ey⟩ := List.getElem?_eq_some_iff.mp hy
    have e1 : xs.drop i = y :: xs.drop (i + 1) := by rw [List.drop_eq_getElem_cons hl, ey]
    rw [e1] at k1 k2
    obtain ⟨ρ2, f1, j⟩ := hb y s ρ' O' q
    obtain ⟨ok1, ok2⟩ := k1
    have k2' : ((f y s).val.goOn (forC (L := L) f (xs.drop (i + 1)))).val = (forC f xs s0).val := k2
    have j' := j ok1
    refine ⟨ρ2, f1, ?_⟩
    cases hv' : (f y s).val with
    | nx s' =>
      rw [hv'] at ok2 k2' j'
      exact j_imp j' (fun ρ3 O3 ⟨ρ4, w, q4⟩ => ⟨ρ4, w, _, q4, ok2, k2'⟩) (fun _ _ z => z.elim) (fun _ _ z => z.elim) (fun _ _ z => z.elim) (fun _ _ _ _ _ z => z.elim)
    | ct s' =>
      rw [hv'] at ok2 k2' j'
      exact j_imp j' (fun _ _ z => z.elim) (fun _ _ z => z.elim) (fun _ _ z => z.elim) (fun ρ3 O3 ⟨ρ4, w, q4⟩ => ⟨ρ4, w, _, q4, ok2, k2'⟩) (fun _ _ _ _ _ z => z.elim)
    | bk s' =>
      rw [hv'] at ok2 k2' j'
      rw [← k2']
      exact j_imp j' (fun _ _ z => z.elim) (fun _ _ z => z.elim) (fun _ _ z => z) (fun _ _ z => z.elim) (fun _ _ _ _ _ z => z.elim)
    | rt r =>
      rw [hv'] at ok2 k2' j'
      rw [← k2']
      exact j_imp j' (fun _ _ z => z.elim) (fun _ _ z => z) (fun _ _ z => z.elim) (fun _ _ z => z.elim) (fun _ _ _ _ _ z => z.elim)
    | ex r =>
      rw [hv'] at ok2 k2' j'
      rw [← k2']
      exact j_imp j' (fun _ _ z => z.elim) (fun _ _ z => z.elim) (fun _ _ z => z.elim) (fun _ _ z => z.elim) (fun _ _ _ _ _ z => z)
  · rw [List.length_map, List.drop_length] at k2
    have k2' : Ctl.nx s = (forC f xs s0).val := k2
    rw [← k2']
    exact ⟨ρ', wk_refl, q⟩
theorem j_whileN {A : AE} {body : List Stmt} (Rl : Nat → List (Option D) → Om → Prop) (n : Nat) (hp : PassesOwn (model X.prog X.w) X.A X.env X.xe) (h0 : ∃ ρ0, Wk ρ0 ρ ∧ Rl n ρ0 O)
    (hs : ∀ m ρ O, Rl m ρ O → ∃ b, ET X B ρ O c b ∧ (b = true → J X B body ρ O { A with nx := fun ρ2 O2 => ∃ ρ3 k, Wk ρ3 ρ2 ∧ Rl k ρ3 O2 ∧ k < m, ct := fun ρ2 O2 => ∃ ρ3 k, Wk ρ3 ρ2 ∧ Rl k ρ3 O2 ∧ k < m, bk := A.nx }) ∧ (b = false → A.nx ρ O)) :
    J1 X B (.While c body [] pos) ρ O A := by
  refine ps_imp (ps_while hp (anyT_ok (B := B)) (any_ok (B := B))) fun Dn σ H ⟨st, p⟩ => ?_
  obtain ⟨ρ0, w0, h0⟩ := h0
  refine ⟨fun m σ' H' => ∃ ρ' O', Rl m ρ' O' ∧ StOk X.K B ρ' O' σ' H' ∧ Same (vis B.F O H) (vis B.F O' H'), ⟨_, ρ0, O, h0, st.weak w0, Same.refl _⟩, ?_⟩
  rintro m σ' H' ⟨ρ', O', hr, s', e'⟩
  obtain ⟨b, t, h1, h2⟩ := hs m ρ' O' hr
  refine ⟨ρ', O', b, t, s', fun H2 e2 => ?_⟩
  have s2 := s'.same e2
  have e3 := e'.trans (vis_same (F := B.F) (O := O') e2)
  cases b with
  | true =>
    refine iteT ⟨fun σ3 H3 => ∃ ρ3 O3 k, Rl k ρ3 O3 ∧ k < m ∧ StOk X.K B ρ3 O3 σ3 H3 ∧ Same (vis B.F O H) (vis B.F O3 H3), fun σ3 H3 ⟨ρ3, O3, k, q1, q2, q3, q4⟩ => ⟨_, q2, ρ3, O3, q1, q3, q4⟩, ρ', O', _, h1 rfl, s2, ?_⟩
    exact ⟨fun ρ3 O3 σ3 H3 ⟨ρ4, k, w, h4, l⟩ s3 e4 => ⟨ρ4, O3, k, h4, l, s3.weak w, e3.trans e4⟩, p.rt, fun ρ3 O3 σ3 H3 h3 s3 e4 => p.nx ρ3 O3 σ3 H3 h3 s3 (e3.trans e4), fun ρ3 O3 σ3 H3 ⟨ρ4, k, w, h4, l⟩ s3 e4 => ⟨ρ4, O3, k, h4, l, s3.weak w, e3.trans e4⟩, fun C f d ρ4 O3 σ3 H3 dx v h3 s3 e4 => p.ex C f d ρ4 O3 σ3 H3 dx v h3 s3 (e3.trans e4)⟩
  | false => exact iteF (p.nx ρ' O' σ' H2 (h2 rfl) s2 e3)
theorem jc1_while {cm : S → Cmp Bool} {f : S → Cmp S} {s0 : S} {n : Nat} {st : S → List (Option D) → Om → Prop} (hp : PassesOwn (model X.prog X.w) X.A X.env X.xe) (h0 : ∃ ρ0, Wk ρ0 ρ ∧ st s0 ρ0 O)
    (hb : ∀ s ρ O, st s ρ O → (cm s).ok → ET X B ρ O c (cm s).val ∧ ((cm s).val = true → JC X B body ρ O (aL st) (f s))) : JC1 X B (.While c body [] pos) ρ O (aN st) (whileN cm f n s0) := fun ok => by
  refine j_whileN (fun k ρ' O' => ∃ s, st s ρ' O' ∧ (whileN cm f k s).ok ∧ (whileN cm f k s).val = (whileN cm f n s0).val) n hp (by
    obtain ⟨ρ0, w, q⟩ := h0
    exact ⟨ρ0, w, s0, q, ok, rfl⟩) (fun k ρ' O' ⟨s, q, k1, k2⟩ => ?_)
  cases k with
  | zero => exact False.elim k1
  | succ k =>
    obtain ⟨o1, o2⟩ := k1
    obtain ⟨t, j⟩ := hb s ρ' O' q o1
    refine ⟨_, t, fun hv => ?_, fun hv => ?_⟩
    · have k2' : ((if (cm s).val = true then (f s).bind (whileN cm f k) else .ret s) : Cmp S).val = (whileN cm f n s0).val := k2
      rw [if_pos hv] at k2'
      have o2' : ((if (cm s).val = true then (f s).bind (whileN cm f k) else .ret s) : Cmp S).ok := o2
      rw [if_pos hv] at o2'
      have fin : ∀ ρ3 O3, (∃ ρ'', Wk ρ'' ρ3 ∧ st (f s).val ρ'' O3) → ∃ ρ4 k', Wk ρ4 ρ3 ∧ (∃ s, st s ρ4 O3 ∧ (whileN cm f k' s).ok ∧ (whileN cm f k' s).val = (whileN cm f n s0).val) ∧ k' < k + 1 := fun ρ3 O3 ⟨ρ4, w, q4⟩ => ⟨ρ4, k, w, ⟨_, q4, o2'.2, k2'⟩, Nat.lt_succ_self _⟩
      exact j_imp (j hv o2'.1) fin (fun _ _ z => z) (fun _ _ z => z.elim) fin (fun _ _ _ _ _ z => z.elim)
    · have k2' : ((if (cm s).val = true then (f s).bind (whileN cm f k) else .ret s) : Cmp S).val = (whileN cm f n s0).val := k2
      rw [if_neg (by rw [hv]; decide)] at k2'
      have k2'' : s = (whileN cm f n s0).val := k2'
      exact ⟨ρ', wk_refl, k2'' ▸ q⟩
/-! ### a mutable that goes -/
inductive Drp : Om → Addr → M → Om → Prop where
  | head {O : Om} {p : Addr} {m : M} : Drp ((p, m) :: O) p m O
  | tail {O O' : Om} {q : Addr × M} {p : Addr} {m : M} : Drp O p m O' → Drp (q :: O) p m (q :: O')
theorem Drp.mem {p : Addr} {m : M} : ∀ {O O' : Om}, Drp O p m O' → (p, m) ∈ O
  | _, _, .head => List.mem_cons_self
  | _, _, .tail h => List.mem_cons_of_mem _ h.mem
theorem Drp.sub {p : Addr} {m : M} : ∀ {O O' : Om}, Drp O p m O' → List.Sublist O' O
  | _, _, .head => List.sublist_cons_self _ _
  | _, _, .tail h => h.sub.cons₂ _
theorem Drp.no {p : Addr} {m : M} : ∀ {O O' : Om}, Drp O p m O' → (O.map (·.1)).Nodup → has O' p = false
  | _, _, .head (O := O) (p := p), nd => by
    rw [List.map_cons, List.nodup_cons] at nd
    cases q : has O p with
    | false => rfl
    | true =>
      obtain ⟨m', h⟩ := has_mem.mp q
      exact absurd (List.mem_map_of_mem (f := (·.1)) h) nd.1
  | _, _, .tail (q := q) (O' := O') (p := p) h, nd => by
    rw [List.map_cons, List.nodup_cons] at nd
    have h1 := h.no nd.2
    have h2 : q.1 ≠ p := fun z => nd.1 (z ▸ List.mem_map_of_mem (f := (·.1)) h.mem)
    show (q.1 == p || has O' p) = false
    rw [h1, Bool.or_false]
    exact beq_eq_false_iff_ne.mpr h2
theorem has_sub {O O' : Om} (h : ∀ q ∈ O', q ∈ O) {a : Addr} (e : has O a = false) : has O' a = false := by
  cases q : has O' a with
  | false => rfl
  | true =>
    obtain ⟨m, hm⟩ := has_mem.mp q
    have := has_mem.mpr ⟨m, h _ hm⟩
    rw [e] at this; cases this
theorem vis_sub {F : Addr → Bool} {O O' : Om} {H : Hp} (h : ∀ q ∈ O', q ∈ O) : Same (vis F O H) (vis F O' H) := fun a o q => by
  obtain ⟨h1, h2, h3⟩ := vis_some.mp q
  exact vis_some.mpr ⟨h1, has_sub h h2, h3⟩
theorem StOk.sub {K : PySem.W.Frag} {σ : L2.St} {H : Hp} (s : StOk K B ρ O σ H) (h : ∀ q ∈ O', q ∈ O) (nd : (O'.map (·.1)).Nodup) : StOk K B ρ O' σ H :=
  ⟨⟨fun a o q => ⟨(s.m.base a o q).1, has_sub h (s.m.base a o q).2⟩, fun a m q => (s.m.mem a m (h _ q)).mono (vis_sub h) (fun _ q => q), nd, fun a m q => (s.m.lent a m q).mono (vis_sub h) (fun _ q => q)⟩, s.env.mono (vis_sub h)⟩
theorem StOk.frz1 {K : PySem.W.Frag} {σ : L2.St} {H : Hp} {q : Addr} (s : StOk K B ρ O σ H) (h : Drp O q (.lst ds) O') (i : Nat) (hi : ρ[i]? = some (some (.rf q))) : StOk K B (ρ.set i (some (.lst ds))) O' σ H := by
  have s' := s.sub (fun q hq => h.sub.subset hq) (s.m.nd.sublist (h.sub.map _))
  refine ⟨s'.m, ?_⟩
  obtain ⟨v, e1, r1⟩ := s.env.2 i _ hi
  cases r1
  obtain ⟨vs, h1, h2⟩ := s.m.mem _ _ h.mem
  have hq : has O q = true := has_mem.mpr ⟨_, h.mem⟩
  obtain ⟨fq, _, _⟩ := vis_some.mp (s.m.visM hq h1)
  have r : Rp K (vis B.F O' H) (.ref q) (.lst ds) := .lst (vis_some.mpr ⟨fq, h.no s.m.nd, h1⟩) (h2.mono (vis_sub fun q hq => h.sub.subset hq))
  have := s'.env.set (i := i) r
  rwa [show σ.set i (some (V.ref q)) = σ from by
    apply List.ext_getElem?
    intro j
    by_cases hj : i = j
    · subst hj
      rw [e1]
      have hl := (List.getElem?_eq_some_iff.mp e1).1
      rw [List.getElem?_set_self hl]
    · rw [List.getElem?_set_ne hj]] at this
theorem jc_conv {m : Cmp α} (hc : ∀ (K : PySem.W.Frag) σ H, StOk K B ρ O σ H → StOk K B ρ' O' σ H ∧ Same (vis B.F O H) (vis B.F O' H)) (h : JC X B ss ρ' O' A m) : JC X B ss ρ O A m := fun ok =>
  pss_imp (h ok) fun Dn σ H ⟨s, p⟩ => ⟨(hc _ _ _ s).1, p.grow (hc _ _ _ s).2⟩
/-- the mutable in slot i is a value from here on -/
theorem jc_frz {q : Addr} {m : Cmp α} (i : Nat) (hd : Drp O q (.lst ds) O') (hi : ρ[i]? = some (some (.rf q))) (h : JC X B ss (ρ.set i (some (.lst ds))) O' A m) : JC X B ss ρ O A m :=
  jc_conv (fun K σ H s => ⟨s.frz1 hd i hi, vis_sub fun q hq => hd.sub.subset hq⟩) h
theorem jc_drp {q : Addr} {mm : M} {m : Cmp α} (hd : Drp O q mm O') (h : JC X B ss ρ O' A m) : JC X B ss ρ O A m :=
  jc_conv (fun K σ H s => ⟨s.sub (fun q hq => hd.sub.subset hq) (s.m.nd.sublist (hd.sub.map _)), vis_sub fun q hq => hd.sub.subset hq⟩) h
theorem jc_perm {m : Cmp α} (hp : List.Perm O O') (h : JC X B ss ρ O' A m) : JC X B ss ρ O A m :=
  jc_conv (fun K σ H s => ⟨s.sub (fun q hq => hp.mem_iff.mpr hq) ((hp.map _).nodup_iff.mp s.m.nd), vis_sub fun q hq => hp.mem_iff.mpr hq⟩) h
end
end DL

set_option Elab.async false
set_option linter.all false
set_option maxRecDepth 100000
set_option maxHeartbeats 2000000
namespace DL
open PySem PySem.Spec PyProof.Rows L2
instance : Inhabited Str := ⟨Str.empty⟩
abbrev cS (c : Nat) : Str := ⟨#[c]⟩
abbrev eC (c : Nat) : D := .str (cS c)
abbrev dL {α : Type} (E : α → D) (xs : List α) : D := .lst (xs.map E)
abbrev dU {α : Type} (E : α → D) (xs : List α) : D := .tup (xs.map E)
abbrev dP2 {α β : Type} (E : α → D) (F : β → D) (p : α × β) : D := .tup [E p.1, F p.2]
abbrev dP3 {α β γ : Type} (E : α → D) (F : β → D) (G : γ → D) (p : α × β × γ) : D := .tup [E p.1, F p.2.1, G p.2.2]
abbrev dP4 {α β γ δ : Type} (E : α → D) (F : β → D) (G : γ → D) (H : δ → D) (p : α × β × γ × δ) : D := .tup [E p.1, F p.2.1, G p.2.2.1, H p.2.2.2]
abbrev dUnit (_ : Unit) : D := .non
def dO {α : Type} (E : α → D) : Option α → D
  | none => .non
  | some x => E x
abbrev Row := Int × Int × Int
abbrev dRow (r : Row) : D := .tup [.int r.1, .int r.2.1, .int r.2.2]
def rowAt (r : Row) (i : Int) : Int := if i = 0 then r.1 else if i = 1 then r.2.1 else r.2.2
def ixL {α : Type} [Inhabited α] (xs : List α) (i : Int) : α := xs.getD i.toNat default
def ixS (z : Str) (i : Int) : Nat := z.cps.toList.getD i.toNat 0
def lastL {α : Type} [Inhabited α] (xs : List α) : α := xs.getLastD default
def cutL {α : Type} (xs : List α) (lo hi : Option Int) : List α := (xs.drop (HT.sIx xs.length 0 lo)).take (HT.sIx xs.length xs.length hi - HT.sIx xs.length 0 lo)
def rangeL (lo hi : Int) : List Int := (List.range (hi - lo).toNat).map fun i : Nat => lo + (i : Int)
def enumL {α : Type} (xs : List α) : List (Int × α) := xs.zipIdx.map fun p => ((p.2 : Int), p.1)
def zipL {α β : Type} (xs : List α) (ys : List β) : List (α × β) := xs.zip ys
abbrev charsL (z : Str) : List Nat := z.cps.toList
def intD (z : Str) : Int := (PySem.intText? z).getD 0
def IntOk (z : Str) : Prop := (PySem.intText? z).isSome = true ∧ z.length ≤ 640
theorem cutD_map {α : Type} {E : α → D} (xs : List α) (lo hi : Option Int) : cutD (xs.map E) lo hi = (cutL xs lo hi).map E := by
  unfold cutD cutL
  rw [List.length_map, List.map_take, List.map_drop]
theorem rng_eq (lo hi : Int) : rngD lo (hi - lo).toNat = (rangeL lo hi).map D.int := by
  unfold rngD rangeL
  rw [List.map_map]; rfl
theorem rng0_eq (hi : Int) : rngD 0 hi.toNat = (rangeL 0 hi).map D.int := by
  rw [← rng_eq, Int.sub_zero]
theorem enum_eq {α : Type} {E : α → D} (xs : List α) : enumD (xs.map E) = (enumL xs).map (dP2 D.int E) := by
  unfold enumD enumL
  refine List.ext_getElem (by simp) fun i h1 h2 => ?_
  have hi : i < xs.length := by simpa using h1
  simp [hi]
theorem zip_eq {α β : Type} {E : α → D} {F : β → D} (xs : List α) (ys : List β) : zipD (xs.map E) (ys.map F) = (zipL xs ys).map (dP2 E F) := by
  unfold zipD zipL
  refine List.ext_getElem (by simp) fun i h1 h2 => ?_
  have hi : i < min xs.length ys.length := by simpa using h1
  have h3 : i < xs.length := by omega
  have h4 : i < ys.length := by omega
  simp [h3, h4]
theorem atG {α : Type} [Inhabited α] {xs : List α} {E : α → D} {i : Int} (h : 0 ≤ i ∧ i < (xs.length : Int)) : atI (xs.map E) i = some (E (ixL xs i)) := atM default h.1 h.2
theorem atLast {α : Type} [Inhabited α] {xs : List α} {E : α → D} (h : 0 < xs.length) : atI (xs.map E) (-1) = some (E (lastL xs)) := by
  obtain ⟨ys, y, rfl⟩ : ∃ ys y, xs = ys ++ [y] := by
    rcases List.eq_nil_or_concat xs with e | ⟨ys, y, e⟩
    · subst e; simp at h
    · exact ⟨ys, y, by simpa using e⟩
  rw [List.map_append]
  unfold lastL
  rw [List.getLastD_concat]
  exact atI_last _ _
theorem atRow {r : Row} {i : Int} (h : 0 ≤ i ∧ i < 3) : atI [D.int r.1, D.int r.2.1, D.int r.2.2] i = some (.int (rowAt r i)) := by
  obtain ⟨h0, h1⟩ := h
  have : i = 0 ∨ i = 1 ∨ i = 2 := by omega
  rcases this with rfl | rfl | rfl <;> rfl
theorem mod_ix {a n : Int} {k : Nat} (h : 0 < n) (hk : n ≤ (k : Int)) : 0 ≤ a % n ∧ a % n < (k : Int) := ⟨Int.emod_nonneg _ (by omega), Int.lt_of_lt_of_le (Int.emod_lt_of_pos _ h) hk⟩
section
variable {X : Cx} {B : Gd} {ρ ρ' : List (Option D)} {O O' O1 O2 : Om} {a b c e o : Expr} {es : List Expr} {d d1 d2 d3 : D} {ds : List D} {pos pos' p apos : Pos} {b1 b2 : Bool} {st : Stmt} {ss rest s1 s2 body : List Stmt} {x : Str} {k kk : Nat}
variable {α β γ : Type} {E : α → D} {F : β → D}
/-! ### views -/
theorem vsM {q : Addr} (h : (q, M.lst ds) ∈ O) : Vs (B.L ++ O) (.rf q) ds := .inr ⟨q, rfl, List.mem_append_right _ h⟩
theorem vsI : Vs (B.L ++ O) (.lst ds) ds := .inl rfl
theorem vsL (h : Vs B.L d ds) : Vs (B.L ++ O) d ds := by
  rcases h with h | ⟨a, h, m⟩
  · exact .inl h
  · exact .inr ⟨a, h, List.mem_append_left _ m⟩
theorem vwL (h : Vw B.L d ds) : Vw (B.L ++ O) d ds := by
  rcases h with h | h
  · exact .inl (vsL h)
  · exact .inr h
theorem vqL (h : Vq B.L d ds) : Vq (B.L ++ O) d ds := by
  rcases h with h | h
  · exact .inl (vwL h)
  · exact .inr h
theorem Vs.vw {d : D} (h : Vs O d ds) : Vw O d ds := .inl h
theorem Vw.vq {d : D} (h : Vw O d ds) : Vq O d ds := .inl h
/-! ### walked things, typed -/
theorem ei_conv {wi : TI} {G : Om → Prop} {tg iter : Expr} {es : List D} (h : EI X B ρ O tg iter wi G ds) (e : ds = es) : EI X B ρ O tg iter wi G es := e ▸ h
theorem ei_rng1 {tg na : Expr} {p p' : Pos} {n : Int} (hgl : Gl X "range") (hm : X.mg "range" = none) (hi : EA X B ρ O [na] [.int n]) (hn : -(2 ^ 62) ≤ n ∧ n < 2 ^ 62) (hse : starEach [na] X.env = [(false, eval na X.env)] := by rfl) :
    EI X B ρ O tg (.Call (.Name "range" p) [na] [] p') (iRng1 (tA X.K B ρ O [.int n])) (fun _ => True) ((rangeL 0 n).map D.int) := ei_conv (ei_range1 hgl hm hi hn hse) (rng0_eq n)
theorem ei_rng2 {tg ma na : Expr} {p p' : Pos} {m n : Int} (hgl : Gl X "range") (hm : X.mg "range" = none) (hi : EA X B ρ O [ma, na] [.int m, .int n]) (hn : -(2 ^ 62) ≤ m ∧ m < 2 ^ 62 ∧ -(2 ^ 62) ≤ n ∧ n < 2 ^ 62)
    (hse : starEach [ma, na] X.env = [(false, eval ma X.env), (false, eval na X.env)] := by rfl) (hse2 : starEach [na] X.env = [(false, eval na X.env)] := by rfl) :
    EI X B ρ O tg (.Call (.Name "range" p) [ma, na] [] p') (iRng2 (tA X.K B ρ O [.int m, .int n])) (fun _ => True) ((rangeL m n).map D.int) := ei_conv (ei_range2 hgl hm hi hn hse hse2) (rng_eq m n)
theorem ei_enumT {xs : List α} {ea : Expr} {elts : List Expr} {kk : Nat} {p p' tpos : Pos} (hgl : Gl X "enumerate") (hm : X.mg "enumerate" = none) (hi : EA X B ρ O [ea] [d]) (w : Vq (B.L ++ O) d (xs.map E)) (hse : starEach [ea] X.env = [(false, eval ea X.env)] := by rfl) :
    EI X B ρ O (.Tuple elts kk tpos) (.Call (.Name "enumerate" p) [ea] [] p') (iEnumT X.K (tA X.K B ρ O [d])) (fun O' => Vq (B.L ++ O') d (xs.map E)) ((enumL xs).map (dP2 D.int E)) := ei_conv (ei_enumQ hgl hm hi w hse) (enum_eq xs)
theorem ei_zipT {xs : List α} {ys : List β} {ea eb : Expr} {elts : List Expr} {kk : Nat} {p p' tpos : Pos} (hgl : Gl X "zip") (hm : X.mg "zip" = none) (hi : EA X B ρ O [ea, eb] [d1, d2]) (w1 : Vw (B.L ++ O) d1 (xs.map E)) (w2 : Vw (B.L ++ O) d2 (ys.map F))
    (hse : starEach [ea, eb] X.env = (false, eval ea X.env) :: starEach [eb] X.env := by rfl) (hpl : (backTo p' (starEach [eb] X.env)).any (·.1) = false := by rfl) :
    EI X B ρ O (.Tuple elts kk tpos) (.Call (.Name "zip" p) [ea, eb] [] p') (iZip X.K (tA X.K B ρ O [d1, d2])) (fun O' => Vw (B.L ++ O') d1 (xs.map E) ∧ Vw (B.L ++ O') d2 (ys.map F)) ((zipL xs ys).map (dP2 E F)) := ei_conv (ei_zip hgl hm hi w1 w2 hse hpl) (zip_eq xs ys)
theorem ei_chars {tg iter : Expr} {z : Str} (hi : EV X B ρ O iter (.str z)) : EI X B ρ O tg iter (iStr (tD X.K B ρ O (.str z))) (fun _ => True) ((charsL z).map eC) := ei_str hi
/-- a row's values, walked -/
theorem ei_row {tg iter : Expr} {r : Row} (hi : EV X B ρ O iter (dRow r)) : EI X B ρ O tg iter (iTup X.K (tD X.K B ρ O (dRow r))) (fun _ => True) ([r.1, r.2.1, r.2.2].map D.int) := ei_tup hi
/-! ### comprehensions, typed -/
theorem en_lcT {xs : List α} {h : α → D} {pr : α → Bool} {el : α → β} {elt iter tg : Expr} {ifs : List Expr} {scope : Scope} (own : List (Str × Nat)) {wi : TI} {G : Om → Prop} {g : TG} {sl : List Nat} {f}
    (hc : X.calm = true) (hN : X.N.Nodup) (hi : EI X B ρ O tg iter wi G (xs.map h)) (hG : G O) (ok : BlkOk X.N X.env.scope scope own)
    (hg : ∀ X', Blk X scope X' → EB X' tg g sl f) (hsl : ∀ j ∈ sl, j ∈ own.map (·.2))
    (hb : ∀ x ∈ xs, ∃ ρ', f (h x) (wipeD ρ (own.map (·.2))) = some ρ' ∧ (∀ X' B', B'.L = B.L → Blk X scope X' → ETs X' B' ρ' O ifs (pr x)) ∧ (pr x = true → ∀ X' B', B'.L = B.L → Blk X scope X' → EV X' B' ρ' O elt (F (el x))))
    (hz : xs.length < sizeLine) (hs : ∀ x, foldedSetIterable iter X.env x = pure x := by intro _; rfl) :
    EN X B ρ O (.ListComp elt [⟨tg, iter, ifs, 0⟩] scope pos) (((xs.filter pr).map el).map F) := by
  have := en_lcW (el := fun x => F (el x)) hc hN hi hG ok hg hsl hb hz hs (pos := pos)
  rwa [List.map_map]
theorem jc_setLc {A : γ → AE} {m : List β → Cmp γ} {xs : List α} {h : α → D} {pr : α → Bool} {el : α → β} {elt iter tg : Expr} {ifs : List Expr} {scope : Scope} (own : List (Str × Nat)) {wi : TI} {G : Om → Prop} {g : TG} {sl : List Nat} {f}
    (hc : X.calm = true) (hN : X.N.Nodup) (hi : EI X B ρ O tg iter wi G (xs.map h)) (hG : G O) (ok : BlkOk X.N X.env.scope scope own)
    (hg : ∀ X', Blk X scope X' → EB X' tg g sl f) (hsl : ∀ j ∈ sl, j ∈ own.map (·.2))
    (hb : ∀ x ∈ xs, ∃ ρ', f (h x) (wipeD ρ (own.map (·.2))) = some ρ' ∧ (∀ X' B', B'.L = B.L → Blk X scope X' → ETs X' B' ρ' O ifs (pr x)) ∧ (pr x = true → ∀ X' B', B'.L = B.L → Blk X scope X' → EV X' B' ρ' O elt (F (el x))))
    (hz : xs.length < sizeLine) (i : Nat) {y : Str} {py : Pos} (hy : X.N[i]? = some y) (hyl : X.env.scope.names.lookup y = some .local) (hsw : swapsWith (.ListComp elt [⟨tg, iter, ifs, 0⟩] scope pos') (some (.Name y py)) pos.line X.env = pure true)
    (hr : ∀ es, JC X B rest (ρ.set i (some (.lst (es.map F)))) O A (m es)) (hs : ∀ x, foldedSetIterable iter X.env x = pure x := by intro _; rfl) :
    JC X B (.Assign [.Name y py] (.ListComp elt [⟨tg, iter, ifs, 0⟩] scope pos') pos :: rest) ρ O A (.bnd ((xs.filter pr).map el) m) := fun ok' =>
  j_cons (j_setLc (el := fun x => F (el x)) hc hN hi hG ok hg hsl hb hz hy hyl hsw (es := (((xs.filter pr).map el).map F)) (by rw [List.map_map]; rfl) (hr _ ok') hs)
/-- .. a list that will be changed -/
theorem jc_setLcN {A : γ → AE} {m : List β → Cmp γ} {xs : List α} {h : α → D} {pr : α → Bool} {el : α → β} {elt iter tg : Expr} {ifs : List Expr} {scope : Scope} (own : List (Str × Nat)) {wi : TI} {G : Om → Prop} {g : TG} {sl : List Nat} {f}
    (hc : X.calm = true) (hN : X.N.Nodup) (hi : EI X B ρ O tg iter wi G (xs.map h)) (hG : G O) (ok : BlkOk X.N X.env.scope scope own)
    (hg : ∀ X', Blk X scope X' → EB X' tg g sl f) (hsl : ∀ j ∈ sl, j ∈ own.map (·.2))
    (hb : ∀ x ∈ xs, ∃ ρ', f (h x) (wipeD ρ (own.map (·.2))) = some ρ' ∧ (∀ X' B', B'.L = B.L → Blk X scope X' → ETs X' B' ρ' O ifs (pr x)) ∧ (pr x = true → ∀ X' B', B'.L = B.L → Blk X scope X' → EV X' B' ρ' O elt (F (el x))))
    (hz : xs.length < sizeLine) (i : Nat) {y : Str} {py : Pos} (hy : X.N[i]? = some y) (hyl : X.env.scope.names.lookup y = some .local) (hsw : swapsWith (.ListComp elt [⟨tg, iter, ifs, 0⟩] scope pos') (some (.Name y py)) pos.line X.env = pure true)
    (hr : ∀ q es, has O q = false → JC X B rest (ρ.set i (some (.rf q))) ((q, .lst (es.map F)) :: O) A (m es)) (hs : ∀ x, foldedSetIterable iter X.env x = pure x := by intro _; rfl) :
    JC X B (.Assign [.Name y py] (.ListComp elt [⟨tg, iter, ifs, 0⟩] scope pos') pos :: rest) ρ O A (.bnd ((xs.filter pr).map el) m) := fun ok' => by
  refine j_cons ?_
  refine ps_imp (ps_setLc (own := own) (g := g) (tt := tAnyTs (Blk X scope) ifs) (te := tAnyE (Blk X scope) elt) hc hN hy hyl hsw hi.pi ok (fun s H C cl fp => (hg _ ⟨s, H, C, cl, fp, rfl⟩).pg) (fun s H C cl fp => anyTs_ok ⟨s, H, C, cl, fp, rfl⟩) (fun s H C cl fp => anyE_ok ⟨s, H, C, cl, fp, rfl⟩) hs) fun Dn σ H ⟨st, p⟩ => lcW_imp (el := fun x => F (el x)) hc hN hi hG ok hg hsl hb hz σ H _ ⟨st, fun q H1 vs hp e1 hv r => ?_⟩
  have op := st.m.newO hp
  have vs1 : Same (vis B.F O H) (vis B.F ((q, .lst (((xs.filter pr).map el).map F)) :: O) H1) := fun a o h => by
    obtain ⟨h1, h2, h3⟩ := vis_some.mp h
    have ne : a ≠ q := ne_of_none h3 hp
    exact vis_some.mpr ⟨h1, by rw [has_cons, h2, Bool.or_false]; exact beq_eq_false_iff_ne.mpr (Ne.symm ne), e1 _ _ h3⟩
  have r' : RpL X.K (vis B.F ((q, .lst (((xs.filter pr).map el).map F)) :: O) H1) vs (((xs.filter pr).map el).map F) := by
    rw [List.map_map] at *
    exact r
  refine p.nx _ _ _ H1 (hr q ((xs.filter pr).map el) op ok') ⟨⟨fun a o hb => ?_, fun a m hm => ?_, ?_, fun a m hm => (st.m.lent a m hm).mono vs1 fun o q => e1 _ _ q⟩, ?_⟩ vs1
  · have := st.m.base a o hb
    have ne : a ≠ q := ne_of_none this.1 hp
    exact ⟨e1 _ _ this.1, by rw [has_cons, this.2, Bool.or_false]; exact beq_eq_false_iff_ne.mpr (Ne.symm ne)⟩
  · rcases List.mem_cons.mp hm with z | z
    · cases z; exact ⟨vs, hv, r'⟩
    · exact (st.m.mem a m z).mono vs1 fun o q => e1 _ _ q
  · rw [List.map_cons, List.nodup_cons]
    refine ⟨fun z => ?_, st.m.nd⟩
    obtain ⟨⟨a, m⟩, hm, ea⟩ := List.mem_map.mp z
    have : has O q = true := has_mem.mpr ⟨m, by have z : a = q := ea; rw [← z]; exact hm⟩
    rw [op] at this; cases this
  · exact (st.env.mono vs1).set (.rf q)
/-! ### lists and tuples put together -/
theorem rdN {r : R2} {op : Operator} (ho : OpR X (binaryOp op) r) (ha : EV X B ρ O a d1) (hb : EV X B ρ O b d2)
    (hr : ∀ (x y : V) (H : Hp) (Q : VK), MOk X.K B O H → Rp X.K (vis B.F O H) x d1 → Rp X.K (vis B.F O H) y d2 → (∀ q H' vs, H q = none → Same H H' → H' q = some (.lst vs) → RpL X.K (vis B.F ((q, .lst ds) :: O) H') vs ds → Q (.ref q) H') → r x y H Q) :
    EN X B ρ O (.BinOp a op b pos) ds := pe_imp (pe_op ho ha hb) fun σ H Q ⟨st, k⟩ => ⟨st, fun x H1 e1 r1 => ⟨st.same e1, fun y H2 e2 r2 => hr x y H2 Q ((st.same e1).same e2).m (r1.mono (vis_same e2)) r2 fun q H3 vs hq e3 hv r => k q H3 vs (e1.free (e2.free hq)) ((e1.trans e2).trans e3) hv r⟩⟩
theorem en_cat {xs ys : List α} (ha : EV X B ρ O a d1) (hb : EV X B ρ O b d2) (w1 : Vs (B.L ++ O) d1 (xs.map E)) (w2 : Vs (B.L ++ O) d2 (ys.map E)) (hz : xs.length + ys.length ≤ sizeLine) : EN X B ρ O (.BinOp a .Add b pos) ((xs ++ ys).map E) :=
  rdN op_cat ha hb fun x y H Q m r1 r2 k => by
    obtain ⟨q1, v1, e1, h1, l1⟩ := w1.at m r1
    obtain ⟨q2, v2, e2, h2, l2⟩ := w2.at m r2
    have la := l1.length
    have lb := l2.length
    rw [List.length_map] at la lb
    refine ⟨q1, q2, v1, v2, e1, e2, h1, h2, by omega, ?_⟩
    rw [List.map_append] at k
    exact new_same m (l1.append l2) k
theorem flat_rep {K : PySem.W.Frag} {H : Hp} {vs : List V} {ds : List D} (r : RpL K H vs ds) : ∀ n : Nat, RpL K H (List.replicate n vs).flatten (List.replicate n ds).flatten
  | 0 => .nil
  | n + 1 => by
    rw [List.replicate_succ, List.replicate_succ, List.flatten_cons, List.flatten_cons]
    exact r.append (flat_rep r n)
theorem en_rep {xs : List α} {n : Int} (ha : EV X B ρ O a d1) (hb : EV X B ρ O b (.int n)) (w1 : Vs (B.L ++ O) d1 (xs.map E)) (h1 : -(2 ^ 63) ≤ n ∧ n < 2 ^ 63) (hz : xs.length * n.toNat ≤ sizeLine) : EN X B ρ O (.BinOp a .Mult b pos) ((List.replicate n.toNat xs).flatten.map E) :=
  rdN op_rep ha hb fun x y H Q m r1 r2 k => by
    obtain ⟨q1, v1, e1, hh, l1⟩ := w1.at m r1
    cases r2
    have la := l1.length
    rw [List.length_map] at la
    refine ⟨q1, n, v1, e1, rfl, hh, h1.1, h1.2, by rw [la]; exact hz, ?_⟩
    have e : (List.replicate n.toNat xs).flatten.map E = (List.replicate n.toNat (xs.map E)).flatten := by
      rw [List.map_flatten, List.map_replicate]
    rw [e] at k
    exact new_same m (flat_rep l1 _) k
theorem rd_catT {xs ys : List D} (hz : xs.length + ys.length ≤ sizeLine) : RD X.K B O (rCatA X.K) (.tup xs) (.tup ys) (.tup (xs ++ ys)) := fun x y H Q m r1 r2 k => by
  cases r1 with
  | @tup q1 v1 _ h1 l1 =>
  cases r2 with
  | @tup q2 v2 _ h2 l2 =>
  have la := l1.length
  have lb := l2.length
  refine ⟨q1, q2, v1, v2, rfl, rfl, same_t vis_le h1, same_t vis_le h2, by omega, fun hn => ?_, fun hn hm => ?_, fun hn hm q hq => ?_⟩
  · subst hn
    cases l1
    exact k _ H (Same.refl H) (.tup h2 l2)
  · subst hm
    cases l2
    rw [List.append_nil] at k
    exact k _ H (Same.refl H) (.tup h1 l1)
  · exact k _ _ (same_new hq) (.tup (.inl (.inl (m.visNew hq))) ((l1.append l2).mono (vis_same (same_new hq))))
theorem ev_catT {xs ys : List D} (ha : EV X B ρ O a (.tup xs)) (hb : EV X B ρ O b (.tup ys)) (hz : xs.length + ys.length ≤ sizeLine) : EV X B ρ O (.BinOp a .Add b pos) (.tup (xs ++ ys)) := ev_op op_catA (rd_catT hz) ha hb
theorem ev_catU {xs ys : List α} (ha : EV X B ρ O a (dU E xs)) (hb : EV X B ρ O b (dU E ys)) (hz : xs.length + ys.length ≤ sizeLine) : EV X B ρ O (.BinOp a .Add b pos) (dU E (xs ++ ys)) := by
  have := ev_catT (pos := pos) ha hb (by rw [List.length_map, List.length_map]; exact hz)
  rwa [← List.map_append] at this
/-! ### in, of data at any depth -/
theorem any_eqv [DecidableEq α] {P : α → Prop} {n : Nat} {g : α → PyData} (h : EqOk E P n g) (x : α) (xs : List α) : ((xs.map g).any fun z => PyData.eqv z (g x)) = decide (x ∈ xs) := by
  induction xs with
  | nil => rfl
  | cons y ys ih =>
    rw [List.map_cons, List.any_cons, ih, h.eqv, Bool.eq_iff_iff]
    simp only [Bool.or_eq_true, decide_eq_true_eq, List.mem_cons]
    exact or_congr ⟨Eq.symm, Eq.symm⟩ Iff.rfl
theorem rd_inG {K : PySem.W.Frag} [DecidableEq α] {P : α → Prop} {n : Nat} {g : α → PyData} {x : α} {xs : List α} (h : EqOk E P n g) (hn : n ≤ 63) (w2 : Vd (B.L ++ O) d2 (.lst (xs.map E))) (h1 : P x) (h2 : ∀ y ∈ xs, P y) : RD K B O (rInD K) (E x) d2 (.bl (decide (x ∈ xs))) := fun u v H Q m r1 r2 k =>
  ⟨g x, xs.map g, (h.py x).dp vis_le r1, w2.dp m r2 (.lst (h.pyL xs)), shaped_of (h.lay x h1) (h.dep x) (by omega), shaped_of (n := n + 1) (h.lst.lay xs h2) (h.lst.dep xs) (by omega), by rw [any_eqv h]; exact k _ H (Same.refl H) (.bl _)⟩
theorem rd_notinG {K : PySem.W.Frag} [DecidableEq α] {P : α → Prop} {n : Nat} {g : α → PyData} {x : α} {xs : List α} (h : EqOk E P n g) (hn : n ≤ 63) (w2 : Vd (B.L ++ O) d2 (.lst (xs.map E))) (h1 : P x) (h2 : ∀ y ∈ xs, P y) : RD K B O (rNotInD K) (E x) d2 (.bl (!decide (x ∈ xs))) := fun u v H Q m r1 r2 k =>
  ⟨g x, xs.map g, (h.py x).dp vis_le r1, w2.dp m r2 (.lst (h.pyL xs)), shaped_of (h.lay x h1) (h.dep x) (by omega), shaped_of (n := n + 1) (h.lst.lay xs h2) (h.lst.dep xs) (by omega), by rw [any_eqv h]; exact k _ H (Same.refl H) (.bl _)⟩
theorem vdI : Vd O d d := .inl rfl
theorem vdM {q : Addr} (h : (q, M.lst ds) ∈ O) : Vd (B.L ++ O) (.rf q) (.lst ds) := .inr ⟨q, ds, rfl, List.mem_append_right _ h, rfl⟩
theorem vdL (h : Vs B.L d ds) : Vd (B.L ++ O) d (.lst ds) := by
  rcases h with h | ⟨q, h, m⟩
  · exact .inl h
  · exact .inr ⟨q, ds, h, List.mem_append_left _ m, rfl⟩
theorem EqOk.bl : EqOk D.bl (fun _ => True) 0 PyData.bool := ⟨fun x => .bl x, fun x _ => by simp [PyData.canLay0], fun x => by simp [PyData.depth], fun x y => by rw [Bool.eq_iff_iff]; simp [PyData.eqv]⟩
theorem EqOk.p2 [DecidableEq α] [DecidableEq β] {P : α → Prop} {P' : β → Prop} {n n' : Nat} {g : α → PyData} {g' : β → PyData} (h : EqOk E P n g) (h' : EqOk F P' n' g') : EqOk (dP2 E F) (fun p => P p.1 ∧ P' p.2) (max n n' + 1) (fun p => PyData.tuple [g p.1, g' p.2]) :=
  ⟨fun p => .tup (.cons (h.py _) (.cons (h'.py _) .nil)), fun p q => by simp only [PyData.canLay0, PyData.canLayAll0, h.lay _ q.1, h'.lay _ q.2, Bool.and_self], fun p => by
    have h1 := h.dep p.1
    have h2 := h'.dep p.2
    simp only [PyData.depth, PyData.depthAll]
    omega, fun p q => by
    simp only [PyData.eqv, PyData.eqvAll, h.eqv, h'.eqv]
    rw [Bool.eq_iff_iff]
    simp only [Bool.and_eq_true, decide_eq_true_eq, and_true]
    exact Prod.ext_iff.symm⟩
theorem EqOk.p3 {γ : Type} {G : γ → D} [DecidableEq α] [DecidableEq β] [DecidableEq γ] {P : α → Prop} {P' : β → Prop} {P'' : γ → Prop} {n n' n'' : Nat} {g : α → PyData} {g' : β → PyData} {g'' : γ → PyData} (h : EqOk E P n g) (h' : EqOk F P' n' g') (h'' : EqOk G P'' n'' g'') :
    EqOk (dP3 E F G) (fun p => P p.1 ∧ P' p.2.1 ∧ P'' p.2.2) (max n (max n' n'') + 1) (fun p => PyData.tuple [g p.1, g' p.2.1, g'' p.2.2]) :=
  ⟨fun p => .tup (.cons (h.py _) (.cons (h'.py _) (.cons (h''.py _) .nil))), fun p q => by simp only [PyData.canLay0, PyData.canLayAll0, h.lay _ q.1, h'.lay _ q.2.1, h''.lay _ q.2.2, Bool.and_self], fun p => by
    have h1 := h.dep p.1
    have h2 := h'.dep p.2.1
    have h3 := h''.dep p.2.2
    simp only [PyData.depth, PyData.depthAll]
    omega, fun p q => by
    simp only [PyData.eqv, PyData.eqvAll, h.eqv, h'.eqv, h''.eqv]
    rw [Bool.eq_iff_iff]
    simp only [Bool.and_eq_true, decide_eq_true_eq, and_true]
    rw [Prod.ext_iff, Prod.ext_iff]⟩
abbrev okRow : Row → Prop := fun p => True ∧ True ∧ True
theorem EqOk.row : EqOk dRow okRow 1 (fun p : Row => PyData.tuple [.int p.1, .int p.2.1, .int p.2.2]) := EqOk.p3 EqOk.int EqOk.int EqOk.int
theorem okR (r : Row) : okRow r := ⟨trivial, trivial, trivial⟩
theorem okRs (rs : List Row) : ∀ r ∈ rs, okRow r := fun r _ => okR r
/-! ### an optional value -/
theorem ev_some [Inhabited α] {v : Option α} (h : EV X B ρ O e (dO E v)) (hs : v.isSome = true) : EV X B ρ O e (E (v.getD default)) := by
  cases v with
  | none => cases hs
  | some y => exact h
theorem isNon_dO {v : Option α} (hE : ∀ y, isNonD (E y) = false) : isNonD (dO E v) = v.isNone := by
  cases v with
  | none => rfl
  | some y => exact hE y
theorem et_isN {v : Option α} {j : Pos} (h : EV X B ρ O e (dO E v)) (hE : ∀ y, isNonD (E y) = false) : ET X B ρ O (.Compare e [.Is] [.Constant .none kk j] pos) v.isNone := et_conv (et_cmp op_isN rd_isN h ev_non (nomark _)) (isNon_dO hE)
theorem et_notN {v : Option α} {j : Pos} (h : EV X B ρ O e (dO E v)) (hE : ∀ y, isNonD (E y) = false) : ET X B ρ O (.Compare e [.IsNot] [.Constant .none kk j] pos) (!v.isNone) := et_conv (et_cmp op_notN rd_notN h ev_non (nomark _)) (by rw [isNon_dO hE])
theorem ev_isN {v : Option α} {j : Pos} (h : EV X B ρ O e (dO E v)) (hE : ∀ y, isNonD (E y) = false) : EV X B ρ O (.Compare e [.Is] [.Constant .none kk j] pos) (.bl v.isNone) := ev_conv (ev_cmp op_isN rd_isN h ev_non (nomark _)) (by rw [isNon_dO hE])
theorem ev_notN {v : Option α} {j : Pos} (h : EV X B ρ O e (dO E v)) (hE : ∀ y, isNonD (E y) = false) : EV X B ρ O (.Compare e [.IsNot] [.Constant .none kk j] pos) (.bl (!v.isNone)) := ev_conv (ev_cmp op_notN rd_notN h ev_non (nomark _)) (by rw [isNon_dO hE])
/-! ### texts -/
theorem rc_intD {z : Str} {K : PySem.W.Frag} (h : IntOk z) : RC K B O (fun xs H Q => ∃ a n, xs = [.str a] ∧ PySem.intText? a = some n ∧ a.length ≤ 640 ∧ Q (.int n) H) [.str z] (.int (intD z)) := by
  obtain ⟨h1, h2⟩ := h
  obtain ⟨n, hn⟩ := Option.isSome_iff_exists.mp h1
  have : intD z = n := by unfold intD; rw [hn]; rfl
  rw [this]
  exact rc_intS hn h2
theorem rd_inStr {K : PySem.W.Frag} {i j : Str} : RD K B O (fun x y H Q => ∃ i j, x = .str i ∧ y = .str j ∧ Q (.bl (!(Builtin.Str.occurrences j i 0 j.length 1).isEmpty)) H) (.str i) (.str j) (.bl (!(Builtin.Str.occurrences j i 0 j.length 1).isEmpty)) := fun x y H Q m r1 r2 k => by
  cases r1; cases r2
  exact ⟨i, j, rfl, rfl, k _ H (Same.refl H) (.bl _)⟩
theorem rd_notinStr {K : PySem.W.Frag} {i j : Str} : RD K B O (fun x y H Q => ∃ i j, x = .str i ∧ y = .str j ∧ Q (.bl (!(!(Builtin.Str.occurrences j i 0 j.length 1).isEmpty))) H) (.str i) (.str j) (.bl (!(!(Builtin.Str.occurrences j i 0 j.length 1).isEmpty))) := fun x y H Q m r1 r2 k => by
  cases r1; cases r2
  exact ⟨i, j, rfl, rfl, k _ H (Same.refl H) (.bl _)⟩
end
end DL

set_option Elab.async false
set_option linter.all false
set_option maxRecDepth 100000
set_option maxHeartbeats 2000000
namespace DL
open PySem PySem.Spec PyProof.Rows L2
section
variable {X : Cx} {B : Gd} {ρ ρ' : List (Option D)} {O O' O1 O2 : Om} {a b c e o : Expr} {es : List Expr} {d d1 d2 d3 : D} {ds : List D} {pos pos' p apos : Pos} {b1 b2 : Bool} {st : Stmt} {ss rest s1 s2 body : List Stmt} {x : Str} {k kk : Nat}
variable {α β γ : Type} {E : α → D} {F : β → D} {A : γ → AE}
theorem wk_nn {r r' : List (Option D)} (h : Wk r r') : Wk (none :: r) (none :: r') := wk_none h
theorem ev_ifG {x y : α} (hc : ET X B ρ O c b1) (ha : b1 = true → EV X B ρ O a (E x)) (hb : b1 = false → EV X B ρ O b (E y)) : EV X B ρ O (.IfExp c a b pos) (E (if b1 = true then x else y)) := by
  cases b1 with
  | true => exact ev_if hc ha (fun h => nomatch h)
  | false => exact ev_if hc (fun h => nomatch h) hb
theorem atS2 {z : Str} {i : Int} (h : 0 ≤ i ∧ i < (z.length : Int)) : atI z.cps.toList i = some (ixS z i) := atS h.1 h.2
theorem dt_vs (h : Vs (B.L ++ O) d ds) : DT (B.L ++ O) d "list" := by
  rcases h with rfl | ⟨a, rfl, h⟩
  · exact .lst
  · exact .mlst h
theorem rc_intB {b : Bool} {K : PySem.W.Frag} : RC K B O (fun xs H Q => (∃ i, xs = [.int i] ∧ Q (.int i) H) ∨ ∃ k, xs = [.bl k] ∧ Q (.int (if k then 1 else 0)) H) [.bl b] (.int (if b = true then 1 else 0)) := fun xs H Q m r k => by
  cases r with
  | cons h r => cases r; cases h; exact .inr ⟨b, rfl, k _ H (Same.refl H) (.int _)⟩
/-! ### written dicts, typed -/
theorem et_inDT {f : Str → Option α} {q : Addr} {z : Str} (D : KDi X.K X.w q (fun z => (f z).map E)) (ha : EV X B ρ O a (.str z)) (hb : EV X B ρ O b (.rf q)) (hm : behindInMarks .In b = false) : ET X B ρ O (.Compare a [.In] [b] pos) (f z).isSome := et_conv (et_inD D ha hb hm) (by simp)
theorem et_notinDT {f : Str → Option α} {q : Addr} {z : Str} (D : KDi X.K X.w q (fun z => (f z).map E)) (ha : EV X B ρ O a (.str z)) (hb : EV X B ρ O b (.rf q)) (hm : behindInMarks .NotIn b = false) : ET X B ρ O (.Compare a [.NotIn] [b] pos) (!(f z).isSome) := et_conv (et_notinD D ha hb hm) (by simp)
theorem ev_itemDT [Inhabited α] {f : Str → Option α} {q : Addr} {z : Str} (D : KDi X.K X.w q (fun z => (f z).map E)) (ha : EV X B ρ O a (.rf q)) (hb : EV X B ρ O b (.str z)) (h : (f z).isSome = true) (hs : PlainIx b := by intro _ _; rfl) : EV X B ρ O (.Subscript a b pos) (E ((f z).getD default)) := by
  refine ev_itemD D ha hb ?_ hs
  cases hf : f z with
  | none => rw [hf] at h; cases h
  | some y => simp
theorem ev_getDT {f : Str → Option α} {q : Addr} {z : Str} {e1 e2 : Expr} {y : α} (D : KDi X.K X.w q (fun z => (f z).map E)) (ho : EV X B ρ O o (.rf q)) (he : EV X B ρ O e1 (.str z)) (hf : EV X B ρ O e2 (E y)) (m : M2 X o "get" apos e1 e2 pos := by exact ⟨rfl, rfl, rfl, rfl⟩) : EV X B ρ O (.Call (.Attribute o "get" apos) [e1, e2] [] pos) (E ((f z).getD y)) :=
  ev_conv (ev_getD D ho he hf m) (by cases f z <;> rfl)
/-! ### pop -/
theorem map_lastL [Inhabited α] {xs : List α} (h : 0 < xs.length) : (xs.map E)[(xs.map E).length - 1]? = some (E (lastL xs)) := by
  obtain ⟨ys, y, rfl⟩ : ∃ ys y, xs = ys ++ [y] := by
    rcases List.eq_nil_or_concat xs with e | ⟨ys, y, e⟩
    · subst e; simp at h
    · exact ⟨ys, y, by simpa using e⟩
  unfold lastL
  rw [List.getLastD_concat, List.length_map, List.length_append, List.length_singleton, List.map_append, Nat.add_sub_cancel]
  rw [List.getElem?_append_right (by simp)]
  simp
theorem eg_popT [Inhabited α] {q : Addr} {xs : List α} {O2 : List α → Om} (ho : EV X B ρ O o (.rf q)) (h0 : 0 < xs.length) (hp : ∀ ys : List α, Put O q (.lst (xs.map E)) (.lst (ys.map E)) (O2 ys))
    (hbase : attributeBase o "pop" X.env (eval o X.env) = eval o X.env := by rfl) (hline : (apos.endLine == pos.line) = true := by rfl) : EG X B ρ O (.Call (.Attribute o "pop" apos) [] [] pos) (E (lastL xs)) (O2 xs.dropLast) :=
  eg_pop ho (map_lastL h0) (by have := hp xs.dropLast; rw [List.map_dropLast] at this; exact this) hbase hline
theorem jc_pop [Inhabited α] (i : Nat) {q : Addr} {xs : List α} {m : α → List α → Cmp γ} {O2 : List α → Om} (nd : X.N.Nodup) (ho : EV X B ρ O o (.rf q)) (hp : ∀ ys : List α, Put O q (.lst (xs.map E)) (.lst (ys.map E)) (O2 ys)) (h0 : 0 < xs.length)
    (h : ∀ y ys, JC X B rest (ρ.set i (some (E y))) (O2 ys) A (m y ys)) (hbase : attributeBase o "pop" X.env (eval o X.env) = eval o X.env := by rfl) (hline : (apos.endLine == pos.line) = true := by rfl)
    (hi : X.N[i]? = some x := by rfl) (hx : Loc X.env.scope x := by first | exact .inl rfl | exact .inr rfl) (hs : swapsWith (.Call (.Attribute o "pop" apos) [] [] pos) (some (.Name x pos')) p.line X.env = pure false := by rfl)
    (hf : X.fn x = true ∨ X.env.scope.names.lookup x = some .local := by first | exact .inr rfl | exact .inl rfl) : JC X B (.Assign [.Name x pos'] (.Call (.Attribute o "pop" apos) [] [] pos) p :: rest) ρ O A (.bnd (lastL xs) fun y => .bnd xs.dropLast fun ys => m y ys) := fun ok =>
  j_cons (ssetG i nd (eg_popT ho h0 hp hbase hline) (h _ _ ok) hi hx hs hf)
theorem jc_appendG {q : Addr} {v : α} {ys0 xs : List α} {m : List α → Cmp γ} {O1 : Om} {O2 : List α → Om} (ho : EV X B ρ O o (.rf q)) (hm : (q, M.lst (ys0.map E)) ∈ O) (he : EG X B ρ O e (E v) O1) (hp : ∀ ys : List α, Put O1 q (.lst (xs.map E)) (.lst (ys.map E)) (O2 ys)) (hz : xs.length < sizeLine) (h : ∀ ys, JC X B rest ρ (O2 ys) A (m ys))
    (hbase : attributeBase o "append" X.env (eval o X.env) = eval o X.env := by rfl)
    (hfew : ((backTo pos (starEach [e] X.env)).all (fun x => !x.1) && (backToKw pos (keywordEach [] X.env)).all (fun x => x.1.isSome)
      && decide ([e].length + ([] : List Keyword).length + (if ([] : List Keyword).isEmpty then 0 else 1) < 30)) = true := by rfl)
    (hline : (apos.endLine == pos.line) = true := by rfl) (hs : starEach [e] X.env = (false, eval e X.env) :: starEach [] X.env := by rfl) (hplain : (backTo pos (starEach [] X.env)).any (·.1) = false := by rfl)
    (hsw : swapsWith (.Call (.Attribute o "append" apos) [e] [] pos) none pos'.line X.env = pure false := by rfl) :
    JC X B (.Expr (.Call (.Attribute o "append" apos) [e] [] pos) pos' :: rest) ρ O A (.bnd (xs ++ [v]) m) := fun ok =>
  j_cons (j_expr (eg_append (d := E v) (ds := xs.map E) ho hm he (by have := hp (xs ++ [v]); rw [List.map_append] at this; exact this) (by rw [List.length_map]; exact hz) hbase hfew hline hs hplain) (h _ ok) hsw)
/-! ### self.f = e, in an __init__ -/
theorem jc_fldNew {C : Addr} {q : Addr} {ns : List Str} {f : Str} {v : α} {m : α → Cmp γ} {O2 : α → Om} (ho : EV X B ρ O o (.rf q)) (he : EV X B ρ O e (E v)) (c : Cls X.K C) (n : NoAttr X.K C f) (hp : ∀ y, Put O q (.ins C ns ds) (.ins C (ns ++ [f]) (ds ++ [E y])) (O2 y)) (hi : ns.idxOf? f = none) (hl : ns.length < 1000)
    (h : ∀ y, JC X B rest ρ (O2 y) A (m y)) (hs : swapsWith e (some (.Attribute o f pos')) pos.line X.env = pure false := by rfl) : JC X B (.Assign [.Attribute o f pos'] e pos :: rest) ρ O A (.bnd v m) := fun ok =>
  j_cons (j_fldNew ho he c n (hp v) hi hl (h v ok) hs)
theorem ev_globS {t : Str} (hg : Gl X x) (hm : ∃ tk, X.mg x = some (.str t tk)) (hd : (x == ("__debug__" : Str)) = false := by decide) : EV X B ρ O (.Name x pos) (.str t) := by
  obtain ⟨tk, hm⟩ := hm
  exact ev_glob (v := .str t) hg hm ⟨_, rfl⟩ (fun _ => .str _) hd
/-! ### a new list handed back -/
theorem j_retNew {A : AE} (he : EN X B ρ O e ds) (h : ∀ q, has O q = false → A.rt (.rf q) ((q, .lst ds) :: O)) : J1 X B (.Return (some e) pos) ρ O A :=
  ps_imp (ps_ret he) fun Dn σ H ⟨st, pp⟩ => ⟨st, fun q H1 vs hp e1 hv r => by
    have op := st.m.newO hp
    have vs1 : Same (vis B.F O H) (vis B.F ((q, .lst ds) :: O) H1) := fun a o h => by
      obtain ⟨h1, h2, h3⟩ := vis_some.mp h
      have ne : a ≠ q := ne_of_none h3 hp
      exact vis_some.mpr ⟨h1, by rw [has_cons, h2, Bool.or_false]; exact beq_eq_false_iff_ne.mpr (Ne.symm ne), e1 _ _ h3⟩
    refine pp.rt _ _ _ H1 (h q op) ⟨fun a o hb => ?_, fun a m hm => ?_, ?_, fun a m hm => (st.m.lent a m hm).mono vs1 fun o q => e1 _ _ q⟩ (.rf q)
    · have := st.m.base a o hb
      have ne : a ≠ q := ne_of_none this.1 hp
      exact ⟨e1 _ _ this.1, by rw [has_cons, this.2, Bool.or_false]; exact beq_eq_false_iff_ne.mpr (Ne.symm ne)⟩
    · rcases List.mem_cons.mp hm with z | z
      · cases z; exact ⟨vs, hv, r⟩
      · exact (st.m.mem a m z).mono vs1 fun o q => e1 _ _ q
    · rw [List.map_cons, List.nodup_cons]
      refine ⟨fun z => ?_, st.m.nd⟩
      obtain ⟨⟨a, m⟩, hm, ea⟩ := List.mem_map.mp z
      have : has O q = true := has_mem.mpr ⟨m, by have z : a = q := ea; rw [← z]; exact hm⟩
      rw [op] at this; cases this⟩
theorem jc_retEN {v : List α} {w : γ} (he : EN X B ρ O e (v.map E)) (h : ∀ q, (A w).rt (.rf q) ((q, .lst (v.map E)) :: O)) : JC X B (.Return (some e) pos :: rest) ρ O A (.ret w) := fun _ => j_cons (j_retNew he fun q _ => h q)
end
/-! ### a def keeps its promise -/
section
variable {P : Program} {w : World} {K : PySem.W.Frag} {mg : Str → Option Value} {base : Heap}
theorem fn_pureV {Ar : Om → List D → D → Prop} {x qual : Str} {st : Stmt} {f : Addr} {fd : FuncData} {N ps : List Str} {k : Nat} (F : Fun K x qual st f fd) (S : FnScope N ps (defScope st)) (len : ∀ L ds d, Ar L ds d → ds.length = ps.length)
    (h : ∀ (cdv : Value) (A : Around) (outer : List Env) (s : Shared) (H : Hp) (E : XK) (B : Gd) (ds : List D) (d : D), Room k (A.deeper (envOfC qual (defScope st) s.heap.objs.size f cdv)) → Ar B.L ds d →
      J (cxOf CX0 P w K mg base N qual (defScope st) f cdv A outer s H E).nox B (defBody st) (startD N ds) [] { nx := fun _ O' => Frz O' .non d, rt := fun d' O' => Frz O' d' d }) : FnOk P w K mg base CX0 (k + 1) f fd ps (spP K Ar) := by
  refine F.ok S (fun vs H Q E q => ?_) (fun cdv A outer s H vs Q E hr q => ?_)
  · obtain ⟨F', L, ds, d, _, r, ha, _⟩ := q
    rw [r.length]; exact len L ds d ha
  · obtain ⟨F', L, ds, d, bo, r, ha, kk⟩ := q
    refine ⟨_, h cdv A outer s H E ⟨F', H, fun c d _ H => E c d H, L, bo.ok, bo.lF⟩ ds d hr ha, ⟨⟨fun a o e => ⟨e, rfl⟩, (fun a m hm => nomatch hm), (by simp), bo.lent⟩, start_env r⟩, ?_, ?_, fun _ _ _ _ z => z.elim, fun _ _ _ _ z => z.elim, fun _ _ _ _ _ _ _ _ _ z => z.elim⟩
    · intro ρ O σ H' fz s' _
      exact kk _ H' (fun a o q => (s'.m.base a o q).1) (Rp.frz vis_all s'.m.frz fz .non)
    · intro d' O' v H' fz m r'
      exact kk v H' (fun a o q => (m.base a o q).1) (Rp.frz vis_all m.frz fz r')
theorem fn_newV {Ar : Om → List D → List D → Prop} {x qual : Str} {st : Stmt} {f : Addr} {fd : FuncData} {N ps : List Str} {k : Nat} (F : Fun K x qual st f fd) (S : FnScope N ps (defScope st)) (len : ∀ L ds d, Ar L ds d → ds.length = ps.length)
    (h : ∀ (cdv : Value) (A : Around) (outer : List Env) (s : Shared) (H : Hp) (E : XK) (B : Gd) (ds : List D) (es : List D), Room k (A.deeper (envOfC qual (defScope st) s.heap.objs.size f cdv)) → Ar B.L ds es →
      J (cxOf CX0 P w K mg base N qual (defScope st) f cdv A outer s H E).nox B (defBody st) (startD N ds) [] { nx := fun _ O' => ∃ p, D.non = .rf p ∧ O' = [(p, .lst es)], rt := fun d' O' => ∃ p, d' = .rf p ∧ O' = [(p, .lst es)] }) : FnOk P w K mg base CX0 (k + 1) f fd ps (spN K Ar) :=
  fn_new F S len fun cdv A outer s H E B ds es hr ha => j_imp (h cdv A outer s H E B ds es hr ha) (fun _ _ ⟨_, z, _⟩ => nomatch z) (fun _ _ z => z) (fun _ _ z => z) (fun _ _ z => z) (fun _ _ _ _ _ z => z)
end
end DL

set_option Elab.async false
set_option linter.all false
set_option maxRecDepth 100000
set_option maxHeartbeats 2000000
namespace PySem
namespace ErX
open PySem.W PySem.Calls PyProof.Rows PySem.HandSPX
/-! ### the text of an error's __init__: super().__init__("..") and one field -/
def iArgs (n : Str) (p1 p2 : Pos) : Arguments := { posonlyargs := [], args := [{ arg := "self", annotation := none, pos := p1 }, { arg := n, annotation := none, pos := p2 }], vararg := none, kwonlyargs := [], kw_defaults := [], kwarg := none, defaults := [] }
def iBody (n msg : Str) (k : Nat) (q1 q2 q3 q4 q5 q6 q7 q8 q9 q10 : Pos) : List Stmt :=
  [.Expr (.Call (.Attribute (.Call (.Name "super" q1) [] [] q2) "__init__" q3) [.Constant (.str msg) k q4] [] q5) q6, .Assign [.Attribute (.Name "self" q7) n q8] (.Name n q9) q10]
def iScope (n : Str) : Scope := { kind := .function, names := [("self", .local), (n, .local), ("__class__", .free), ("super", .globalImplicit)], isGenerator := false, isCoroutine := false, more := [] }
/-- a method's call goes the plain way (the places in the text decide) -/
def PlainM (o : Expr) (name : Str) (apos pos : Pos) (args : List Expr) : Prop := ∃ pl : Env → Sem Bool, ∀ env : Env, eval (.Call (.Attribute o name apos) args [] pos) env = (do
  let ov ← attributeBase o name env (eval o env)
  standAt apos.atName
  let (f, first) ← holding [ov] (getMethod ov name (pl env))
  callWith pos f first (backTo pos (starEach args env)) [])
/-- what the written part says of an error's class, at C, and of its __init__, at fI -/
structure ErrT (prog : Program) (K : Frag) (mg : Str → Option Value) (C fI : Addr) (n : Str) : Prop where
  cls : ∃ nm q N bs bm sn sub ab col dd k0 k1 k2 k3 k5, K.lookup C = some (excClassObj nm q C N bs bm true sn sub ab col dd k0 k1 k2 k3 k5 "ValueError.__new__") ∧ refsVE bm = true
  sa : findIn K (.ref C) "__setattr__" = some (some (.builtin "object.__setattr__"))
  ga : findIn K (.ref C) "__getattribute__" = some (some (.builtin "BaseException.__getattribute__"))
  gg : findIn K (.ref C) "__getattr__" = some none
  noN : findIn K (.ref C) n = some none
  iC : findIn K (.ref C) "__init__" = some (some (.ref fI))
  tC : typeIn K (.ref fI) = some (.type "function")
  kC : keepIn K (.ref C) = true
  exC : subIn K (.ref C) (.type "BaseException") = some true
  tyC : typeIn K (.ref C) = some (.type "type")
  hdC : hasDictIn K C = true
  subC : mroIn K C (.ref C) = some true
  sup : ks_superIn K C C "__init__" = some (some (.builtin "ValueError.__init__"))
  isB : subIn K (.ref C) (.type "ValueError") = some true
  stat : nsIn K cStatics "thirdparty.any" = some none
  gS : mg "super" = none
  top : (prog.main.scope.names.lookup ("super" : Str)).isSome = false
  lkS : (iScope n).names.lookup ("super" : Str) = some .globalImplicit
  lkC : (iScope n).names.lookup ("__class__" : Str) = some .free
  lkN : (iScope n).names.lookup n = some .local
  ndn : (n == ("__debug__" : Str)) = false
  nse : (n == ("self" : Str)) = false
  fn : ∃ (oc : Value) (od : Option Addr) (dV kV doc pm : Value) (an : Option Addr) (ct : Value) (osl : Array (Option Value)) (cda cc : Addr) (p1 p2 q1 q2 q3 q4 q5 q6 q7 q8 q9 q10 : Pos) (msg qual : Str) (k : Nat) (ccl cl : Value) (cdd cld : Option Addr) (vs ccs csl : Array (Option Value)) (fs : Array Value) (file : Str) (tf : Tok),
    K.lookup fI = some ⟨oc, od, .func (fnX "__init__" qual (iArgs n p1 p2) (iBody n msg k q1 q2 q3 q4 q5 q6 q7 q8 q9 q10) (iScope n) [("__class__", cc)] dV kV doc pm an (.ref cda) ct), osl⟩ ∧ codeIn K (.ref cda) qual = true ∧
    K.lookup cda = some ⟨ccl, cdd, .fields fs, ccs⟩ ∧ fs[2]? = some (.str file tf) ∧ ((prog.main.file : Str) == file) = true ∧ K.lookup cc = some ⟨cl, cld, .cell (some (.ref C)), csl⟩ ∧
    (∀ (s : Shared) (x v : Value), BindsTo s (fnX "__init__" qual (iArgs n p1 p2) (iBody n msg k q1 q2 q3 q4 q5 q6 q7 q8 q9 q10) (iScope n) [("__class__", cc)] dV kV doc pm an (.ref cda) ct) ⟨[x, v], []⟩ [("self", x), (n, v)]) ∧
    PlainM (.Call (.Name "super" q1) [] [] q2) "__init__" q3 q5 [.Constant (.str msg) k q4]
/-- what __init__ leaves of a fresh error at x -/
structure InitDone (h h' : Heap) (x C dx t1 : Addr) (n : Str) (v : Value) : Prop where
  keep : ∀ b o, b ≠ x → h.get? b = some o → h'.get? b = some o
  obj : h'.get? x = some { cls := .ref C, dict := some dx, data := .fields #[.ref t1, .none, .none, .none, .bool false, .none] }
  dbig : h.objs.size ≤ dx
  dne : dx ≠ x
  ns : h'.Ns1 dx (fun y => if y = n then some v else none)
structure ErrMade (h h' : Heap) (e C d : Addr) (n : Str) (v : Value) : Prop where
  keep : ∀ b o, h.get? b = some o → h'.get? b = some o
  new : h.objs.size ≤ e
  obj : ∃ oe vs, h'.get? e = some oe ∧ oe.cls = .ref C ∧ oe.dict = some d ∧ oe.data = .fields vs ∧ vs[1]? = some .none
  dbig : h.objs.size ≤ d
  dne : d ≠ e
  ns : h'.Ns1 d (fun y => if y = n then some v else none)
section
variable {prog : Program} {w : World} {A : Around} {E : Value → Shared → Prop} {R : Result → Shared → Prop} {s : Shared} {K : Frag} {mg : Str → Option Value} {C fI : Addr} {n : Str} {base : Heap}
theorem name_here {M : Model} {env : Env} {m : Str → Option Value} {y : Str} {pos : Pos} {v : Value} {Q : Value → Shared → Prop} (hn : s.heap.Ns env.locals m) (hv : m y = some v) (hk : env.scope.kind = .function) (hl : env.kindOf y = some .local) (hd : (y == ("__debug__" : Str)) = false) (h : Q v s) :
    wpAny M A (eval (.Name y pos) env) Q E s := wpAny_Name (wpAny_loadName_local hk hl hn hv h) hd
/-- the bound ValueError.__init__ is called: the args are laid anew -/
theorem call_mw {u e t0 : Addr} {rest : List Value} {nm q : Str} {N : Addr} {bs bm : List Value} {sn : List Str} {sub : List Value} {ab : Bool} {col : Option Bool} {dd : Option Addr} {k0 k1 k2 k3 k5 : Option Value} {Q : Value → Shared → Prop}
    (hC : s.heap.get? C = some (excClassObj nm q C N bs bm true sn sub ab col dd k0 k1 k2 k3 k5 "ValueError.__new__")) (hu : s.heap.get? u = some (kxs_mw "ValueError.__init__" e)) (he : s.heap.get? e = some (excO C t0)) (hz : rest.length ≤ sizeLine)
    (hq : ∀ h' t1, (∀ b o, b ≠ e → s.heap.get? b = some o → h'.get? b = some o) → h'.get? e = some (excO C t1) → Q .none { s with heap := h' }) : wpAny (model prog w) A (call (.ref u) rest) Q E s := by
  obtain ⟨hh, g, d, tk, os⟩ := s
  refine wpAny_call (codeAny_of_tree ?_)
  show wpAny _ A.in1 (callAny (.ref u) ⟨rest, []⟩) _ _ _
  simp only [callAny]
  refine wpAny_bind (wpAny_load hu ?_)
  have t1 : (Value.type "method-wrapper" == Value.type "method" || Value.type "method-wrapper" == Value.type "builtin_function_or_method" || Value.type "method-wrapper" == Value.type "method-wrapper") = true := by decide
  simp only [kxs_mw, t1, if_true]
  refine KFB.if_so (by decide) ?_
  refine wpAny_bind (check_bound_init F.excBase_ValueError.toExcCallFacts hC he rfl ?_)
  refine wpAny_bind (wpAny_pure (wpAny_pure ?_))
  refine ⟨plainId_quiet F.excBase_ValueError.init.plain _, codeAny_builtin F.excBase_ValueError.initEntry ?_⟩
  exact exc_init_tree (cls := .ref C) (t0 := t0) (dv := none) (c2 := .none) (c3 := .none) (b4 := .bool false) he hz fun h' k e' _ => hq h' _ k e'
theorem err_init (T : ErrT prog K mg C fI n) (MO : L2.Mod K mg base) (kb : ∀ b o, base.get? b = some o → s.heap.get? b = some o) {x t0 : Addr} {v : Value} (X : K.In s.heap) (hx : s.heap.get? x = some (excO C t0)) (hnx : K.lookup x = none) (hroom : A.depth < recursionLimit)
    (hq : ∀ h' tk dx t1, InitDone s.heap h' x C dx t1 n v → R (.ok (.ret .none)) { s with heap := h', toks := tk }) : codeAny (model prog w) A (.call (.ref fI) ⟨[.ref x, v], []⟩) R s := by
  obtain ⟨oc, od, dV, kV, doc, pm, an, ct, osl, cda, cc, p1, p2, q1, q2, q3, q4, q5, q6, q7, q8, q9, q10, msg, qual, k, ccl, cl, cdd, cld, vs, ccs, csl, fs, file, tf, ho, hcd, hcda, hfs, hfile, hcell, hbind, pl, hpl⟩ := T.fn
  obtain ⟨nm, q, N, bs, bm, sn, sub, ab, col, dd, k0, k1, k2, k3, k5, hC, hbm⟩ := T.cls
  have hcl : clsIn K C = some { name := nm, bases := bs, mro := .ref C :: bm, ns := N, qualname := q, hasDict := true, slotNames := sn, subclasses := sub, abstract := ab, collection := col, hasDel := false } := by unfold clsIn; rw [hC] <;> rfl
  have lim : s.heap.NoLimit := MO.nolimit.keeps kb
  have lkSelf : (iScope n).names.lookup ("self" : Str) = some .local := rfl
  refine ks_codeAny_call_defAt (binds := [("self", .ref x), (n, v)]) hroom (X _ _ ho) rfl lim (codeRec_of X hcd) rfl (hbind _ _ _) ?_ ?_ (fun h₁ hns hk => ?_) rfl rfl rfl
  · intro y hy
    have hy' : y ∈ [(("self" : Str), NameKind.local), (n, .local), ("__class__", .free), ("super", .globalImplicit)] := hy
    simp only [List.mem_cons, List.not_mem_nil, or_false] at hy'
    rcases hy' with rfl | rfl | rfl | rfl <;> (intro z; cases z)
  · intro y hy
    simp only [List.mem_cons, List.not_mem_nil, or_false] at hy
    rcases hy with rfl | rfl
    · exact lkSelf
    · exact T.lkN
  have X₁ : K.In h₁ := X.keeps hk
  have hx₁ := hk _ _ hx
  have hxL : s.heap.objs.size ≠ x := Nat.ne_of_gt (Heap.lt_size hx)
  have vS : (fun y : Str => List.lookup y [(("self" : Str), Value.ref x), (n, v)].reverse) "self" = some (.ref x) := by
    show List.lookup ("self" : Str) [(n, v), (("self" : Str), Value.ref x)] = _
    have : (("self" : Str) == n) = false := by rw [Bool.beq_comm]; exact T.nse
    rw [List.lookup_cons, this]
    rfl
  have vN : (fun y : Str => List.lookup y [(("self" : Str), Value.ref x), (n, v)].reverse) n = some v := by
    show List.lookup n [(n, v), (("self" : Str), Value.ref x)] = _
    rw [List.lookup_cons, beq_self_eq_true]
  obtain ⟨mb, hb1, hb2⟩ := MO.blt
  have hD2 : (excClassObj nm q C N bs bm true sn sub ab col dd k0 k1 k2 k3 k5 "ValueError.__new__").data = .cls { name := nm, bases := bs, mro := .ref C :: bm, ns := N, qualname := q, hasDict := true, slotNames := sn, subclasses := sub, abstract := ab, collection := col, hasDel := false } := rfl
  have I1 : InstAt h₁ x (excO C t0) C none := ⟨hx₁, rfl, rfl, trivial⟩
  show PySem.wpAt _ _ _ (execs (iBody n msg k q1 q2 q3 q4 q5 q6 q7 q8 q9 q10) _) _ _ _
  refine ks_wpAt_execs_cons (ks_wpAt_Expr_any (ks_wpAt_MethodCall (he := hpl _) (ks_wpAt_super_base T.lkS T.lkC rfl rfl (X₁ _ _ ho) rfl rfl rfl (X₁ _ _ hcda) rfl hfs hfile T.top ?_)))
  refine ks_loadName_global rfl T.lkS (loadGlobal_builtin (MO.glob.keeps fun b o e => hk b o (kb b o e)) T.gS (hb1.keeps fun b o e => hk b o (kb b o e)) ((hb2 _ (by decide +kernel)).trans (show bootBuiltins "super" = some (.type "super") by decide +kernel)) ⟨rfl, ?_⟩)
  refine wpAny_loadName_free rfl T.lkC rfl ⟨_, X₁ _ _ hcell, rfl⟩ ?_
  refine wpAny_loadName_local rfl lkSelf hns vS ?_
  refine ks_wpAny_isType_cls (X₁ _ _ hC) hD2 ⟨rfl, ?_⟩
  refine ks_wpAny_call_super (X₁ _ _ hC) hD2 hx₁ rfl (fun c z => by cases z) (looks_mroIn X₁ T.subC) (fun h₂ hso hk₂ => ?_)
  have X₂ : K.In h₂ := X₁.keeps hk₂
  have hsupm : (clsIn K C).bind (fun cd => alongIn K "__init__" ((cd.mro.dropWhile (· != .ref C)).drop 1)) = some (some (.builtin "ValueError.__init__")) := T.sup
  rw [hcl] at hsupm
  have I2 : InstAt h₂ x (excO C t0) C none := ⟨hk₂ _ _ hx₁, rfl, rfl, trivial⟩
  refine kxs_getMethod kxs_ValueError hso (looks_opaque X₂ T.stat) (l₀ := .ref C :: bm) (fun A Q E s k q => wpAny_bind ((looks_clsIn X₂ hcl) A _ E s k (wpAny_pure q))) rfl X₂ hsupm (I2.type.andThen (looks_subIn X₂ T.isB)) (ks_ne X₂ I2 hcl) rfl ?_
  refine kxs_callWith (i := "ValueError.__init__") (x := x) rfl (evalArgs_plain (spliced_cons (wpAny_Constant_str (k := k) (pos := q4) (spliced_nil ?_))))
  have hk3 : ∀ b o, h₂.get? b = some o → (h₂.push (kxs_mw "ValueError.__init__" x)).get? b = some o := fun b o e => Heap.get?_push_of_some _ e
  refine ⟨Heap.get?_push_at rfl rfl, call_mw (hk3 _ _ (X₂ _ _ hC)) (Heap.get?_push_at rfl rfl) (hk3 _ _ (hk₂ _ _ hx₁)) (by show 1 ≤ sizeLine; decide) fun h₄ t1 hk₄ hx₄ => ?_⟩
  have old : ∀ b o, b ≠ x → h₁.get? b = some o → h₄.get? b = some o := fun b o hb e => hk₄ b o hb (hk3 b o (hk₂ b o e))
  have X₄ : K.In h₄ := fun a o e => old a o (fun z => by rw [z, hnx] at e; cases e) (X₁ _ _ e)
  have hns₄ : h₄.Ns s.heap.objs.size (fun y => List.lookup y [(("self" : Str), Value.ref x), (n, v)].reverse) := by
    obtain ⟨oL, es, ep, hL, r⟩ := hns
    exact ⟨oL, es, ep, old _ _ hxL hL, r⟩
  refine wpAt_of_wpAny ?_
  show wpAny _ _ (execs [.Assign [.Attribute (.Name "self" q7) n q8] (.Name n q9) q10] _) _ _ _
  refine wpAny_execs_cons (plainObj_wpAny_Assign_Attribute ?_)
  refine name_here hns₄ vN rfl T.lkN T.ndn (name_here hns₄ vS rfl lkSelf rfl ?_)
  refine set_plain X₄ (ox := excO C t1) (od := none) ⟨hx₄, rfl, rfl, trivial⟩ T.sa ?_
  refine exc_osa X₄ hx₄ hcl (show refsVE (.ref C :: bm) = true from hbm) rfl T.noN (fun h₅ tk₅ dx k₅ dn dne hx₅ hn₅ => ?_)
  show wpAny _ _ (execs _ _) _ _ _
  have z4 : s.heap.objs.size ≤ h₄.objs.size := Nat.le_of_lt hns₄.lt
  exact wpAny_execs_nil (hq h₅ tk₅ dx t1 ⟨fun b o hb e => k₅ b o hb (old b o hb (hk b o e)), hx₅, Nat.le_trans z4 dn, dne, hn₅⟩)
theorem err_made (T : ErrT prog K mg C fI n) (MO : L2.Mod K mg base) (kb : ∀ b o, base.get? b = some o → s.heap.get? b = some o) {v : Value} (X : K.In s.heap) (hroom : A.depth + 1 < recursionLimit)
    (hq : ∀ h' tk e d, ErrMade s.heap h' e C d n v → R (.ok (.ret (.ref e))) { s with heap := h', toks := tk }) : codeAny (model prog w) A (.call (.ref C) ⟨[v], []⟩) R s := by
  obtain ⟨nm, q, N, bs, bm, sn, sub, ab, col, dd, k0, k1, k2, k3, k5, hC, hbm⟩ := T.cls
  obtain ⟨hp, g, dr, tk, os⟩ := s
  have kk : ∀ b o, hp.get? b = some o → ((hp.push (kdv_tup [v])).push (excO C hp.objs.size)).get? b = some o := fun b o e => Heap.get?_push_of_some _ (Heap.get?_push_of_some _ e)
  have hget : ((hp.push (kdv_tup [v])).push (excO C hp.objs.size)).get? (hp.objs.size + 1) = some (excO C hp.objs.size) := by heap_get
  have hnx : K.lookup (hp.objs.size + 1) = none := by
    cases e : K.lookup (hp.objs.size + 1) with
    | none => rfl
    | some o =>
      have z : hp.get? (hp.objs.size + 1) = some o := X _ _ e
      exact absurd (Nat.lt_of_succ_lt (Heap.lt_size z)) (Nat.lt_irrefl _)
  refine call_own F.excBase_ValueError (fun Y => refsVE_contains Y bm hbm) (X _ _ hC) (looks_findIn X T.iC) (fun self => bind_fn X self T.tC) (by show 1 ≤ sizeLine; decide) ?_
  refine err_init (s := ⟨(hp.push (kdv_tup [v])).push (excO C hp.objs.size), g, dr, tk, os⟩) T MO (fun b o e => kk b o (kb b o e)) (X.keeps kk) hget hnx hroom fun h' tk' dx t1 ⟨k', hx, dn, dne, hns⟩ => ?_
  have old : ∀ b o, hp.get? b = some o → h'.get? b = some o := fun b o e => k' b o (Nat.ne_of_lt (Nat.lt_succ_of_lt (Heap.lt_size e))) (kk b o e)
  have z : hp.objs.size ≤ dx := by
    have q : ((hp.push (kdv_tup [v])).push (excO C hp.objs.size)).objs.size ≤ dx := dn
    rw [Heap.size_push, Heap.size_push] at q
    exact Nat.le_trans (Nat.le_trans (Nat.le_succ _) (Nat.le_succ _)) q
  exact ⟨rfl, hq h' tk' (hp.objs.size + 1) dx ⟨old, Nat.le_succ _, ⟨_, _, hx, rfl, rfl, rfl, rfl⟩, z, dne, hns⟩⟩
end
end ErX
end PySem

set_option Elab.async false
set_option linter.all false
set_option maxRecDepth 100000
set_option maxHeartbeats 2000000
namespace DL
open PySem PySem.Spec PyProof.Rows L2
/-! ### the ends of a law -/
def lookS : List (Str × Int) → Str → Option Int
  | [], _ => none
  | (k, i) :: r, z => if k = z then some i else lookS r z
def keyVal (e : DictEntry) : Option (Str × Int) := match e.key, e.val with
  | .str k _, .int v _ => some (k, v)
  | _, _ => none
def opsL : List (Str × Int) := [("not", 1), ("flip", 1), ("and", 2), ("or", 2), ("else", 2), ("pareto", 2)]
theorem kdi_of {K : PySem.W.Frag} {w : World} {a : Addr} {es : Array DictEntry} {n : Nat} {kvs : List (Str × Int)} (hl : K.lookup a = some ⟨.type "dict", none, .dict es n, #[]⟩) (lit : PySem.W.KeysLit w.params es.toList) (low : (a == sysModules) = false)
    (h : es.toList.map keyVal = kvs.map some) {f : Str → Option D} (hf : ∀ z, f z = (lookS kvs z).map fun i => D.int i) : KDi K w a f := by
  refine ⟨⟨es, n, hl, lit, low⟩, fun z => ?_⟩
  have key : ∀ (l : List DictEntry) (kvs : List (Str × Int)), l.map keyVal = kvs.map some → (l.find? (·.key.isStr z) = none ∧ lookS kvs z = none ∧ l.any (·.refKey) = false) ∨ ∃ e i t, l.find? (·.key.isStr z) = some e ∧ e.val = .int i t ∧ lookS kvs z = some i := by
    intro l
    induction l with
    | nil => intro kvs h; cases kvs with
      | nil => exact .inl ⟨rfl, rfl, rfl⟩
      | cons _ _ => cases h
    | cons e l ih =>
      intro kvs h
      cases kvs with
      | nil => cases h
      | cons q kvs =>
        rw [List.map_cons, List.map_cons] at h
        injection h with h1 h2
        obtain ⟨k, i⟩ := q
        obtain ⟨hash, ek, ev⟩ := e
        unfold keyVal at h1
        cases ek with
        | str k' t' =>
          cases ev with
          | int i' t2 =>
            have h3 := Option.some.inj h1
            injection h3 with h4 h5
            subst h4 h5
            by_cases hk : k' = z
            · have e1 : (Value.str k' t').isStr z = true := by simp [Value.isStr, hk]
              have hfd : List.find? (fun x => x.key.isStr z) ((⟨hash, .str k' t', .int i' t2⟩ : DictEntry) :: l) = some ⟨hash, .str k' t', .int i' t2⟩ := by rw [List.find?_cons, e1]
              refine .inr ⟨_, i', t2, hfd, rfl, ?_⟩
              · show (if k' = z then _ else _) = _
                rw [if_pos hk]
            · have e1 : (Value.str k' t').isStr z = false := by simp [Value.isStr, hk]
              have e2 : lookS ((k', i') :: kvs) z = lookS kvs z := by show (if k' = z then _ else _) = _; rw [if_neg hk]
              rcases ih kvs h2 with ⟨a1, a2, a3⟩ | ⟨e, i, t, a1, a2, a3⟩
              · exact .inl ⟨by rw [List.find?_cons, e1]; exact a1, e2.trans a2, by rw [List.any_cons, a3]; rfl⟩
              · exact .inr ⟨e, i, t, by rw [List.find?_cons, e1]; exact a1, a2, e2.trans a3⟩
          | _ => cases h1
        | _ => cases h1
  have e0 : PySem.W.nsIn K a z = (match es.toList.find? (·.key.isStr z) with
      | some e => some (some e.val)
      | none => if es.toList.any (·.refKey) then none else some none) := by
    unfold PySem.W.nsIn; rw [hl]; rfl
  rcases key _ _ h with ⟨a1, a2, a3⟩ | ⟨e, i, t, a1, a2, a3⟩
  · refine ⟨none, by rw [e0, a1]; simp only [a3]; rfl, ?_⟩
    rw [hf, a2]; trivial
  · refine ⟨some e.val, by rw [e0, a1], ?_⟩
    rw [hf, a3]
    exact ⟨.int i, by rw [a2]; exact ⟨t, rfl⟩, fun H => .int i⟩
theorem kdi_ofT {K : PySem.W.Frag} {w : World} {a : Addr} {es : Array DictEntry} {n : Nat} {kvs : List (Str × Int)} (hl : K.lookup a = some ⟨.type "dict", none, .dict es n, #[]⟩) (lit : PySem.W.KeysLit w.params es.toList) (low : (a == sysModules) = false)
    (h : es.toList.map keyVal = kvs.map some) {f : Str → Option Int} (hf : ∀ z, f z = lookS kvs z) : KDi K w a (fun z => (f z).map D.int) := kdi_of hl lit low h fun z => by rw [hf]
/-- what is asked of a law: every script of at most 63 cells answers True -/
def arLaw (L : Om) (ds : List D) (d : D) : Prop := ∃ s : List Int, ds = [.frl (s.map D.int)] ∧ s.length ≤ 63 ∧ d = .bl true
theorem law_sp {K : PySem.W.Frag} {H : Hp} {a : Addr} {ns : List Int} {Q : VK} {E : XK} {Ar : Om → List D → D → Prop} (hA : Ar [] [.frl (ns.map D.int)] (.bl true)) (hS : SqL K H a (ns.map V.int)) (k : ∀ H', Q (.bl true) H') : spP K Ar [.ref a] H Q E := by
  have e : Same H (vis (fun _ => false) [] H) := fun a o h => vis_some.mpr ⟨rfl, rfl, h⟩
  exact ⟨fun _ => false, [], [.frl (ns.map D.int)], .bl true, ⟨fun a h => (by cases h), fun a m h => (by cases h), fun a m h => (by cases h)⟩, .cons (.frl (e.seq hS) (RpL.ofInts ns)) .nil, hA, fun v H' _ r => by cases r; exact k H'⟩
section
variable {P : Program} {w : World} {K : PySem.W.Frag} {mg : Str → Option Value} {base : Heap} {CX : CXT} {k : Nat} {f : Addr} {fd : FuncData} {ps : List Str}
theorem fn_law {Ar : Om → List D → D → Prop} (F : FnOk P w K mg base CX k f fd ps (spP K Ar)) (h : ∀ (L : Om) (s : List Int), s.length ≤ 63 → Ar L [.frl (s.map D.int)] (.bl true)) : FnOk P w K mg base CX k f fd ps (spP K arLaw) :=
  F.imp fun vs H Q E ⟨F', L, ds, d, bo, r, ⟨s, e1, e2, e3⟩, kk⟩ => ⟨F', L, ds, d, bo, r, by subst e1 e3; exact h L s e2, kk⟩
theorem fn_never {Ar : Om → List D → D → Prop} (h : ∀ L ds d, ¬ Ar L ds d) : FnOk P w K mg base CX k f fd ps (spP K Ar) :=
  ⟨fun vs H Q E ⟨_, _, _, _, _, _, ha, _⟩ => absurd ha (h _ _ _), fun A outer s H args us vs Q E _ _ _ _ ⟨_, _, _, _, _, _, ha, _⟩ => absurd ha (h _ _ _)⟩
end
/-! ### reasoning about mirrors -/
def Cmp.sat {α : Type} (m : Cmp α) (Q : α → Prop) : Prop := m.ok ∧ Q m.val
section
variable {α β S L R : Type} {Q : α → Prop}
theorem sat_ret {v : α} (h : Q v) : (Cmp.ret v).sat Q := ⟨trivial, h⟩
theorem sat_req {p : Prop} {m : Cmp α} (hp : p) (h : m.sat Q) : (Cmp.req p m).sat Q := ⟨⟨hp, h.1⟩, h.2⟩
theorem sat_bnd {v : β} {f : β → Cmp α} (h : (f v).sat Q) : (Cmp.bnd v f).sat Q := h
theorem sat_bind {m : Cmp β} {f : β → Cmp α} {P : β → Prop} (h : m.sat P) (k : ∀ b, P b → (f b).sat Q) : (m.bind f).sat Q := ⟨⟨h.1, (k _ h.2).1⟩, (k _ h.2).2⟩
theorem sat_ite {b : Bool} {m1 m2 : Cmp α} (h1 : b = true → m1.sat Q) (h2 : b = false → m2.sat Q) : (if b = true then m1 else m2).sat Q := by
  cases b with
  | true => exact h1 rfl
  | false => exact h2 rfl
theorem sat_mono {m : Cmp α} {P : α → Prop} (h : m.sat P) (k : ∀ a, P a → Q a) : m.sat Q := ⟨h.1, k _ h.2⟩
theorem sat_eq {m : Cmp α} {v : α} (h : m.sat fun a => a = v) : m.ok ∧ m.val = v := h
theorem sat_forN {xs : List β} {f : β → S → Cmp S} {s : S} (I : Nat → S → Prop) (h0 : I 0 s) (hs : ∀ i x s, xs[i]? = some x → I i s → (f x s).sat (I (i + 1))) : (forN f xs s).sat (I xs.length) := by
  induction xs generalizing s I with
  | nil => exact ⟨trivial, h0⟩
  | cons x xs ih =>
    have h1 := hs 0 x s rfl h0
    have h2 := ih (s := (f x s).val) (fun i s => I (i + 1) s) h1.2 fun i y s hy => hs (i + 1) y s (by simpa using hy)
    exact ⟨⟨h1.1, h2.1⟩, h2.2⟩
/-- .. over 0 .. n - 1 -/
theorem sat_forR {n : Int} {f : Int → S → Cmp S} {s : S} (I : Nat → S → Prop) (h0 : I 0 s) (hs : ∀ (i : Nat) s, (i : Int) < n → I i s → (f (i : Int) s).sat (I (i + 1))) : (forN f (rangeL 0 n) s).sat (I n.toNat) := by
  have hl : (rangeL 0 n).length = n.toNat := by simp [rangeL]
  have := sat_forN (xs := rangeL 0 n) (f := f) (s := s) I h0 fun i x s hx hi => by
    obtain ⟨hi', e⟩ := List.getElem?_eq_some_iff.mp hx
    rw [hl] at hi'
    have : x = (i : Int) := by rw [← e]; simp [rangeL]
    subst this
    exact hs i s (by omega) hi
  rwa [hl] at this
theorem sat_bindR [Inhabited R] {m : Cmp (Ctl S L R)} {k : S → Cmp R} {Q : R → Prop} {P : Ctl S L R → Prop} (h : m.sat P) (k' : ∀ c, P c → (c.thenR k).sat Q) : (m.bindR k).sat Q := sat_bind h k'
theorem sat_bindC {S2 : Type} {m : Cmp (Ctl S L R)} {k : S → Cmp (Ctl S2 L R)} {Q : Ctl S2 L R → Prop} {P : Ctl S L R → Prop} (h : m.sat P) (k' : ∀ c, P c → (c.then_ k).sat Q) : (m.bindC k).sat Q := sat_bind h k'
/-- a loop that never leaves -/
theorem sat_forC {xs : List β} {f : β → S → Cmp (Ctl S S R)} {s : S} (I : Nat → S → Prop) (h0 : I 0 s) (hs : ∀ i x s, xs[i]? = some x → I i s → (f x s).sat fun c => ∃ s', (c = .nx s' ∨ c = .ct s') ∧ I (i + 1) s') : (forC (L := L) f xs s).sat fun c => ∃ s', c = .nx s' ∧ I xs.length s' := by
  induction xs generalizing s I with
  | nil => exact ⟨trivial, s, rfl, h0⟩
  | cons x xs ih =>
    obtain ⟨o1, s', h1, h2⟩ := hs 0 x s rfl h0
    have h3 := ih (s := s') (fun i s => I (i + 1) s) h2 fun i y s hy => hs (i + 1) y s (by simpa using hy)
    unfold forC
    refine sat_bind (P := fun c => c = .nx s' ∨ c = .ct s') ⟨o1, h1⟩ fun c hc => ?_
    rcases hc with rfl | rfl <;> exact h3
/-- a loop that may hand back, or break: what holds at its end -/
theorem sat_forCx {xs : List β} {f : β → S → Cmp (Ctl S S R)} {s : S} (I : Nat → S → Prop) (J : Ctl S L R → Prop) (h0 : I 0 s) (hs : ∀ i x s, xs[i]? = some x → I i s → (f x s).sat fun c => match c with | .nx s' => I (i + 1) s' | .ct s' => I (i + 1) s' | .bk s' => J (.nx s') | .rt r => J (.rt r) | .ex e => J (.ex e))
    (he : ∀ s', I xs.length s' → J (.nx s')) : (forC (L := L) f xs s).sat J := by
  induction xs generalizing s I with
  | nil => exact ⟨trivial, he _ h0⟩
  | cons x xs ih =>
    have h1 := hs 0 x s rfl h0
    unfold forC
    refine sat_bind h1 fun c hc => ?_
    cases c with
    | nx s' => exact ih (fun i s => I (i + 1) s) hc (fun i y s hy => hs (i + 1) y s (by simpa using hy)) he
    | ct s' => exact ih (fun i s => I (i + 1) s) hc (fun i y s hy => hs (i + 1) y s (by simpa using hy)) he
    | bk s' => exact ⟨trivial, hc⟩
    | rt r => exact ⟨trivial, hc⟩
    | ex e => exact ⟨trivial, hc⟩
theorem sat_while {c : S → Cmp Bool} {f : S → Cmp S} {s : S} {n : Nat} {Q : S → Prop} (I : S → Prop) (μ : S → Nat) (h0 : I s) (hn : μ s < n) (hc : ∀ s, I s → (c s).sat fun b => (b = true → (f s).sat fun s' => I s' ∧ μ s' < μ s) ∧ (b = false → Q s)) : (whileN c f n s).sat Q := by
  induction n generalizing s with
  | zero => omega
  | succ n ih =>
    unfold whileN
    refine sat_bind (hc s h0) fun b hb => sat_ite (fun e => ?_) (fun e => ?_)
    · exact sat_bind (hb.1 e) fun s' h' => ih h'.1 (by omega)
    · exact ⟨trivial, hb.2 e⟩
end
end DL

set_option Elab.async false
set_option linter.all false
set_option maxRecDepth 100000
set_option maxHeartbeats 4000000
namespace DL
open PySem PySem.Spec PyProof.Rows L2 TL
/-! ### more built-ins -/
theorem un65 {k : Nat} {A : Around} (r : Room k A) : A.units + 65 < cLine := by have := r.un; omega
def ltS (a b : Str) : Bool := decide (a.cps.toList < b.cps.toList)
def sortI (xs : List Int) : List Int := xs.mergeSort (fun a b => decide (a ≤ b))
theorem sortI_perm (xs : List Int) : (sortI xs).Perm xs := List.mergeSort_perm _ _
theorem sortI_le (xs : List Int) : (sortI xs).Pairwise (· ≤ ·) := by
  have h := List.pairwise_mergeSort (le := fun (a b : Int) => decide (a ≤ b)) (fun a b c h1 h2 => by simp at *; omega) (fun a b => by simp; omega) xs
  exact h.imp fun h => of_decide_eq_true h
theorem sortI_eq {xs ys : List Int} (h : ys.Perm xs) (hp : ys.Pairwise (· ≤ ·)) : ys = sortI xs :=
  List.Perm.eq_of_pairwise (le := (· ≤ ·)) (fun a b _ _ h1 h2 => by omega) hp (sortI_le xs) (h.trans (sortI_perm xs).symm)
section
variable {X : Cx} {B : Gd} {ρ : List (Option D)} {O : Om} {d : D}
theorem rd_ltS {K : PySem.W.Frag} {i j : Str} : RD K B O (fun x y H Q => ∃ i j, x = .str i ∧ y = .str j ∧ Q (.bl (decide (i.cps.toList < j.cps.toList))) H) (.str i) (.str j) (.bl (ltS i j)) := fun x y H Q m r1 r2 k => by
  cases r1; cases r2
  exact ⟨i, j, rfl, rfl, k _ H (Same.refl H) (.bl _)⟩
theorem rp_ints {K : PySem.W.Frag} {H : Hp} (xs : List Int) : RpL K H (xs.map V.int) (xs.map D.int) := by
  induction xs with
  | nil => exact .nil
  | cons x xs ih => exact .cons (.int x) ih
theorem rcn_sorted {K : PySem.W.Frag} {xs : List Int} (w : Vw (B.L ++ O) d (xs.map D.int)) : RCN K B O (rSortedI K) [d] ((sortI xs).map D.int) := fun vs H Q m r k => by
  obtain ⟨a, ws, e, q, rl⟩ := vw_rp w m r
  have ev := rl.ints
  subst ev
  refine ⟨a, xs, e, q, fun ns' p h1 h2 hp => ?_⟩
  rw [sortI_eq h1 h2]
  exact new_same m (rp_ints (sortI xs)) k p hp
end
/-! ### in, however it is decided -/
section
variable {α : Type} {E : α → D} {B : Gd} {O : Om} {d2 : D}
theorem rd_inH {K : PySem.W.Frag} [DecidableEq α] {P : α → Prop} {n : Nat} {g : α → PyData} {x : α} {xs : List α} {i : Decidable (x ∈ xs)} (h : EqOk E P n g) (hn : n ≤ 63) (w2 : Vd (B.L ++ O) d2 (.lst (xs.map E))) (h1 : P x) (h2 : ∀ y ∈ xs, P y) : RD K B O (rInD K) (E x) d2 (.bl (@decide (x ∈ xs) i)) := by
  obtain rfl : i = List.instDecidableMemOfLawfulBEq x xs := Subsingleton.elim _ _
  exact rd_inG (K := K) h hn w2 h1 h2
theorem rd_notinH {K : PySem.W.Frag} [DecidableEq α] {P : α → Prop} {n : Nat} {g : α → PyData} {x : α} {xs : List α} {i : Decidable (x ∈ xs)} (h : EqOk E P n g) (hn : n ≤ 63) (w2 : Vd (B.L ++ O) d2 (.lst (xs.map E))) (h1 : P x) (h2 : ∀ y ∈ xs, P y) : RD K B O (rNotInD K) (E x) d2 (.bl (!@decide (x ∈ xs) i)) := by
  obtain rfl : i = List.instDecidableMemOfLawfulBEq x xs := Subsingleton.elim _ _
  exact rd_notinG (K := K) h hn w2 h1 h2
end
/-! ### properties and methods that give new lists -/
section
variable {X : Cx} {B : Gd} {ρ : List (Option D)} {O : Om} {d : D} {C : Addr} {ds fs es' : List D} {k : Nat} {o e : Expr} {es : List Expr} {pos apos : Pos}
theorem en_prop {Ar : Om → List D → List D → Prop} {ns : List Str} {f : Str} {pp g : Addr} (he : EV X B ρ O o (.obj C ns ds)) (c : Cls X.K C) (hp : PropOf X.K C f pp g) (F : Fok X.prog X.w X.K X.mg X.base CX0 k g (spN X.K Ar)) (hr : Room (k + 1) X.A)
    (h : Ar (B.L ++ O) [.obj C ns ds] fs) (hb : attributeBase o f X.env (eval o X.env) = eval o X.env := by rfl) : EN X B ρ O (.Attribute o f pos) fs := by
  obtain ⟨fd, ps, G, b⟩ := F.ex
  exact pe_imp (pe_prop (E := E0) (dvs := []) he c hp G hr b .nil pass0 hb) fun σ H Q ⟨st, k⟩ => ⟨st, fun v H1 e1 r1 => by
    cases r1 with
    | obj h1 h2 h3 => exact ⟨_, _, _, rfl, vis_le _ _ h1, spN_use (st.same e1).m (.cons (Rp.obj h1 h2 h3) .nil) h fun p H2 ws hp e2 hv r2 => k p H2 ws (e1.free hp) (e1.trans e2) hv r2⟩⟩
theorem en_meth {Ar : Om → List D → List D → Prop} {ns : List Str} {m : Str} {f : Addr} (he : EV X B ρ O o (.obj C ns ds)) (c : Cls X.K C) (hm : Meth X.K C m f) (F : Fok X.prog X.w X.K X.mg X.base CX0 k f (spN X.K Ar)) (hr : Room k X.A) (ha : EA X B ρ O (e :: es) es') (hn : ns.idxOf? m = none)
    (h : Ar (B.L ++ O) (.obj C ns ds :: es') fs) (pl : Sem Bool)
    (hst : starEach (e :: es) X.env = (false, eval e X.env) :: starEach es X.env := by rfl) (hpl : (backTo pos (starEach es X.env)).any (·.1) = false := by rfl)
    (ht : eval (.Call (.Attribute o m apos) (e :: es) [] pos) X.env = (do
      let ov ← eval o X.env
      standAt apos.atName
      let (f, first) ← holding [ov] (getMethod ov m pl)
      callWith pos f first (backTo pos (starEach (e :: es) X.env)) (backToKw pos (keywordEach [] X.env))) := by rfl) :
    EN X B ρ O (.Call (.Attribute o m apos) (e :: es) [] pos) fs :=
  pe_imp (pe_methR (E := E0) (pl := pl) he c hm F.raw hr pass0 ha hst hpl ht) fun σ H Q ⟨st, k⟩ => ⟨st, fun v H1 e1 r1 => by
    cases r1 with
    | obj h1 h2 h3 => exact ⟨_, _, _, rfl, vis_le _ _ h1, look_no h2 hn, st.same e1, fun vs H2 e2 r2 => spN_use ((st.same e1).same e2).m (.cons ((Rp.obj h1 h2 h3).mono (vis_same e2)) r2) h fun p H3 ws hp e3 hv r3 => k p H3 ws ((e1.trans e2).free hp) ((e1.trans e2).trans e3) hv r3⟩⟩
end
end DL

set_option Elab.async false
set_option linter.all false
set_option maxRecDepth 100000
set_option maxHeartbeats 4000000
namespace DL
open PySem PySem.Spec PyProof.Rows L2 TL
/-! ### trees: a word, or a tuple of a word and one or two trees -/
inductive Tr where
  | leaf (z : Str)
  | un (h : Str) (t : Tr)
  | bin (h : Str) (a b : Tr)
instance : Inhabited Tr := ⟨.leaf Str.empty⟩
def eTr : Tr → D
  | .leaf z => .str z
  | .un h t => .tup [.str h, eTr t]
  | .bin h a b => .tup [.str h, eTr a, eTr b]
namespace Tr
def isLeaf : Tr → Bool
  | .leaf _ => true
  | _ => false
def isBin : Tr → Bool
  | .bin _ _ _ => true
  | _ => false
def word : Tr → Str
  | .leaf z => z
  | _ => Str.empty
def head : Tr → Str
  | .leaf _ => Str.empty
  | .un h _ => h
  | .bin h _ _ => h
def c1 : Tr → Tr
  | .leaf z => .leaf z
  | .un _ t => t
  | .bin _ a _ => a
def c2 : Tr → Tr
  | .bin _ _ b => b
  | t => t
def kids : Tr → List Tr
  | .leaf _ => []
  | .un _ t => [t]
  | .bin _ a b => [a, b]
end Tr
section
variable {X : Cx} {B : Gd} {ρ : List (Option D)} {O : Om} {d : D} {ds : List D} {a b e : Expr} {pos p2 : Pos} {t : Tr}
theorem rc_isTr {K : PySem.W.Frag} : RC K B O (rIsi K) [eTr t, .ty "str"] (.bl t.isLeaf) := by
  cases t with
  | leaf z => exact rc_isi .str (by rfl)
  | un h t => exact rc_isi .tup (by rfl)
  | bin h a b => exact rc_isi .tup (by rfl)
theorem ev_trW (ha : EV X B ρ O a (eTr t)) (h : t.isLeaf = true) : EV X B ρ O a (.str t.word) := by
  cases t with
  | leaf z => exact ha
  | un h t => cases h
  | bin h a b => cases h
theorem ev_trH (ha : EV X B ρ O a (eTr t)) (hb : EV X B ρ O b (.int 0)) (h : t.isLeaf = false) (hs : PlainIx b := by intro _ _; rfl) : EV X B ρ O (.Subscript a b pos) (.str t.head) := by
  cases t with
  | leaf z => cases h
  | un h t => exact ev_ixT ha hb (by rfl) hs
  | bin h a b => exact ev_ixT ha hb (by rfl) hs
theorem ev_tr1 (ha : EV X B ρ O a (eTr t)) (hb : EV X B ρ O b (.int 1)) (h : t.isLeaf = false) (hs : PlainIx b := by intro _ _; rfl) : EV X B ρ O (.Subscript a b pos) (eTr t.c1) := by
  cases t with
  | leaf z => cases h
  | un h t => exact ev_ixT ha hb (by rfl) hs
  | bin h a b => exact ev_ixT ha hb (by rfl) hs
theorem ev_tr2 (ha : EV X B ρ O a (eTr t)) (hb : EV X B ρ O b (.int 2)) (h : t.isBin = true) (hs : PlainIx b := by intro _ _; rfl) : EV X B ρ O (.Subscript a b pos) (eTr t.c2) := by
  cases t with
  | leaf z => cases h
  | un h t => cases h
  | bin h a b => exact ev_ixT ha hb (by rfl) hs
theorem ev_sliceT {lo hi : Option Expr} {l h : Option Int} (ha : EV X B ρ O e (.tup ds)) (hl : EO X B ρ O lo l) (hh : EO X B ρ O hi h) : EV X B ρ O (.Subscript e (.Slice lo hi none p2) pos) (.tup (cutD ds l h)) :=
  pe_imp (pe_slice sl_tupA ha hl hh) fun σ H Q ⟨st, k⟩ => ⟨st, fun v H1 e1 r1 => ⟨st.same e1, fun H2 e2 => ⟨(st.same e1).same e2, fun H3 e3 => by
    have s3 := ((st.same e1).same e2).same e3
    have e13 := e2.trans e3
    cases r1 with
    | tup hq r =>
      have hq' := same_t (vis_le) (same_t (vis_same e13) hq)
      have r' := r.mono (vis_same e13)
      refine ⟨_, _, rfl, hq', fun hw => ?_, fun hw p hp => ?_⟩
      · have ec : cutD ds l h = ds := by
          unfold cutD
          rw [← r.length, hw.1, hw.2, List.drop_zero, Nat.sub_zero]
          exact List.take_of_length_le (by rw [r.length]; exact Nat.le_refl _)
        rw [ec] at k
        exact k _ H3 (e1.trans e13) (.tup (same_t (vis_same e13) hq) r')
      · exact k _ _ ((e1.trans e13).trans (same_new hp)) (.tup (.inl (.inl (s3.m.visNew hp))) ((r'.cut l h).mono (vis_same (same_new hp))))⟩⟩⟩
theorem ev_trK (ha : EV X B ρ O e (eTr t)) (hb : EV X B ρ O b (.int 1)) (h : t.isLeaf = false) : EV X B ρ O (.Subscript e (.Slice (some b) none none p2) pos) (dU eTr t.kids) := by
  cases t with
  | leaf z => cases h
  | un h t => exact ev_sliceT ha (eo_some hb) eo_none
  | bin h a b => exact ev_sliceT ha (eo_some hb) eo_none
end
end DL

set_option Elab.async false
set_option linter.all false
set_option maxRecDepth 100000
set_option maxHeartbeats 4000000
/-! ### operators of an own class -/
namespace PySem.W
open Lean Elab Tactic Meta PySem PySem.Calls PyProof.Rows
section
variable {prog : Program} {w : World} {M : Model} {A : Around} {E : Value → Shared → Prop} {s : Shared} {K : Frag} {x b C f : Addr} {ox ob : Obj} {od odb : Option Obj}
/-- both operands of one class -/
theorem dl_binI {op : Operator} {Q : Value → Shared → Prop} (X : K.In s.heap) (I : InstAt s.heap x ox C od) (Ib : InstAt s.heap b ob C odb) (hc : selfFirst K C = true)
    (hs : findIn K (.ref C) (PySem.dunder op.info.2) = some (some (.ref f))) (hf : isFn K (.ref f) = true)
    (h : wpAny (model prog w) A (call (.ref f) [.ref x, .ref b]) (CmpBack Q) E s) : wpAny (model prog w) A (binaryOp op (.ref x) (.ref b)) Q E s := by
  obtain ⟨cd, rest, hcd, hm⟩ := ksp_first hc
  rcases hi : op.info with ⟨sym, nm'⟩
  rw [hi] at hs
  dsimp only at hs
  have one := ksp_try X I hs hf h
  obtain ⟨hh, g, d, tt, os⟩ := s
  have L1 : Looks (model prog w) hh (typeOf (.ref x)) (.ref C) := I.type
  have L2 : Looks (model prog w) hh (typeOf (.ref b)) (.ref C) := Ib.type
  have L3 : Looks (model prog w) hh (fillsNumberSlot (.ref C) nm') true := fills_K X hcd hm hs
  have hne : (Value.ref C == Value.ref C) = true := beq_self_eq_true _
  simp only [binaryOp, hi]
  refine wpAny_holding (wpAny_bind ?_)
  unfold binaryOp1
  refine wpAny_bind (L1.at (wpAny_bind (L2.at (wpAny_bind (L3.at ?_)))))
  simp only [hne, if_true]
  ksp_lk
  refine wpAny_mono one (fun r s' hr' => ?_) fun _ _ e => e
  obtain ⟨v, rfl, hq⟩ := hr'
  ksp_lk
  exact hq
end
end PySem.W
namespace DL
open PySem PySem.Spec PyProof.Rows L2 TL
/-- an operator's method in a class -/
structure BinOf (K : PySem.W.Frag) (C : Addr) (nm : String) (f : Addr) : Prop where
  at_ : PySem.W.findIn K (.ref C) (PySem.dunder nm) = some (some (.ref f))
  fn : PySem.W.isFn K (.ref f) = true
  sf : PySem.W.selfFirst K C = true
section
variable {X : Cx} {B : Gd} {ρ : List (Option D)} {O : Om} {d : D} {C f : Addr} {ds ds' fs : List D} {k : Nat} {a b e : Expr} {pos : Pos}
def rOwn (X : Cx) (C : Addr) (sp : Sp) (E : XK) : R2 := fun x y H Q => ∃ p q, x = .ref p ∧ y = .ref q ∧ StX.InsC X H p C ∧ StX.InsC X H q C ∧ sp [.ref p, .ref q] H (fun v H' => (∃ p, v = .ref p) ∧ Q v H') E
theorem back_of {pins : List (Addr × Obj)} {σ : L2.St} {Q : VK} {v : Value} {s' : Shared} (h : EP X pins σ (fun v H' => (∃ p, v = V.ref p) ∧ Q v H') v s') : PySem.W.CmpBack (EP X pins σ Q) v s' := by
  obtain ⟨x, H', I, r, ⟨p, e⟩, q⟩ := h
  subst e
  cases r
  exact ⟨V.ref p, H', I, rfl, q⟩
theorem op_own {op : Operator} {CX : CXT} {sp : Sp} {E : XK} (bo : BinOf X.K C op.info.2 f) (F : FnR X.prog X.w X.K X.mg X.base CX k f sp) (hr : Room k X.A) (hx : Passes CX X E) : OpR X (binaryOp op) (rOwn X C sp E) := by
  intro pins s σ H x y v u Q I rx ry h
  obtain ⟨p, q, rfl, rfl, h1, h2, h3⟩ := h
  cases rx
  cases ry
  obtain ⟨ox, od, J, _⟩ := StX.insC_at I h1
  obtain ⟨ox2, od2, J2, _⟩ := StX.insC_at I h2
  refine PySem.W.dl_binI I.kIn J J2 bo.sf bo.at_ bo.fn ?_
  exact wpAny_mono (wpAny_call (run_fnR (us := [.ref p, .ref q]) (vs := [.ref p, .ref q]) F hr hx I (.cons rfl (.cons rfl .nil)) h3)) (fun v s' hv => back_of hv) fun _ _ e => e
theorem ev_binO {op : Operator} {Ar : Om → List D → D → Prop} {ns ns' ns2 : List Str} {C2 : Addr} (ha : EV X B ρ O a (.obj C ns ds)) (hb : EV X B ρ O b (.obj C ns' ds')) (bo : BinOf X.K C op.info.2 f) (F : Fok X.prog X.w X.K X.mg X.base CX0 k f (spP X.K Ar)) (hr : Room k X.A)
    (h : Ar (B.L ++ O) [.obj C ns ds, .obj C ns' ds'] (.obj C2 ns2 fs)) : EV X B ρ O (.BinOp a op b pos) (.obj C2 ns2 fs) :=
  pe_imp (pe_op (op_own (E := E0) bo F.raw hr pass0) ha hb) fun σ H Q ⟨st, k⟩ => ⟨st, fun v H1 e1 r1 => ⟨st.same e1, fun u H2 e2 r2 => by
    have r1' := r1.mono (vis_same e2)
    cases r1' with
    | obj h1 h2 h3 =>
      cases r2 with
      | obj g1 g2 g3 =>
        exact ⟨_, _, rfl, rfl, .inr ⟨_, _, vis_le _ _ h1⟩, .inr ⟨_, _, vis_le _ _ g1⟩, spP_use ((st.same e1).same e2).m (.cons (Rp.obj h1 h2 h3) (.cons (Rp.obj g1 g2 g3) .nil)) h fun w H3 e3 r3 => by
          have q := k w H3 ((e1.trans e2).trans e3) r3
          cases r3 with
          | obj _ _ _ => exact ⟨⟨_, rfl⟩, q⟩⟩⟩⟩
/-! one operand -/
def rOwn1 (X : Cx) (C : Addr) (sp : Sp) (E : XK) : V → Hp → VK → Prop := fun x H Q => ∃ p, x = .ref p ∧ StX.InsC X H p C ∧ sp [.ref p] H Q E
theorem un_neg {CX : CXT} {sp : Sp} {E : XK} (h1 : PySem.W.findIn X.K (.ref C) "__neg__" = some (some (.ref f))) (h2 : PySem.W.isFn X.K (.ref f) = true) (F : FnR X.prog X.w X.K X.mg X.base CX k f sp) (hr : Room k X.A) (hx : Passes CX X E) : UnR X (unaryOp .USub) (rOwn1 X C sp E) := by
  intro pins s σ H x v Q I rx h
  obtain ⟨p, rfl, g1, g3⟩ := h
  cases rx
  obtain ⟨ox, od, J, _⟩ := StX.insC_at I g1
  unfold unaryOp
  refine wpAny_holding (wpAny_bind (PySem.W.special_fn I.kIn J h1 (beq_iff_eq.mp h2) (wpAny_mono (wpAny_call (run_fnR (us := [.ref p]) (vs := [.ref p]) F hr hx I (.cons rfl .nil) g3)) (fun _ _ z => wpAny_pure z) fun _ _ z => z)))
theorem un_inv {CX : CXT} {sp : Sp} {E : XK} (h1 : PySem.W.findIn X.K (.ref C) "__invert__" = some (some (.ref f))) (h2 : PySem.W.isFn X.K (.ref f) = true) (F : FnR X.prog X.w X.K X.mg X.base CX k f sp) (hr : Room k X.A) (hx : Passes CX X E) : UnR X (unaryOp .Invert) (rOwn1 X C sp E) := by
  intro pins s σ H x v Q I rx h
  obtain ⟨p, rfl, g1, g3⟩ := h
  cases rx
  obtain ⟨ox, od, J, _⟩ := StX.insC_at I g1
  unfold unaryOp
  refine wpAny_holding (wpAny_bind (PySem.W.special_fn I.kIn J h1 (beq_iff_eq.mp h2) (wpAny_mono (wpAny_call (run_fnR (us := [.ref p]) (vs := [.ref p]) F hr hx I (.cons rfl .nil) g3)) (fun _ _ z => wpAny_pure z) fun _ _ z => z)))
theorem ev_unO {op : UnaryOp} {Ar : Om → List D → D → Prop} {ns : List Str} (ha : EV X B ρ O a (.obj C ns ds)) (ho : UnR X (unaryOp op) (rOwn1 X C (spP X.K Ar) E0))
    (h : Ar (B.L ++ O) [.obj C ns ds] d) : EV X B ρ O (.UnaryOp op a pos) d :=
  pe_imp (pe_un ho ha) fun σ H Q ⟨st, k⟩ => ⟨st, fun v H1 e1 r1 => by
    cases r1 with
    | obj h1 h2 h3 => exact ⟨_, rfl, .inr ⟨_, _, vis_le _ _ h1⟩, spP_use (st.same e1).m (.cons (Rp.obj h1 h2 h3) .nil) h fun w H3 e3 r3 => k w H3 (e1.trans e3) r3⟩⟩
end
end DL

set_option Elab.async false
set_option linter.all false
set_option maxRecDepth 100000
set_option maxHeartbeats 4000000
/-! ### what raises -/
namespace L2
open PySem PySem.Spec PyProof.Rows
theorem relO_err {v : V} {v' : Value} {n : Str} (r : RelV v v') (f : Str) : RelO (List.lookup f [(n, v)]) (if f = n then some v' else none) := by
  by_cases hw : f = n
  · subst hw
    rw [if_pos rfl]
    have q : List.lookup f [(f, v)] = some v := by simp [List.lookup]
    rw [q]
    exact r
  · rw [if_neg hw]
    have qw : (f == n) = false := by simpa using hw
    have q2 : List.lookup f [(n, v)] = none := by simp [List.lookup, qw]
    rw [q2]
    trivial
section
variable {X : Cx} {C fI : Addr} {n x : Str}
def tMkErr (C : Addr) (n : Str) (ta : TA) : St → Hp → XK → Prop := fun σ H Q => ta σ H fun vs H1 => ∃ v, vs = [v] ∧ ∀ d, H1 d = none → Q (.ref C) (some d) (upd H1 d (.xd [(n, v)]))
theorem pmk_err {a : Expr} {ta : TA} {p pos : Pos} {k : Nat} (T : PySem.ErX.ErrT X.prog X.K X.mg C fI n) (gC : X.mg x = some (.ref C)) (hr : Room k X.A) (ha : PA X [a] ta) (hg : Gl X x) (hdb : (x == ("__debug__" : Str)) = false := by decide)
    (he : starEach (a :: []) X.env = (false, eval a X.env) :: starEach [] X.env := by rfl) (hpl : (backTo pos (starEach [] X.env)).any (·.1) = false := by rfl) :
    PMk X (.Call (.Name x p) [a] [] pos) (tMkErr C n ta) := by
  intro pins s σ H Q I h
  refine wpAny_Call_Name_kw (ld_glob I hg gC ?_ hdb)
  refine PySem.W.callWith_K (h₀ := X.base) I.ok.mod.kin T.kC (thn (ha.run pos pins s σ H _ I h) fun us s1 hh => ?_) he hpl
  obtain ⟨vs, H1, I1, r1, v, ev, q1⟩ := hh
  subst ev
  refine ⟨I1.kIn, ?_⟩
  cases r1 with
  | cons rv rn =>
    rename_i v' us'
    cases rn
    show wpAny _ _ (call (.ref C) [v']) _ _ _
    have hbk := I1.bk
    have hmod := I1.ok.mod
    obtain ⟨hp, g, dr, tk, os⟩ := s1
    refine wpAny_call (PySem.ErX.err_made T hmod hbk I1.kIn (by have := hr.dp; omega) fun h' tk' e d M => ?_)
    show MkP X pins σ Q (.ref e) ⟨h', g, dr, tk', os⟩
    obtain ⟨oe, fv, hoe, hc, hd, hdat, h1⟩ := M.obj
    have hns := M.ns
    obtain ⟨G', g1, g2⟩ := restrict h' fun b => decide (b ≠ e)
    have gk : ∀ b, b ≠ e → G'.get? b = h'.get? b := fun b hb => g1 b (decide_eq_true hb)
    have ge : G'.get? e = none := g2 e (by simp)
    have old : ∀ b o, hp.get? b = some o → G'.get? b = some o := fun b o q => (gk b (Nat.ne_of_lt (Nat.lt_of_lt_of_le (Heap.lt_size q) M.new))).trans (M.keep b o q)
    have ob : ObjOk X.prog X.w (upd H1 d (.xd [(n, v)])) G' d (.xd [(n, v)]) :=
      ⟨_, hns.at (fun o q => (gk d M.dne).trans q), fun f => relO_err rv f⟩
    have J : Inv X pins σ (upd H1 d (.xd [(n, v)])) ⟨G', g, dr, tk', os⟩ := I1.laid (t' := tk') old M.dbig ob
    refine ⟨e, oe, fv, ⟨G', g, dr, tk', os⟩, _, .ref C, some d, rfl, J, fun b o q => ?_, ge, hoe, ⟨hc, hd⟩, hdat, h1, ?_, rfl, I1.bare, raises_own T.exC T.tyC, q1 d (I1.hok.fresh M.dbig)⟩
    · by_cases hb : b = e
      · have q' : G'.get? b = some o := q
        rw [hb, ge] at q'; cases q'
      · exact (gk b hb).symm.trans q
    · rw [upd_ne (Ne.symm M.dne)]
      exact I1.hok.fresh M.new
end
/-! calls whose exception finds the slots of the frame -/
section
variable {X : Cx} {CX : CXT} {k i : Nat} {f C : Addr} {sp : Sp} {x : Str} {e fe : Expr} {es : List Expr} {te tf : TE} {t : TA} {p pos : Pos}
theorem run_fnRS {pins : List (Addr × Obj)} {σ : L2.St} {H : Hp} {s : Shared} {Q : VK} {E : XK} {us : List Value} {vs : List V} (F : FnR X.prog X.w X.K X.mg X.base CX k f sp) (hr : Room k X.A) (hx : PassesAt CX X σ E) (I : Inv X pins σ H s) (r : Vals vs us) (h : sp vs H Q E) :
    codeAny (model X.prog X.w) X.A (.call (.ref f) ⟨us, []⟩) (fun r s' => match r with | .ok (.ret v) => EP X pins σ Q v s' | .ok _ => False | .error e => X.xe e s') s := by
  refine codeAny_mono (F X.A X.stack s H us vs Q E hr I.env0 r h) fun r s' hq => ?_
  cases r with
  | error e => exact hx pins H s e s' I hq
  | ok fl =>
    cases fl with
    | ret u => exact I.after hq
    | next => exact False.elim hq
    | brk => exact False.elim hq
    | cont => exact False.elim hq
theorem pe_callRS {E : St → XK} (F : FnR X.prog X.w X.K X.mg X.base CX k f sp) (hr : Room k X.A) (hg : Gl X x) (hm : X.mg x = some (.ref f)) (hk : PySem.W.keepIn X.K (.ref f) = true) (hx : ∀ σ, PassesAt CX X σ (E σ))
    (ha : PA X (e :: es) t) (hdb : (x == ("__debug__" : Str)) = false := by decide) (he : starEach (e :: es) X.env = (false, eval e X.env) :: starEach es X.env := by rfl) (hpl : (backTo pos (starEach es X.env)).any (·.1) = false := by rfl) :
    PE X (.Call (.Name x p) (e :: es) [] pos) (tCallS sp E t) := by
  refine ⟨fun pins s σ H Q I h => ?_⟩
  refine wpAny_Call_Name_kw (ld_glob I hg hm ?_ hdb)
  refine PySem.W.callWith_K (h₀ := X.base) I.ok.mod.kin hk (thn (ha.run pos pins s σ H _ I h) fun us s1 ⟨vs, H1, I1, r, q⟩ => ⟨I1.kIn, ?_⟩) he hpl
  exact wpAny_call (run_fnRS F hr (hx σ) I1 r q)
theorem run_makeRS {pins : List (Addr × Obj)} {σ : L2.St} {H : Hp} {s : Shared} {Q : VK} {E : XK} {us : List Value} {vs : List V} (M : Mk X.K C f) (F : FnR X.prog X.w X.K X.mg X.base CX k f sp) (hr : Room (k + 1) X.A) (hx : PassesAt CX X σ E) (I : Inv X pins σ H s) (r : Vals vs us)
    (h : ∀ x dx, H x = Option.none → H dx = Option.none → dx ≠ x → sp (V.ref x :: vs) (upd (upd H dx (.own x)) x (.ins C dx [])) (fun v H2 => v = .non ∧ Q (.ref x) H2) E) :
    wpAny (model X.prog X.w) X.A (call (.ref C) us) (EP X pins σ Q) X.xe s := by
  have hq := h (s.heap.objs.size + 1) s.heap.objs.size (I.hok.fresh (Nat.le_succ _)) (I.hok.fresh (Nat.le_refl _)) (Nat.ne_of_lt (Nat.lt_succ_self _))
  have I2 := Inv.made (C := C) I
  have r2 : Vals (V.ref (s.heap.objs.size + 1) :: vs) (Value.ref (s.heap.objs.size + 1) :: us) := .cons rfl r
  refine wpAny_call (make_map (f := f) I.kIn M.makes M.init (beq_iff_eq.mp M.fn) (codeAny_mono (F _ X.stack _ _ (Value.ref (s.heap.objs.size + 1) :: us) _ _ E (hr.make C us []) (I2.env0.make C us []) r2 hq) fun r s' hq' => ?_))
  cases r with
  | error e => exact hx pins _ _ e s' I2 hq'
  | ok fl =>
    cases fl with
    | ret u =>
      obtain ⟨v, H', I3, rv, ev, q3⟩ := I2.after hq'
      subst ev
      exact ⟨rv, ⟨V.ref (s.heap.objs.size + 1), H', I3, rfl, q3⟩⟩
    | next => exact False.elim hq'
    | brk => exact False.elim hq'
    | cont => exact False.elim hq'
theorem pe_makeRS {E : St → XK} (M : Mk X.K C f) (F : FnR X.prog X.w X.K X.mg X.base CX k f sp) (hr : Room (k + 1) X.A) (hg : Gl X x) (hm : X.mg x = some (.ref C)) (hx : ∀ σ, PassesAt CX X σ (E σ)) (ha : PA X (e :: es) t) (hdb : (x == ("__debug__" : Str)) = false := by decide)
    (he : starEach (e :: es) X.env = (false, eval e X.env) :: starEach es X.env := by rfl) (hpl : (backTo pos (starEach es X.env)).any (·.1) = false := by rfl) : PE X (.Call (.Name x p) (e :: es) [] pos)
      (fun σ H Q => t σ H fun vs H1 => ∀ x dx, H1 x = Option.none → H1 dx = Option.none → dx ≠ x → sp (V.ref x :: vs) (upd (upd H1 dx (.own x)) x (.ins C dx [])) (fun v H2 => v = .non ∧ Q (.ref x) H2) (E σ)) := by
  refine ⟨fun pins s σ H Q I h => ?_⟩
  refine wpAny_Call_Name_kw (ld_glob I hg hm ?_ hdb)
  refine PySem.W.callWith_K (h₀ := X.base) I.ok.mod.kin M.kp (thn (ha.run pos pins s σ H _ I h) fun us s1 ⟨vs, H1, I1, r, q⟩ => ⟨I1.kIn, ?_⟩) he hpl
  exact run_makeRS M F hr (hx σ) I1 r q
/-- an operation, told of the slots -/
theorem pe_opS {op : Operator} {r : St → R2} {a b : Expr} {ta tb : TE} (ho : ∀ (pins : List (Addr × Obj)) (s : Shared) (σ : St) (H : Hp) (x y : V) (v u : Value) (Q : VK), Inv X pins σ H s → RelV x v → RelV y u → r σ x y H Q → wpAny (model X.prog X.w) X.A (binaryOp op v u) (EP X pins σ Q) X.xe s)
    (ha : PE X a ta) (hb : PE X b tb) : PE X (.BinOp a op b pos) (fun σ H Q => ta σ H fun x H1 => tb σ H1 fun y H2 => r σ x y H2 Q) := by
  refine ⟨fun pins s σ H Q I h => ?_⟩
  exact wpAny_BinOp (binT ha hb I h fun v u s2 x y H2 I2 rx ry q => ho pins s2 σ H2 x y v u Q I2 rx ry q)
theorem pe_unS {op : UnaryOp} {r : St → V → Hp → VK → Prop} {a : Expr} {ta : TE} (ho : ∀ (pins : List (Addr × Obj)) (s : Shared) (σ : St) (H : Hp) (x : V) (v : Value) (Q : VK), Inv X pins σ H s → RelV x v → r σ x H Q → wpAny (model X.prog X.w) X.A (unaryOp op v) (EP X pins σ Q) X.xe s)
    (ha : PE X a ta) : PE X (.UnaryOp op a pos) (fun σ H Q => ta σ H fun x H1 => r σ x H1 Q) := by
  refine ⟨fun pins s σ H Q I h => ?_⟩
  exact UnaryOp_ (thn (ha.run pins s σ H _ I h) fun v s1 ⟨x, H1, I1, r1, q1⟩ => ho pins s1 σ H1 x v Q I1 r1 q1)
end
end L2
namespace DL
open PySem PySem.Spec PyProof.Rows L2 TL
/-! ### contracts -/
/-- an error of the class at C whose field n holds d goes out -/
def spR (K : PySem.W.Frag) (C : Addr) (n : Str) (Ar : Om → List D → D → Prop) : Sp := fun vs H _ E => ∃ (F : Addr → Bool) (L : Om) (ds : List D) (d : D), Bor K F L [] H ∧ RpL K (vis F [] H) vs ds ∧ Ar L ds d ∧
  ∀ dx v H', Same H H' → H' dx = some (.xd [(n, v)]) → Rp K (vis F [] H') v d → E (.ref C) (some dx) H'
def spRI (K : PySem.W.Frag) (C0 C : Addr) (n : Str) (Ar : Om → List D → D → Prop) : Sp := fun vs H _ E => ∃ (F : Addr → Bool) (L : Om) (x dx : Addr) (us : List V) (ds : List D) (d : D), vs = .ref x :: us ∧ Bor K F L [(x, .ins C0 [] [])] H ∧ F x = false ∧
  H x = some (.ins C0 dx []) ∧ RpL K (vis F [(x, .ins C0 [] [])] H) us ds ∧ Ar L ds d ∧
  ∀ ex v H', (∀ a o, a ≠ x → H a = some o → H' a = some o) → H' ex = some (.xd [(n, v)]) → Rp K (vis F [(x, .ins C0 [] [])] H') v d → E (.ref C) (some ex) H'
/-- the post of what raises -/
def aX (C : Addr) (n : Str) (d : D) : AE := { nx := fun _ _ => False, rt := fun _ _ => False, ex := fun C' n' d' _ _ => C' = C ∧ n' = n ∧ d' = d }
/-- an expression that raises -/
def tER (K : PySem.W.Frag) (B : Gd) (ρ : List (Option D)) (O : Om) (C : Addr) (n : Str) (d : D) : TE := fun σ H _ => StOk K B ρ O σ H ∧
  ∀ dx v H', Same H H' → H' dx = some (.xd [(n, v)]) → Rp K (vis B.F O H') v d → B.W (.ref C) (some dx) σ H'
abbrev ER (X : Cx) (B : Gd) (ρ : List (Option D)) (O : Om) (e : Expr) (C : Addr) (n : Str) (d : D) : Prop := PE X e (tER X.K B ρ O C n d)
section
variable {X : Cx} {B : Gd} {ρ : List (Option D)} {O : Om} {d : D} {C C0 f : Addr} {ds fs es' : List D} {k : Nat} {n x : Str} {o a b e : Expr} {es : List Expr} {pos pos2 p apos : Pos} {rest : List Stmt}
theorem has_xd {K : PySem.W.Frag} {H H' : Hp} {dx : Addr} {q : List (Str × V)} (m : MOk K B O H) (e : Same H H') (h : H' dx = some (.xd q)) : has O dx = false := by
  cases z : has O dx with
  | false => rfl
  | true =>
    obtain ⟨mm, hm⟩ := has_mem.mp z
    have r := m.mem dx mm hm
    cases mm with
    | lst ds => obtain ⟨vs, h1, _⟩ := r; rw [e _ _ h1] at h; cases h
    | ins C ns ds => obtain ⟨d', fv, h1, _⟩ := r; rw [e _ _ h1] at h; cases h
    | dk kvs => obtain ⟨kv, h1, _⟩ := r; rw [e _ _ h1] at h; cases h
    | dct ks => obtain ⟨_, _, _, _, h1, _⟩ := r; rw [e _ _ h1] at h; cases h
theorem spR_use {K : PySem.W.Frag} {Ar : Om → List D → D → Prop} {H : Hp} {Q : VK} {E : XK} {vs : List V} (m : MOk K B O H) (r : RpL K (vis B.F O H) vs ds) (h : Ar (B.L ++ O) ds d) (k : ∀ dx v H', Same H H' → H' dx = some (.xd [(n, v)]) → Rp K (vis B.F O H') v d → E (.ref C) (some dx) H') : spR K C n Ar vs H Q E :=
  ⟨frF B O, B.L ++ O, ds, d, bor_of m, by rw [vis_fr]; exact r, h, fun dx v H' e hx r' => k dx v H' e hx (by rw [vis_fr] at r'; exact r')⟩
theorem madeR_use {K : PySem.W.Frag} {Ar : Om → List D → D → Prop} {H : Hp} {Q : VK} {E : XK} {vs : List V} (m : MOk K B O H) (r : RpL K (vis B.F O H) vs ds) (h : Ar (B.L ++ O) ds d)
    (k : ∀ dx v H', Same H H' → H' dx = some (.xd [(n, v)]) → Rp K (vis B.F O H') v d → E (.ref C) (some dx) H') (x dx : Addr) (hx : H x = none) (hdx : H dx = none) (ne : dx ≠ x) :
    spRI K C0 C n Ar (V.ref x :: vs) (upd (upd H dx (.own x)) x (.ins C0 dx [])) Q E := by
  have s1 : Same H (upd (upd H dx (.own x)) x (.ins C0 dx [])) := fun b o e => by
    rw [upd_ne (ne_of_none e hx), upd_ne (ne_of_none e hdx)]
    exact e
  have fx : frF B O x = false := by
    unfold frF
    rw [m.newF hx, m.newO hx]; rfl
  have v1 : Same (vis B.F O H) (vis (frF B O) [(x, .ins C0 [] [])] (upd (upd H dx (.own x)) x (.ins C0 dx []))) := fun a o q => by
    obtain ⟨h1, h2, h3⟩ := vis_some.mp q
    have na : a ≠ x := ne_of_none h3 hx
    refine vis_some.mpr ⟨by unfold frF; rw [h1, h2]; rfl, ?_, s1 _ _ h3⟩
    rw [has_cons]
    show (x == a || false) = false
    rw [Bool.or_false]
    exact beq_eq_false_iff_ne.mpr (Ne.symm na)
  have bo := bor_of m
  refine ⟨frF B O, B.L ++ O, x, dx, vs, ds, d, rfl, ⟨fun a h => let ⟨o, e⟩ := fr_ok m a h; ⟨o, s1 _ _ e⟩, bo.lF, fun a mm hm => (show MRp K (vis B.F O H) H a mm by rw [← vis_fr]; exact bo.lent a mm hm).mono v1 fun o q => s1 _ _ q⟩, fx, upd_same, r.mono v1, h, fun ex v H' hk hex r' => ?_⟩
  have s2 : Same H H' := fun b o e => hk b o (ne_of_none e hx) (s1 b o e)
  refine k ex v H' s2 hex (r'.mono fun a o q => ?_)
  obtain ⟨h1, h2, h3⟩ := vis_some.mp q
  unfold frF at h1
  rw [Bool.or_eq_false_iff] at h1
  exact vis_some.mpr ⟨h1.1, h1.2, h3⟩
/-! ### calls that raise -/
theorem er_call {Ar : Om → List D → D → Prop} (c : Cal X.prog X.w X.K X.mg X.base (L2.CX X.prog X.w) k x (spR X.K C n Ar)) (hr : Room k X.A) (tk : Takes X B.W) (hg : Gl X x) (ha : EA X B ρ O (e :: es) ds) (h : Ar (B.L ++ O) ds d) (hdb : (x == ("__debug__" : Str)) = false := by decide)
    (he : starEach (e :: es) X.env = (false, eval e X.env) :: starEach es X.env := by rfl) (hpl : (backTo pos (starEach es X.env)).any (·.1) = false := by rfl) : ER X B ρ O (.Call (.Name x p) (e :: es) [] pos) C n d := by
  obtain ⟨f, F, hm⟩ := c.ex
  exact pe_imp (pe_callRS (E := WE B.W) F.raw hr hg hm F.kp (fun σ => passAt tk σ) ha hdb he hpl) fun σ H Q ⟨st, k⟩ => ⟨st, fun vs H1 e1 r1 => spR_use (st.same e1).m r1 h fun dx v H2 e2 hx r2 => k dx v H2 (e1.trans e2) hx r2⟩
theorem er_make {Ar : Om → List D → D → Prop} (Mk : Mk X.K C0 f) (F : Fok X.prog X.w X.K X.mg X.base (L2.CX X.prog X.w) k f (spRI X.K C0 C n Ar)) (hr : Room (k + 1) X.A) (tk : Takes X B.W) (hg : Gl X x) (hm : X.mg x = some (.ref C0)) (ha : EA X B ρ O (e :: es) ds) (h : Ar (B.L ++ O) ds d) (hdb : (x == ("__debug__" : Str)) = false := by decide)
    (he : starEach (e :: es) X.env = (false, eval e X.env) :: starEach es X.env := by rfl) (hpl : (backTo pos (starEach es X.env)).any (·.1) = false := by rfl) : ER X B ρ O (.Call (.Name x p) (e :: es) [] pos) C n d :=
  pe_imp (pe_makeRS (E := WE B.W) Mk F.raw hr hg hm (fun σ => passAt tk σ) ha hdb he hpl) fun σ H Q ⟨st, k⟩ => ⟨st, fun vs H1 e1 r1 y dy hy hdy ne => madeR_use (st.same e1).m r1 h (fun dx v H2 e2 hx r2 => k dx v H2 (e1.trans e2) hx r2) y dy hy hdy ne⟩
theorem backE {pins : List (Addr × Obj)} {σ : L2.St} {Q Q' : VK} {v : Value} {s' : Shared} (h : EP X pins σ Q v s') (k : ∀ x H, Q x H → False) : PySem.W.CmpBack (EP X pins σ Q') v s' := by
  obtain ⟨x, H', I, r, q⟩ := h
  exact (k _ _ q).elim
/-- .. by an operator -/
theorem er_binO {op : Operator} {Ar : Om → List D → D → Prop} {ns ns' : List Str} {ds' : List D} (ha : EV X B ρ O a (.obj C0 ns ds)) (hb : EV X B ρ O b (.obj C0 ns' ds')) (bo : BinOf X.K C0 op.info.2 f) (F : Fok X.prog X.w X.K X.mg X.base (L2.CX X.prog X.w) k f (spR X.K C n Ar)) (hr : Room k X.A) (tk : Takes X B.W)
    (h : Ar (B.L ++ O) [.obj C0 ns ds, .obj C0 ns' ds'] d) : ER X B ρ O (.BinOp a op b pos) C n d :=
  pe_imp (pe_opS (r := fun σ x y H _ => ∃ p q, x = .ref p ∧ y = .ref q ∧ StX.InsC X H p C0 ∧ StX.InsC X H q C0 ∧ spR X.K C n Ar [.ref p, .ref q] H (fun _ _ => False) (WE B.W σ)) (fun pins s σ H x y v u Q I rx ry h => by
    obtain ⟨p, q, rfl, rfl, h1, h2, h3⟩ := h
    cases rx
    cases ry
    obtain ⟨ox, od, J, _⟩ := StX.insC_at I h1
    obtain ⟨ox2, od2, J2, _⟩ := StX.insC_at I h2
    refine PySem.W.dl_binI I.kIn J J2 bo.sf bo.at_ bo.fn ?_
    exact wpAny_mono (wpAny_call (run_fnRS (us := [.ref p, .ref q]) (vs := [.ref p, .ref q]) F.raw hr (passAt tk σ) I (.cons rfl (.cons rfl .nil)) h3)) (fun v s' hv => backE hv fun _ _ z => z) fun _ _ e => e) ha hb) fun σ H Q ⟨st, k⟩ => ⟨st, fun v H1 e1 r1 => ⟨st.same e1, fun u H2 e2 r2 => by
    have r1' := r1.mono (vis_same e2)
    cases r1' with
    | obj h1 h2 h3 =>
      cases r2 with
      | obj g1 g2 g3 =>
        exact ⟨_, _, rfl, rfl, .inr ⟨_, _, vis_le _ _ h1⟩, .inr ⟨_, _, vis_le _ _ g1⟩, spR_use ((st.same e1).same e2).m (.cons (Rp.obj h1 h2 h3) (.cons (Rp.obj g1 g2 g3) .nil)) h fun dx w H3 e3 hx r3 => k dx w H3 ((e1.trans e2).trans e3) hx r3⟩⟩⟩
theorem er_unO {op : UnaryOp} {nm : Str} {Ar : Om → List D → D → Prop} {ns : List Str} (ho : (op = .USub ∧ nm = "__neg__") ∨ (op = .Invert ∧ nm = "__invert__")) (ha : EV X B ρ O a (.obj C0 ns ds)) (mt : Meth X.K C0 nm f) (F : Fok X.prog X.w X.K X.mg X.base (L2.CX X.prog X.w) k f (spR X.K C n Ar)) (hr : Room k X.A) (tk : Takes X B.W)
    (h : Ar (B.L ++ O) [.obj C0 ns ds] d) : ER X B ρ O (.UnaryOp op a pos) C n d :=
  pe_imp (pe_unS (r := fun σ x H _ => ∃ p, x = .ref p ∧ StX.InsC X H p C0 ∧ spR X.K C n Ar [.ref p] H (fun _ _ => False) (WE B.W σ)) (fun pins s σ H x v Q I rx h => by
    obtain ⟨p, rfl, g1, g3⟩ := h
    cases rx
    obtain ⟨ox, od, J, _⟩ := StX.insC_at I g1
    have run := wpAny_call (run_fnRS (us := [.ref p]) (vs := [.ref p]) F.raw hr (passAt tk σ) I (.cons rfl .nil) g3)
    rcases ho with ⟨rfl, rfl⟩ | ⟨rfl, rfl⟩
    · unfold unaryOp
      refine wpAny_holding (wpAny_bind (PySem.W.special_fn I.kIn J mt.at_ (beq_iff_eq.mp mt.fn) (wpAny_mono run (fun _ _ z => ?_) fun _ _ z => z)))
      obtain ⟨_, _, _, _, q⟩ := z; exact q.elim
    · unfold unaryOp
      refine wpAny_holding (wpAny_bind (PySem.W.special_fn I.kIn J mt.at_ (beq_iff_eq.mp mt.fn) (wpAny_mono run (fun _ _ z => ?_) fun _ _ z => z)))
      obtain ⟨_, _, _, _, q⟩ := z; exact q.elim) ha) fun σ H Q ⟨st, k⟩ => ⟨st, fun v H1 e1 r1 => by
    cases r1 with
    | obj h1 h2 h3 => exact ⟨_, rfl, .inr ⟨_, _, vis_le _ _ h1⟩, spR_use (st.same e1).m (.cons (Rp.obj h1 h2 h3) .nil) h fun dx w H3 e3 hx r3 => k dx w H3 (e1.trans e3) hx r3⟩⟩
/-- .. by a classmethod -/
theorem er_cmeth {Ar : Om → List D → D → Prop} {m : Str} {mc : Value} {pp g : Addr} {es' : List D} (he : EV X B ρ O o (.rf C0)) (rd : ClX.CRead X.K C0 mc) (c : ClX.CMet X.K C0 mc m pp g) (F : Fok X.prog X.w X.K X.mg X.base (L2.CX X.prog X.w) k g (spR X.K C n Ar)) (hr : Room k X.A) (tk : Takes X B.W) (ha : EA X B ρ O (e :: es) es')
    (h : Ar (B.L ++ O) (.rf C0 :: es') d) (pl : Sem Bool)
    (hst : starEach (e :: es) X.env = (false, eval e X.env) :: starEach es X.env := by rfl) (hpl : (backTo pos (starEach es X.env)).any (·.1) = false := by rfl)
    (ht : eval (.Call (.Attribute o m apos) (e :: es) [] pos) X.env = (do
      let ov ← eval o X.env
      standAt apos.atName
      let (f, first) ← holding [ov] (getMethod ov m pl)
      callWith pos f first (backTo pos (starEach (e :: es) X.env)) (backToKw pos (keywordEach [] X.env))) := by rfl) :
    ER X B ρ O (.Call (.Attribute o m apos) (e :: es) [] pos) C n d := by
  have z : PE X (.Call (.Attribute o m apos) (e :: es) [] pos) (fun σ H Q => tD X.K B ρ O (.rf C0) σ H fun x H1 => x = .ref C0 ∧ tA X.K B ρ O es' σ H1 fun vs H2 => spR X.K C n Ar (.ref C0 :: vs) H2 Q (WE B.W σ)) := by
    refine ⟨fun pins s σ H Q I h => ?_⟩
    refine PySem.W.methodCall_KW (pl := pl) (thn (he.run pins s σ H _ I h) fun u s1 ⟨x, H1, I1, rx, ex, q⟩ => ?_) ht
    subst ex
    obtain rfl : u = Value.ref C0 := rx
    refine ClX.getmethcm_ok I1 rd c fun s2 I2 => ?_
    refine ClX.callwith_cm I2 (ClX.base_none I1 (Nat.le_refl _)) c.fi (thn (ha.run pos _ s2 σ H1 _ I2 q) fun us s3 ⟨vs, H2, I3, rv, q2⟩ => ⟨⟨ClX.pin_at I3, I3.kIn⟩, ?_⟩) hst hpl
    exact thn (wpAny_call (PySem.W.method_call (ClX.pin_at I3) (run_fnRS (us := .ref C0 :: us) (vs := .ref C0 :: vs) F.raw hr (passAt tk σ) I3 (.cons rfl rv) q2))) fun _ _ y => ClX.unpinE y
  exact pe_imp z fun σ H Q ⟨st, k⟩ => ⟨st, fun v H1 e1 r1 => by
    cases r1
    exact ⟨rfl, st.same e1, fun vs H2 e2 r2 => spR_use ((st.same e1).same e2).m (.cons (.rf C0) r2) h fun dx w H3 e3 hx r3 => k dx w H3 ((e1.trans e2).trans e3) hx r3⟩⟩
/-! ### statements that raise -/
theorem j_raise {A : AE} {x : Str} {a : Expr} {fI : Addr} (hc : X.calm = true) (T : PySem.ErX.ErrT X.prog X.K X.mg C fI n) (gC : X.mg x = some (.ref C)) (hr : Room k X.A) (tk : Takes X B.W) (hg : Gl X x) (ha : EV X B ρ O a d) (hdb : (x == ("__debug__" : Str)) = false := by decide)
    (he : starEach (a :: []) X.env = (false, eval a X.env) :: starEach [] X.env := by rfl) (hpl : (backTo pos (starEach [] X.env)).any (·.1) = false := by rfl) (h : A.ex C n d ρ O) : J1 X B (.Raise (some (.Call (.Name x p) [a] [] pos)) none pos2) ρ O A :=
  ps_imp (ps_raise hc tk (pmk_err T gC hr (ea_cons ha ea_nil he) hg hdb he hpl)) fun Dn σ H ⟨st, pp⟩ => ⟨st, fun vs H1 e1 r1 => by
    cases r1 with
    | @cons v0 vs0 d0 ds0 r rn =>
      cases rn
      refine ⟨v0, rfl, fun dx hdx => ?_⟩
      have e2 : Same H1 (upd H1 dx (.xd [(n, v0)])) := same_new hdx
      exact pp.ex C n d ρ O σ _ dx _ h ((st.same e1).same e2) (vis_same (e1.trans e2)) upd_same (has_xd (st.same e1).m e2 upd_same) (r.mono (vis_same e2))⟩
theorem j_retR {A : AE} (he : ER X B ρ O e C n d) (h : A.ex C n d ρ O) : J1 X B (.Return (some e) pos) ρ O A :=
  ps_imp (ps_ret he) fun Dn σ H ⟨st, pp⟩ => ⟨st, fun dx v H1 e1 hx r1 => pp.ex C n d ρ O σ H1 dx v h (st.same e1) (vis_same e1) hx (has_xd st.m e1 hx) r1⟩
theorem j_setR {A : AE} {i : Nat} {x : Str} {pos' : Pos} (hN : X.N.Nodup) (hi : X.N[i]? = some x) (hx : Loc X.env.scope x) (he : ER X B ρ O e C n d) (hs : swapsWith e (some (.Name x pos')) pos.line X.env = pure false) (hf : X.fn x = true ∨ X.env.scope.names.lookup x = some .local) (h : A.ex C n d ρ O) : J1 X B (.Assign [.Name x pos'] e pos) ρ O A :=
  ps_imp (ps_set hN hi hx he hs hf) fun Dn σ H ⟨st, pp⟩ => ⟨st, fun dx v H1 e1 hx r1 => pp.ex C n d ρ O σ H1 dx v h (st.same e1) (vis_same e1) hx (has_xd st.m e1 hx) r1⟩
theorem j_exprR {A : AE} (he : ER X B ρ O e C n d) (h : A.ex C n d ρ O) (hs : swapsWith e none pos.line X.env = pure false := by rfl) : J1 X B (.Expr e pos) ρ O A :=
  ps_imp (ps_expr he hs) fun Dn σ H ⟨st, pp⟩ => ⟨st, fun dx v H1 e1 hx r1 => pp.ex C n d ρ O σ H1 dx v h (st.same e1) (vis_same e1) hx (has_xd st.m e1 hx) r1⟩
end
end DL

set_option Elab.async false
set_option linter.all false
set_option maxRecDepth 100000
set_option maxHeartbeats 4000000
namespace DL
open PySem PySem.Spec PyProof.Rows L2 TL
/-! ### a def that may raise -/
inductive Out where
  | val (d : D)
  | exn (C : Addr) (n : Str) (d : D)
inductive OutI where
  | val (ns : List Str) (fs : List D)
  | exn (C : Addr) (n : Str) (d : D)
def FlatD (d : D) : Prop := (∃ i, d = .int i) ∨ ∃ z, d = .str z
theorem flat_rp {K : PySem.W.Frag} {H H' : Hp} {v : V} {d : D} (f : FlatD d) (r : Rp K H v d) : Rp K H' v d := by
  rcases f with ⟨i, rfl⟩ | ⟨z, rfl⟩
  · cases r; exact .int i
  · cases r; exact .str z
def postX : Out → AE
  | .val d => { nx := fun _ O' => Frz O' .non d, rt := fun d' O' => Frz O' d' d }
  | .exn C n d => aX C n d
def spX (K : PySem.W.Frag) (Ar : Om → List D → Out → Prop) : Sp := fun vs H Q E => ∃ (F : Addr → Bool) (L : Om) (ds : List D) (out : Out), Bor K F L [] H ∧ RpL K (vis F [] H) vs ds ∧ Ar L ds out ∧
  match out with
  | .val d => ∀ v H', Same H H' → Rp K (vis F [] H') v d → Q v H'
  | .exn C n d => ∀ dx v H', Same H H' → H' dx = some (.xd [(n, v)]) → Rp K (vis F [] H') v d → E (.ref C) (some dx) H'
def spXI (K : PySem.W.Frag) (C0 : Addr) (Ar : Om → List D → OutI → Prop) : Sp := fun vs H Q E => ∃ (F : Addr → Bool) (L : Om) (x dx : Addr) (us : List V) (ds : List D) (out : OutI), vs = .ref x :: us ∧ Bor K F L [(x, .ins C0 [] [])] H ∧ F x = false ∧
  H x = some (.ins C0 dx []) ∧ RpL K (vis F [(x, .ins C0 [] [])] H) us ds ∧ Ar L ds out ∧
  match out with
  | .val ns fs => ∀ H' dx' fv, (∀ a o, a ≠ x → H a = some o → H' a = some o) → H' x = some (.ins C0 dx' fv) → fv.map (·.1) = ns → RpL K (vis F [(x, .ins C0 [] [])] H') (fv.map (·.2)) fs → Q .non H'
  | .exn C n d => FlatD d ∧ ∀ ex v H', (∀ a o, a ≠ x → H a = some o → H' a = some o) → H' ex = some (.xd [(n, v)]) → Rp K (vis F [(x, .ins C0 [] [])] H') v d → E (.ref C) (some ex) H'
section
variable {P : Program} {w : World} {K : PySem.W.Frag} {mg : Str → Option Value} {base : Heap}
/-- what never raises is as good as a calm def -/
theorem calm_fn {CX : CXT} {k : Nat} {f : Addr} {fd : FuncData} {ps : List Str} {sp : Sp} (F : FnOk P w K mg base (L2.CX P w) k f fd ps sp) (h : ∀ vs H Q E E', sp vs H Q E → sp vs H Q E') : FnOk P w K mg base CX0 k f fd ps sp :=
  ⟨F.len, fun A outer s H args us vs Q E hr he hb hv hs => codeAny_mono (F.run A outer s H args us vs Q E0 hr he hb hv (h _ _ _ _ _ hs)) fun r s' q => by
    cases r with
    | ok fl =>
      cases fl with
      | ret u => exact q
      | next => exact q
      | brk => exact q
      | cont => exact q
    | error e =>
      obtain ⟨_, _, _, _, _, _, _, _, _, _, _, _, z⟩ := q
      exact z.elim⟩
theorem spX_P {CX : CXT} {k : Nat} {f : Addr} {fd : FuncData} {ps : List Str} {Ar : Om → List D → Out → Prop} (F : FnOk P w K mg base CX k f fd ps (spX K Ar)) : FnOk P w K mg base CX k f fd ps (spP K fun L ds d => Ar L ds (.val d)) :=
  F.imp fun vs H Q E ⟨F', L, ds, d, a, b, c, e⟩ => ⟨F', L, ds, .val d, a, b, c, e⟩
theorem spX_R {CX : CXT} {k : Nat} {f C : Addr} {n : Str} {fd : FuncData} {ps : List Str} {Ar : Om → List D → Out → Prop} (F : FnOk P w K mg base CX k f fd ps (spX K Ar)) : FnOk P w K mg base CX k f fd ps (spR K C n fun L ds d => Ar L ds (.exn C n d)) :=
  F.imp fun vs H Q E ⟨F', L, ds, d, a, b, c, e⟩ => ⟨F', L, ds, .exn C n d, a, b, c, e⟩
theorem spXI_I {CX : CXT} {k : Nat} {f C0 : Addr} {fd : FuncData} {ps : List Str} {Ar : Om → List D → OutI → Prop} (F : FnOk P w K mg base CX k f fd ps (spXI K C0 Ar)) : FnOk P w K mg base CX k f fd ps (spI K C0 fun L ds ns fs => Ar L ds (.val ns fs)) :=
  F.imp fun vs H Q E ⟨F', L, x, dx, us, ds, ns, fs, a, b, c, e, g, h, i⟩ => ⟨F', L, x, dx, us, ds, .val ns fs, a, b, c, e, g, h, i⟩
theorem spXI_R {CX : CXT} {k : Nat} {f C0 C : Addr} {n : Str} {fd : FuncData} {ps : List Str} {Ar : Om → List D → OutI → Prop} (F : FnOk P w K mg base CX k f fd ps (spXI K C0 Ar)) : FnOk P w K mg base CX k f fd ps (spRI K C0 C n fun L ds d => Ar L ds (.exn C n d) ∧ FlatD d) :=
  F.imp fun vs H Q E ⟨F', L, x, dx, us, ds, d, a, b, c, e, g, h, i⟩ => ⟨F', L, x, dx, us, ds, .exn C n d, a, b, c, e, g, h.1, h.2, i⟩
theorem fn_pureX {Ar : Om → List D → Out → Prop} {x qual : Str} {st : Stmt} {f : Addr} {fd : FuncData} {N ps : List Str} {k : Nat} (F : Fun K x qual st f fd) (S : FnScope N ps (defScope st)) (len : ∀ L ds d, Ar L ds d → ds.length = ps.length)
    (h : ∀ (cdv : Value) (A : Around) (outer : List Env) (s : Shared) (H : Hp) (E : XK) (B : Gd) (ds : List D) (out : Out), Room k (A.deeper (envOfC qual (defScope st) s.heap.objs.size f cdv)) → Takes (cxOf (L2.CX P w) P w K mg base N qual (defScope st) f cdv A outer s H E) B.W →
      PassesOwn (model P w) (cxOf (L2.CX P w) P w K mg base N qual (defScope st) f cdv A outer s H E).A (cxOf (L2.CX P w) P w K mg base N qual (defScope st) f cdv A outer s H E).env (cxOf (L2.CX P w) P w K mg base N qual (defScope st) f cdv A outer s H E).xe → Ar B.L ds out →
      J (cxOf (L2.CX P w) P w K mg base N qual (defScope st) f cdv A outer s H E) B (defBody st) (startD N ds) [] (postX out)) : FnOk P w K mg base (L2.CX P w) (k + 1) f fd ps (spX K Ar) := by
  refine F.okX S (fun vs H Q E q => ?_) (fun cdv A outer s H vs Q E hr q => ?_)
  · obtain ⟨F', L, ds, d, _, r, ha, _⟩ := q
    rw [r.length]; exact len L ds d ha
  · obtain ⟨F', L, ds, out, bo, r, ha, kk⟩ := q
    refine ⟨_, h cdv A outer s H E ⟨F', H, fun c d _ H => E c d H, L, bo.ok, bo.lF⟩ ds out hr (takes_of rfl rfl rfl rfl) (passes_of rfl) ha, ⟨⟨fun a o e => ⟨e, rfl⟩, (fun a m hm => nomatch hm), (by simp), bo.lent⟩, start_env r⟩, ?_⟩
    cases out with
    | val d =>
      refine ⟨?_, ?_, fun _ _ _ _ z => z.elim, fun _ _ _ _ z => z.elim, fun _ _ _ _ _ _ _ _ _ z => z.elim⟩
      · intro ρ O σ H' fz s' _
        exact kk _ H' (fun a o q => (s'.m.base a o q).1) (Rp.frz vis_all s'.m.frz fz .non)
      · intro d' O' v H' fz m r'
        exact kk v H' (fun a o q => (m.base a o q).1) (Rp.frz vis_all m.frz fz r')
    | exn C n d =>
      refine ⟨fun _ _ _ _ z => z.elim, fun _ _ _ _ z => z.elim, fun _ _ _ _ z => z.elim, fun _ _ _ _ z => z.elim, ?_⟩
      rintro C' n' d' ρ O σ H' dx v ⟨rfl, rfl, rfl⟩ s' _ hx _ r'
      exact kk dx v H' (fun a o q => (s'.m.base a o q).1) hx (r'.mono vis_all)
theorem fn_initX {C0 : Addr} {Ar : Om → List D → OutI → Prop} {x qual : Str} {st : Stmt} {f : Addr} {fd : FuncData} {N ps : List Str} {k : Nat} (F : Fun K x qual st f fd) (S : FnScope N ps (defScope st)) (len : ∀ L ds out, Ar L ds out → ds.length + 1 = ps.length)
    (h : ∀ (cdv : Value) (A : Around) (outer : List Env) (s : Shared) (H : Hp) (E : XK) (B : Gd) (x : Addr) (ds : List D) (out : OutI), Room k (A.deeper (envOfC qual (defScope st) s.heap.objs.size f cdv)) → Takes (cxOf (L2.CX P w) P w K mg base N qual (defScope st) f cdv A outer s H E) B.W →
      PassesOwn (model P w) (cxOf (L2.CX P w) P w K mg base N qual (defScope st) f cdv A outer s H E).A (cxOf (L2.CX P w) P w K mg base N qual (defScope st) f cdv A outer s H E).env (cxOf (L2.CX P w) P w K mg base N qual (defScope st) f cdv A outer s H E).xe → Ar B.L ds out →
      J (cxOf (L2.CX P w) P w K mg base N qual (defScope st) f cdv A outer s H E) B (defBody st) (startD N (.rf x :: ds)) [(x, .ins C0 [] [])] (match out with
        | .val ns fs => { nx := fun _ O' => ∃ fs' O1, O' = O1 ++ [(x, .ins C0 ns fs')] ∧ FrzL O1 fs' fs, rt := fun _ _ => False }
        | .exn C n d => aX C n d)) : FnOk P w K mg base (L2.CX P w) (k + 1) f fd ps (spXI K C0 Ar) := by
  refine F.okX S (fun vs H Q E q => ?_) (fun cdv A outer s H vs Q E hr q => ?_)
  · obtain ⟨F', L, x, dx, us, ds, out, rfl, _, _, _, r, ha, _⟩ := q
    rw [List.length_cons, r.length]; exact len L ds out ha
  · obtain ⟨F', L, x, dx, us, ds, out, rfl, bo, fx, hx, r, ha, kk⟩ := q
    let Hb : Hp := fun a => if a = x then none else H a
    have hbx : ∀ a o, Hb a = some o → a ≠ x ∧ H a = some o := fun a o e => by
      have e' : (if a = x then none else H a) = some o := e
      by_cases q : a = x
      · rw [if_pos q] at e'; cases e'
      · rw [if_neg q] at e'; exact ⟨q, e'⟩
    have hF' : ∀ a, F' a = true → ∃ o, Hb a = some o := fun a h => by
      obtain ⟨o, e⟩ := bo.ok a h
      have ne : a ≠ x := fun z => by rw [z, fx] at h; cases h
      exact ⟨o, by show (if a = x then none else H a) = _; rw [if_neg ne]; exact e⟩
    have hS : ∀ {ρ O σ H'}, StOk K ⟨F', Hb, fun c d _ H => E c d H, L, hF', bo.lF⟩ ρ O σ H' → ∀ a o, a ≠ x → H a = some o → H' a = some o := fun s' a o na q => (s'.m.base a o (by show (if a = x then none else H a) = _; rw [if_neg na]; exact q)).1
    refine ⟨_, h cdv A outer s H E ⟨F', Hb, fun c d _ H => E c d H, L, hF', bo.lF⟩ x ds out hr (takes_of rfl rfl rfl rfl) (passes_of rfl) ha, ⟨⟨fun a o e => ?_, fun a m hm => ?_, by simp, bo.lent⟩, start_env (.cons (.rf x) r)⟩, ?_⟩
    · obtain ⟨n, e⟩ := hbx a o e
      refine ⟨e, ?_⟩
      show (x == a || false) = false
      rw [Bool.or_false]
      exact beq_eq_false_iff_ne.mpr (Ne.symm n)
    · cases List.mem_singleton.mp hm
      exact ⟨dx, [], hx, rfl, .nil⟩
    · cases out with
      | exn C n d =>
        refine ⟨fun _ _ _ _ z => z.elim, fun _ _ _ _ z => z.elim, fun _ _ _ _ z => z.elim, fun _ _ _ _ z => z.elim, ?_⟩
        rintro C' n' d' ρ O σ H' ex v ⟨rfl, rfl, rfl⟩ s' _ hex _ r'
        exact kk.2 ex v H' (hS s') hex (flat_rp kk.1 r')
      | val ns fs =>
        refine ⟨?_, fun _ _ _ _ z => z.elim, fun _ _ _ _ z => z.elim, fun _ _ _ _ z => z.elim, fun _ _ _ _ _ _ _ _ _ z => z.elim⟩
        rintro ρ O' σ H' ⟨fs', O1, rfl, fz⟩ s' _
        obtain ⟨dx', fv, h1, h2, h3⟩ := s'.m.mem x _ (List.mem_append_right _ List.mem_cons_self)
        have nd := s'.m.nd
        rw [List.map_append, List.nodup_append] at nd
        have nx : ∀ p m, (p, m) ∈ O1 → p ≠ x := fun p m hp => nd.2.2 p (List.mem_map_of_mem (f := (·.1)) hp) x (by simp)
        have e1 : Same (vis F' (O1 ++ [(x, .ins C0 ns fs')]) H') (vis F' [(x, .ins C0 [] [])] H') := fun a o q => by
          obtain ⟨q1, q2, q3⟩ := vis_some.mp q
          refine vis_some.mpr ⟨q1, ?_, q3⟩
          unfold has at q2 ⊢
          rw [List.any_append, Bool.or_eq_false_iff] at q2
          exact q2.2
        refine kk H' dx' fv (hS s') h1 h2 (RpL.frz e1 (fun p m hp => ?_) fz h3)
        refine (s'.m.mem p m (List.mem_append_left _ hp)).mono (Same.refl _) fun o q => ?_
        have q' := s'.m.visM (has_mem.mpr ⟨m, List.mem_append_left _ hp⟩) q
        obtain ⟨g1, _, g3⟩ := vis_some.mp q'
        refine vis_some.mpr ⟨g1, ?_, g3⟩
        show (x == p || false) = false
        rw [Bool.or_false]
        exact beq_eq_false_iff_ne.mpr (Ne.symm (nx p m hp))
end
end DL

set_option Elab.async false
set_option linter.all false
set_option maxRecDepth 100000
set_option maxHeartbeats 4000000
namespace DL
open PySem PySem.Spec PyProof.Rows L2 TL
/-! ### mirrors of what raises -/
/-- where an error's class lies, how its field is called -/
abbrev ErrTab := Nat → Addr × Str
/-- the post of an error: at the slots ρ0, with the mutables O0 -/
def exq (ce : ErrTab) : Exn → Addr → Str → D → List (Option D) → Om → Prop := fun er C n d _ _ => C = (ce er.c).1 ∧ n = (ce er.c).2 ∧ d = er.d
def exq0 (ce : ErrTab) (ρ0 : List (Option D)) (O0 : Om) : Exn → Addr → Str → D → List (Option D) → Om → Prop := fun er C n d ρ O => (C = (ce er.c).1 ∧ n = (ce er.c).2 ∧ d = er.d) ∧ Wk ρ0 ρ ∧ O = O0
section
variable {α β S S2 L R : Type}
/-- a call's value, or its error -/
def Cmp.bindX (m : Cmp (Ctl Unit Unit α)) (k : α → Cmp (Ctl S L R)) : Cmp (Ctl S L R) := m.bind fun c => match c with
  | .rt v => k v
  | .ex e => .ret (.ex e)
  | _ => ⟨False, .ex ⟨0, .non⟩⟩
/-- the calm part: the value -/
def Cmp.calm [Inhabited α] (m : Cmp (Ctl Unit Unit α)) : Cmp α := m.bind fun c => match c with
  | .rt v => .ret v
  | _ => .bad
/-- what an __init__'s walk gives -/
def Cmp.made (m : Cmp (Ctl α Unit Unit)) : Cmp (Ctl Unit Unit α) := m.bind fun c => match c with
  | .nx v => .ret (.rt v)
  | .ex e => .ret (.ex e)
  | _ => ⟨False, .ex ⟨0, .non⟩⟩
def tryM (m : Cmp (Ctl S L R)) (h : Exn → Cmp R) : Cmp (Ctl S L R) := m.bind fun c => match c with
  | .ex e => (h e).bind fun r => .ret (.rt r)
  | c => .ret c
theorem bindX_rt {m : Cmp (Ctl Unit Unit α)} {k : α → Cmp (Ctl S L R)} {v : α} (h : m.val = .rt v) : (m.bindX k).ok = (m.ok ∧ (k v).ok) ∧ (m.bindX k).val = (k v).val := by
  unfold Cmp.bindX Cmp.bind; rw [h]; exact ⟨rfl, rfl⟩
theorem bindX_ex {m : Cmp (Ctl Unit Unit α)} {k : α → Cmp (Ctl S L R)} {e : Exn} (h : m.val = .ex e) : (m.bindX k).val = .ex e := by
  unfold Cmp.bindX Cmp.bind; rw [h]
theorem bindX_ok {m : Cmp (Ctl Unit Unit α)} {k : α → Cmp (Ctl S L R)} (h : (m.bindX k).ok) : m.ok ∧ ((∃ v, m.val = .rt v ∧ (k v).ok) ∨ ∃ e, m.val = .ex e) := by
  obtain ⟨h1, h2⟩ := h
  refine ⟨h1, ?_⟩
  cases q : m.val with
  | rt v => rw [q] at h2; exact .inl ⟨v, rfl, h2⟩
  | ex e => exact .inr ⟨e, rfl⟩
  | nx s => rw [q] at h2; exact h2.elim
  | bk s => rw [q] at h2; exact h2.elim
  | ct s => rw [q] at h2; exact h2.elim
end
section
variable {X : Cx} {B : Gd} {ρ ρ0 : List (Option D)} {O O0 : Om} {a b e : Expr} {es : List Expr} {d : D} {pos pos2 pos' np p : Pos} {rest body suite : List Stmt} {b₀ : Stmt} {x nm n : Str} {k i : Nat} {C fI : Addr} {ce : ErrTab}
variable {α β S S2 L R : Type} {st : S → List (Option D) → Om → Prop} {sl : L → List (Option D) → Om → Prop} {rt : R → D → Om → Prop} {ex : Exn → Addr → Str → D → List (Option D) → Om → Prop}
theorem exq_rfl {er : Exn} : exq ce er (ce er.c).1 (ce er.c).2 er.d ρ O := ⟨rfl, rfl, rfl⟩
theorem exq0_rfl {er : Exn} : exq0 ce ρ O er (ce er.c).1 (ce er.c).2 er.d ρ O := ⟨⟨rfl, rfl, rfl⟩, wk_refl, rfl⟩
theorem jc_raise {A : Ctl S L R → AE} {er : Nat} {m : D} (hc : X.calm = true) (T : PySem.ErX.ErrT X.prog X.K X.mg (ce er).1 fI (ce er).2) (gC : X.mg x = some (.ref (ce er).1)) (hr : Room k X.A) (tk : Takes X B.W) (hg : Gl X x) (ha : EV X B ρ O a d) (hex : (A (.ex ⟨er, d⟩)).ex (ce er).1 (ce er).2 d ρ O) (hdb : (x == ("__debug__" : Str)) = false := by decide)
    (he : starEach (a :: []) X.env = (false, eval a X.env) :: starEach [] X.env := by rfl) (hpl : (backTo pos (starEach [] X.env)).any (·.1) = false := by rfl) : JC X B (.Raise (some (.Call (.Name x p) [a] [] pos)) none pos2 :: rest) ρ O A (.ret (.ex ⟨er, d⟩)) := fun _ =>
  j_cons (j_raise hc T gC hr tk hg ha hdb he hpl hex)
theorem jc_retX {A : Ctl S L R → AE} {m : Cmp (Ctl Unit Unit β)} {E : β → D} {f : β → R} (hv : ∀ v, m.ok → m.val = .rt v → EV X B ρ O e (E v)) (hx : ∀ er, m.ok → m.val = .ex er → ER X B ρ O e (ce er.c).1 (ce er.c).2 er.d) (hrt : ∀ v, (A (.rt (f v))).rt (E v) O) (hex : ∀ er, (A (.ex er)).ex (ce er.c).1 (ce er.c).2 er.d ρ O) :
    JC X B (.Return (some e) pos :: rest) ρ O A (m.bindX fun v => .ret (.rt (f v))) := fun ok => by
  obtain ⟨ok1, ⟨v, hm, _⟩ | ⟨er, hm⟩⟩ := bindX_ok ok
  · rw [(bindX_rt hm).2]
    exact j_cons (j_ret (hv v ok1 hm) (hrt v))
  · rw [bindX_ex hm]
    exact j_cons (j_retR (hx er ok1 hm) (hex er))
theorem jc_setX {A : Ctl S L R → AE} {m : Cmp (Ctl Unit Unit β)} {E : β → D} {f : β → Cmp (Ctl S L R)} (i : Nat) (nd : X.N.Nodup) (hv : ∀ v, m.ok → m.val = .rt v → EV X B ρ O e (E v)) (hx : ∀ er, m.ok → m.val = .ex er → ER X B ρ O e (ce er.c).1 (ce er.c).2 er.d)
    (h : ∀ y, JC X B rest (ρ.set i (some (E y))) O A (f y)) (hex : ∀ er, (A (.ex er)).ex (ce er.c).1 (ce er.c).2 er.d ρ O) (hi : X.N[i]? = some x := by rfl) (hl : Loc X.env.scope x := by first | exact .inl rfl | exact .inr rfl) (hf : X.fn x = true ∨ X.env.scope.names.lookup x = some .local := by first | exact .inr rfl | exact .inl rfl) (hs : swapsWith e (some (.Name x pos')) pos.line X.env = pure false := by rfl) :
    JC X B (.Assign [.Name x pos'] e pos :: rest) ρ O A (m.bindX f) := fun ok => by
  obtain ⟨ok1, ⟨v, hm, ok2⟩ | ⟨er, hm⟩⟩ := bindX_ok ok
  · rw [(bindX_rt hm).2]
    exact j_cons (j_set nd hi hl (hv v ok1 hm) hs hf (h v ok2))
  · rw [bindX_ex hm]
    exact j_cons (j_setR nd hi hl (hx er ok1 hm) hs hf (hex er))
theorem jc_exprX {A : Ctl S L R → AE} {m : Cmp (Ctl Unit Unit β)} {E : β → D} {f : Cmp (Ctl S L R)} (hv : ∀ v, m.ok → m.val = .rt v → EV X B ρ O e (E v)) (hx : ∀ er, m.ok → m.val = .ex er → ER X B ρ O e (ce er.c).1 (ce er.c).2 er.d)
    (h : JC X B rest ρ O A f) (hex : ∀ er, (A (.ex er)).ex (ce er.c).1 (ce er.c).2 er.d ρ O) (hs : swapsWith e none pos.line X.env = pure false := by rfl) :
    JC X B (.Expr e pos :: rest) ρ O A (m.bindX fun _ => f) := fun ok => by
  obtain ⟨ok1, ⟨v, hm, ok2⟩ | ⟨er, hm⟩⟩ := bindX_ok ok
  · rw [(bindX_rt hm).2]
    exact j_cons (j_expr (eg_of (hv v ok1 hm)) (h ok2) hs)
  · rw [bindX_ex hm]
    exact j_cons (j_exprR (hx er ok1 hm) (hex er) hs)
/-! ### try -/
def onErr {R : Type} [Inhabited R] (i : Nat) (er : Exn) (f : Int → Cmp R) : Cmp R := if er.c = i then (match er.d with | .int z => f z | _ => .bad) else .bad
theorem onErr_ok {R : Type} [Inhabited R] {i : Nat} {er : Exn} {f : Int → Cmp R} (h : (onErr i er f).ok) : ∃ z, er = ⟨i, .int z⟩ ∧ (f z).ok ∧ onErr i er f = f z := by
  obtain ⟨c, d⟩ := er
  unfold onErr at h
  by_cases hc : c = i
  · subst hc
    simp only [if_true] at h
    cases d with
    | int z => exact ⟨z, rfl, h, by unfold onErr; simp⟩
    | _ => exact h.elim
  · simp only [hc, if_false] at h
    exact h.elim
theorem jc_onErr {R : Type} [Inhabited R] {A : R → AE} {er : Exn} {f : Int → Cmp R} {j : Nat} (h : ∀ z, er = ⟨j, .int z⟩ → JC X B rest ρ O A (f z)) : JC X B rest ρ O A (onErr j er f) := fun ok => by
  obtain ⟨z, e, o, q⟩ := onErr_ok ok
  rw [q]; exact h z e o
theorem takes_no : Takes X fun _ _ _ _ => False := fun u s' ⟨_, _, _, _, _, _, _, _, _, _, _, _, _, _, _, _, w⟩ => w.elim
/-- the ground of a suite: the error's own dict beside -/
def gdS (B : Gd) (dx : Addr) (q : List (Str × V)) : Gd where
  F := B.F
  Hb := upd B.Hb dx (.xd q)
  W := B.W
  L := B.L
  ok := fun a h => by
    by_cases z : a = dx
    · subst z; exact ⟨_, upd_same⟩
    · rw [upd_ne z]; exact B.ok a h
  lF := B.lF
theorem gdS_in {K : PySem.W.Frag} {H : Hp} {dx : Addr} {q : List (Str × V)} (m : MOk K B O H) (h : H dx = some (.xd q)) (ho : has O dx = false) : MOk K (gdS B dx q) O H :=
  ⟨fun a o e => by
    have e' : upd B.Hb dx (.xd q) a = some o := e
    by_cases z : a = dx
    · subst z; rw [upd_same] at e'; cases e'; exact ⟨h, ho⟩
    · rw [upd_ne z] at e'; exact m.base a o e', m.mem, m.nd, m.lent⟩
theorem gdS_out {K : PySem.W.Frag} {H H0 : Hp} {dx : Addr} {q : List (Str × V)} {O0 : Om} (m0 : MOk K B O0 H0) (h0 : H0 dx = some (.xd q)) (m : MOk K (gdS B dx q) O H) : MOk K B O H :=
  ⟨fun a o e => by
    refine m.base a o ?_
    show upd B.Hb dx (.xd q) a = some o
    by_cases z : a = dx
    · subst z
      have := (m0.base a o e).1
      rw [h0] at this
      rw [upd_same]; exact this
    · rw [upd_ne z]; exact e, m.mem, m.nd, m.lent⟩
/-- try: body except X as n: a suite that always hands back -/
theorem jc1_try {m : Cmp (Ctl S L R)} {h : Exn → Cmp R} {C0 : Addr} (i : Nat) (hs : X.stack = X.env :: X.outer) (hf : X.env.frame = some X.env.locals) (hN : X.N.Nodup) (hi : X.N[i]? = some nm) (hln : X.env.kindOf nm = some .local) (hc : Names X x (.ref C0)) (tk : Takes X fun _ _ _ _ => False)
    (hb : ∀ (W : WX) (pn : List (Addr × Obj)) (xe : Value → Shared → Prop), Takes (X.tr pn xe) W → PassesOwn (model X.prog X.w) X.A X.env xe → JC (X.tr pn xe) { B with W := W } body ρ O (aC st sl rt (exq0 ce ρ0 O0)) m)
    (hm : ∀ er, m.ok → m.val = .ex er → (h er).ok → PySem.W.exmOne X.K (.ref (ce er.c).1) (.ref C0) = some true ∧ FlatD er.d)
    (hsu : ∀ er, m.ok → m.val = .ex er → ∀ (a : Addr) (oe : Obj) (pn : List (Addr × Obj)) (dx : Addr) (v : V), Zc (.ref (ce er.c).1) (some dx) oe → (∃ vs, oe.data = .fields vs) → (∀ H, Rp X.K H v er.d) →
      JC (X.suite a ((a, oe) :: pn)) (gdS B dx [((ce er.c).2, v)]) (b₀ :: suite) (ρ0.set i (some (.rf a))) O0 (fun r => noNx (aR rt r)) (h er)) :
    JC1 X B (.Try body [.ExceptHandler (some (.Name x np)) (some nm) (b₀ :: suite) pos'] [] [] pos) ρ O (aC st sl rt ex) (tryM m h) := fun ok => by
  obtain ⟨ok1, ok2⟩ := ok
  let ts : Addr → Value → Option Addr → TS := fun a cls dd Dn σ H => ∃ (er : Exn) (dx : Addr) (v : V), m.val = .ex er ∧ cls = .ref (ce er.c).1 ∧ dd = some dx ∧ (∀ H, Rp X.K H v er.d) ∧ tW X.K (gdS B dx [((ce er.c).2, v)]) (ρ0.set i (some (.rf a))) O0 (noNx (aR rt (h er).val)) Dn σ H
  refine ps_imp (ps_try_as (tb := fun W => tW X.K { B with W := W } ρ O (aC st sl rt (exq0 ce ρ0 O0) m.val)) (ts := ts) (Wout := fun _ _ _ _ => False) hs hf hN hi hln hc tk (fun W pn xe t1 t2 => hb W pn xe t1 t2 ok1) (fun a oe cls dd pn hz hf2 => ?_)) fun Dn σ H ⟨s, p⟩ => ?_
  · refine ⟨fun pins s σ H Dn I ⟨er, dx, v, e1, e2, e3, e4, hw⟩ => ?_⟩
    subst e2; subst e3
    have ok3 : (h er).ok := by
      rw [e1] at ok2; exact ok2.1
    exact (hsu er ok1 e1 a oe pn dx v hz hf2 e4 ok3).run pins s σ H Dn I hw
  · refine ⟨⟨⟨s.m.base, s.m.mem, s.m.nd, s.m.lent⟩, s.env⟩, ?_⟩
    cases hv : m.val with
    | nx y =>
      have e : (tryM m h).val = .nx y := by unfold tryM Cmp.bind; rw [hv]
      rw [e] at p
      exact ⟨fun ρ' O' σ' H' q s' e' => p.nx ρ' O' σ' H' q ⟨⟨s'.m.base, s'.m.mem, s'.m.nd, s'.m.lent⟩, s'.env⟩ e', fun _ _ _ _ z => z.elim, fun _ _ _ _ z => z.elim, fun _ _ _ _ z => z.elim, fun _ _ _ _ _ _ _ _ _ z => z.elim⟩
    | rt y =>
      have e : (tryM m h).val = .rt y := by unfold tryM Cmp.bind; rw [hv]
      rw [e] at p
      exact ⟨fun _ _ _ _ z => z.elim, fun d O v H q s' => p.rt d O v H q ⟨s'.base, s'.mem, s'.nd, s'.lent⟩, fun _ _ _ _ z => z.elim, fun _ _ _ _ z => z.elim, fun _ _ _ _ _ _ _ _ _ z => z.elim⟩
    | bk y =>
      have e : (tryM m h).val = .bk y := by unfold tryM Cmp.bind; rw [hv]
      rw [e] at p
      exact ⟨fun _ _ _ _ z => z.elim, fun _ _ _ _ z => z.elim, fun ρ' O' σ' H' q s' e' => p.bk ρ' O' σ' H' q ⟨⟨s'.m.base, s'.m.mem, s'.m.nd, s'.m.lent⟩, s'.env⟩ e', fun _ _ _ _ z => z.elim, fun _ _ _ _ _ _ _ _ _ z => z.elim⟩
    | ct y =>
      have e : (tryM m h).val = .ct y := by unfold tryM Cmp.bind; rw [hv]
      rw [e] at p
      exact ⟨fun _ _ _ _ z => z.elim, fun _ _ _ _ z => z.elim, fun _ _ _ _ z => z.elim, fun ρ' O' σ' H' q s' e' => p.ct ρ' O' σ' H' q ⟨⟨s'.m.base, s'.m.mem, s'.m.nd, s'.m.lent⟩, s'.env⟩ e', fun _ _ _ _ _ _ _ _ _ z => z.elim⟩
    | ex er =>
      have e : (tryM m h).val = .rt (h er).val := by unfold tryM Cmp.bind; rw [hv]
      rw [e] at p
      refine ⟨fun _ _ _ _ z => z.elim, fun _ _ _ _ z => z.elim, fun _ _ _ _ z => z.elim, fun _ _ _ _ z => z.elim, ?_⟩
      rintro C' n' d' ρ' O' σ' H' dx v ⟨⟨rfl, rfl, rfl⟩, hw, rfl⟩ s' e' hx ho r
      obtain ⟨m1, fl⟩ := hm er ok1 hv (by rw [hv] at ok2; exact ok2.1)
      have mB : MOk X.K B O' H' := ⟨s'.m.base, s'.m.mem, s'.m.nd, s'.m.lent⟩
      refine ⟨true, m1, fun _ a _ => ?_, fun z => nomatch z⟩
      refine ⟨er, dx, v, hv, rfl, rfl, fun H => flat_rp fl r, ⟨?_, ?_⟩⟩
      · have s2 : StOk X.K (gdS B dx [((ce er.c).2, v)]) ρ0 O' σ' H' := StOk.weak ⟨gdS_in mB hx ho, s'.env⟩ hw
        exact s2.set (.rf a)
      · exact ⟨fun _ _ _ _ z => z.elim, fun d O v2 H2 q s2 r2 => p.rt d O v2 H2 q (gdS_out mB hx s2) r2, fun _ _ _ _ z => z.elim, fun _ _ _ _ z => z.elim, fun _ _ _ _ _ _ _ _ _ z => z.elim⟩
end
end DL

set_option Elab.async false
set_option linter.all false
set_option maxRecDepth 100000
set_option maxHeartbeats 4000000
/-! ### what a suite asks of the error it holds -/
namespace L2
open PySem PySem.Spec PyProof.Rows
section
variable {X : Cx} {C fI a dx : Addr} {n : Str}
theorem od_of {pins : List (Addr × Obj)} {s : Shared} {σ : St} {H : Hp} {oe : Obj} {pn : List (Addr × Obj)} {q : List (Str × V)} (I : Inv (X.suite a ((a, oe) :: pn)) pins σ H s) (hz : Zc (.ref C) (some dx) oe) (hf : ∃ vs, oe.data = .fields vs) (ea : H dx = some (.xd q)) :
    ∃ (od : Obj) (mA : Str → Option Value), PySem.W.InstAt s.heap a oe C (some od) ∧ (∀ f, RelO (List.lookup f q) (mA f)) ∧ ∀ f, PySem.W.lookIn f od = some (mA f) := by
  obtain ⟨ha, _⟩ := I.pin (a, oe) (List.mem_append_left _ List.mem_cons_self)
  obtain ⟨vs, hd⟩ := hf
  have hx : ObjOk X.prog X.w H s.heap dx (.xd q) := I.hok dx _ ea
  obtain ⟨mA, hns, hr⟩ := hx
  obtain ⟨od, ho, hl⟩ := lookIn_ns hns
  exact ⟨od, mA, ⟨ha, hz.1, by unfold PySem.W.notCls; rw [hd] <;> rfl, by rw [hz.2]; exact ho⟩, hr, hl⟩
theorem pe_errF {oe : Obj} {pn : List (Addr × Obj)} {e : Expr} {te : TE} {v : V} {pos : Pos} (T : PySem.ErX.ErrT X.prog X.K X.mg C fI n) (hz : Zc (.ref C) (some dx) oe) (hf : ∃ vs, oe.data = .fields vs) (he : PE (X.suite a ((a, oe) :: pn)) e te)
    (hb : attributeBase e n X.env (eval e X.env) = eval e X.env := by rfl) :
    PE (X.suite a ((a, oe) :: pn)) (.Attribute e n pos) (fun σ H Q => te σ H fun x H1 => x = .ref a ∧ H1 dx = some (.xd [(n, v)]) ∧ Q v H1) := by
  refine ⟨fun pins s σ H Q I h => ?_⟩
  refine attr_of hb (thn (he.run pins s σ H _ I h) fun u s1 hh => ?_)
  obtain ⟨x, H1, I1, rx, ex, ea, q⟩ := hh
  subst ex
  obtain rfl : u = Value.ref a := rx
  obtain ⟨od, mA, J, hr, hl⟩ := od_of I1 hz hf ea
  have l : List.lookup n [(n, v)] = some v := by simp [List.lookup]
  obtain ⟨u, hu, ru⟩ := RelO.some_of (v := v) (o := mA n) (by rw [← l]; exact hr n)
  exact HandSPX.exc_get I1.kIn J T.ga T.gg T.exC (PySem.W.findObj_own T.hdC T.noN rfl (by rw [hl, hu])) (handed_of ru) ⟨v, H1, I1.tok _, ru, q⟩
/-- isinstance(e, c), e the error that the suite holds -/
def rIsED (K : PySem.W.Frag) (D a dx : Addr) : List V → Hp → VK → Prop := fun xs H Q => ∃ (c : V) (cv : Value) (b : Bool) (q : List (Str × V)), xs = [.ref a, c] ∧ H dx = some (.xd q) ∧ (∀ u, RelV c u → u = cv) ∧ PySem.W.kitOne K (.ref D) cv = some b ∧ Q (.bl b) H
theorem call_isED {D : Addr} {oe : Obj} {pn : List (Addr × Obj)} (C : ExcC X.K D) (hz : Zc (.ref D) (some dx) oe) (hf : ∃ vs, oe.data = .fields vs) : CallR (X.suite a ((a, oe) :: pn)) (.builtin "isinstance") (rIsED X.K D a dx) := by
  intro pins s σ H xs us Q I r h
  obtain ⟨c, cv, b, q', rfl, ea, hcv, e, q⟩ := h
  cases r with
  | cons rx rr =>
    cases rr with
    | cons rt rr =>
      cases rr
      cases rx
      have ec := hcv _ rt
      subst ec
      obtain ⟨od, mA, J, _, _⟩ := od_of I hz hf ea
      have hcl : (PySem.W.clsIn X.K D).isSome = true := by
        obtain ⟨cd, hc, _⟩ := PySem.W.any_some C.hd
        rw [hc]; rfl
      exact PySem.W.kia_one (PySem.W.kitx_exc hcl C.hg C.hk C.hs C.ha C.hn C.ht C.hm) I.kIn J e (fun z => nomatch z) fun tk => ⟨.bl b, H, I.kept (t' := tk) fun _ _ z => z, rfl, q⟩
end
end L2
namespace DL
open PySem PySem.Spec PyProof.Rows L2 TL
section
variable {X : Cx} {B : Gd} {ρ : List (Option D)} {O : Om} {C fI a dx C' : Addr} {n x : Str} {e f : Expr} {d : D} {v : V} {pos p : Pos} {oe : Obj} {pn : List (Addr × Obj)} {b1 : Bool}
theorem ev_errF (T : PySem.ErX.ErrT X.prog X.K X.mg C fI n) (hz : Zc (.ref C) (some dx) oe) (hf : ∃ vs, oe.data = .fields vs) (hv : ∀ H, Rp X.K H v d) (he : EV (X.suite a ((a, oe) :: pn)) (gdS B dx [(n, v)]) ρ O e (.rf a)) (hb : attributeBase e n X.env (eval e X.env) = eval e X.env := by rfl) :
    EV (X.suite a ((a, oe) :: pn)) (gdS B dx [(n, v)]) ρ O (.Attribute e n pos) d :=
  pe_imp (pe_errF (v := v) T hz hf he hb) fun σ H Q ⟨st, k⟩ => ⟨st, fun w H1 e1 r1 => by
    cases r1
    exact ⟨rfl, ((st.same e1).m.base dx _ upd_same).1, k v H1 e1 (hv _)⟩⟩
theorem rc_isED {K : PySem.W.Frag} {q : List (Str × V)} {cd : D} {cv : Value} (hc : ∀ H w u, Rp K H w cd → RelV w u → u = cv) (hk : PySem.W.kitOne K (.ref C) cv = some b1) : RC K (gdS B dx q) O (rIsED K C a dx) [.rf a, cd] (.bl b1) := fun xs H Q m r k => by
  cases r with
  | cons h1 r =>
    cases r with
    | cons h2 r =>
      cases r
      cases h1
      exact ⟨_, cv, b1, q, rfl, (m.base dx _ upd_same).1, fun u ru => hc _ _ u h2 ru, hk, k _ H (Same.refl H) (.bl b1)⟩
theorem cls_ref {K : PySem.W.Frag} {H : Hp} {w : V} {u : Value} (h : Rp K H w (.rf C')) (r : RelV w u) : u = .ref C' := by
  cases h; cases r; rfl
theorem cls_ty {K : PySem.W.Frag} {H : Hp} {w : V} {u : Value} {t : String} (h : Rp K H w (.ty t)) (r : RelV w u) : u = .type t := by
  cases h; cases r; rfl
end
end DL

set_option Elab.async false
set_option linter.all false
set_option maxRecDepth 100000
set_option maxHeartbeats 4000000
namespace DL
open PySem PySem.Spec PyProof.Rows L2 TL
/-! ### a def that may raise: its outcome from its mirror -/
def outX {R : Type} (ce : ErrTab) (E : R → D) : Ctl Unit Unit R → Out
  | .rt v => .val (E v)
  | .ex e => .exn (ce e.c).1 (ce e.c).2 e.d
  | _ => .val .non
def outXI {V : Type} (ce : ErrTab) (ns : List Str) (fs : V → List D) : Ctl Unit Unit V → OutI
  | .rt v => .val ns (fs v)
  | .ex e => .exn (ce e.c).1 (ce e.c).2 e.d
  | _ => .val [] []
def FlatX {S L R : Type} : Ctl S L R → Prop
  | .ex e => FlatD e.d
  | _ => True
section
variable {α S L R : Type}
theorem calm_ok [Inhabited α] {m : Cmp (Ctl Unit Unit α)} (h : m.calm.ok) : m.ok ∧ m.val = .rt m.calm.val := by
  obtain ⟨h1, h2⟩ := h
  refine ⟨h1, ?_⟩
  unfold Cmp.calm Cmp.bind
  cases q : m.val with
  | rt v => rfl
  | ex e => rw [q] at h2; exact h2.elim
  | nx s => rw [q] at h2; exact h2.elim
  | bk s => rw [q] at h2; exact h2.elim
  | ct s => rw [q] at h2; exact h2.elim
theorem made_ok {m : Cmp (Ctl α Unit Unit)} (h : m.made.ok) : m.ok ∧ ((∃ v, m.val = .nx v ∧ m.made.val = .rt v) ∨ ∃ e, m.val = .ex e ∧ m.made.val = .ex e) := by
  obtain ⟨h1, h2⟩ := h
  refine ⟨h1, ?_⟩
  unfold Cmp.made Cmp.bind
  cases q : m.val with
  | nx v => exact .inl ⟨v, rfl, rfl⟩
  | ex e => exact .inr ⟨e, rfl, rfl⟩
  | rt s => rw [q] at h2; exact h2.elim
  | bk s => rw [q] at h2; exact h2.elim
  | ct s => rw [q] at h2; exact h2.elim
theorem calm_val [Inhabited α] {m : Cmp (Ctl Unit Unit α)} {v : α} (h : m.val = .rt v) : m.calm.val = v := by
  unfold Cmp.calm Cmp.bind; rw [h]
end
section
variable {X : Cx} {B : Gd} {ρ : List (Option D)} {O : Om} {ss : List Stmt} {ce : ErrTab}
theorem j_outX {R : Type} {E : R → D} {c : Ctl Unit Unit R} (h : J X B ss ρ O (aC (fun _ _ _ => False) (fun _ _ _ => False) (rtP E) (exq ce) c)) : J X B ss ρ O (postX (outX ce E c)) := by
  cases c with
  | nx s => exact j_imp h (fun _ _ ⟨_, _, z⟩ => z.elim) (fun _ _ z => z.elim) (fun _ _ z => z.elim) (fun _ _ z => z.elim) (fun _ _ _ _ _ z => z.elim)
  | rt v => exact j_imp h (fun _ _ z => z.elim) (fun _ _ z => z) (fun _ _ z => z.elim) (fun _ _ z => z.elim) (fun _ _ _ _ _ z => z.elim)
  | bk s => exact j_imp h (fun _ _ z => z.elim) (fun _ _ z => z.elim) (fun _ _ ⟨_, _, z⟩ => z.elim) (fun _ _ z => z.elim) (fun _ _ _ _ _ z => z.elim)
  | ct s => exact j_imp h (fun _ _ z => z.elim) (fun _ _ z => z.elim) (fun _ _ z => z.elim) (fun _ _ ⟨_, _, z⟩ => z.elim) (fun _ _ _ _ _ z => z.elim)
  | ex e => exact j_imp h (fun _ _ z => z.elim) (fun _ _ z => z.elim) (fun _ _ z => z.elim) (fun _ _ z => z.elim) (fun _ _ _ _ _ z => z)
theorem j_outXI {V : Type} {C0 x : Addr} {ns : List Str} {fs : V → List D} {m : Cmp (Ctl V Unit Unit)} (ok : m.made.ok) (h : m.ok → J X B ss ρ O (aC (fun v _ O' => ∃ fs' O1, O' = O1 ++ [(x, .ins C0 ns fs')] ∧ FrzL O1 fs' (fs v)) (fun _ _ _ => False) (fun _ _ _ => False) (exq ce) m.val)) :
    J X B ss ρ O (match outXI ce ns fs m.made.val with
        | .val ns fs => { nx := fun _ O' => ∃ fs' O1, O' = O1 ++ [(x, .ins C0 ns fs')] ∧ FrzL O1 fs' fs, rt := fun _ _ => False }
        | .exn C n d => aX C n d) := by
  obtain ⟨h1, ⟨v, e1, e2⟩ | ⟨e, e1, e2⟩⟩ := made_ok ok
  · have h := h h1
    rw [e1] at h; rw [e2]
    exact j_imp h (fun _ _ ⟨_, _, z⟩ => z) (fun _ _ z => z.elim) (fun _ _ z => z.elim) (fun _ _ z => z.elim) (fun _ _ _ _ _ z => z.elim)
  · have h := h h1
    rw [e1] at h; rw [e2]
    exact j_imp h (fun _ _ z => z.elim) (fun _ _ z => z.elim) (fun _ _ z => z.elim) (fun _ _ z => z.elim) (fun _ _ _ _ _ z => z)
end
section
variable {P : Program} {w : World} {K : PySem.W.Frag} {mg : Str → Option Value} {base : Heap} {k : Nat} {f C0 C : Addr} {x n : Str}
theorem spP_mono {Ar Ar' : Om → List D → D → Prop} (h : ∀ L ds d, Ar' L ds d → Ar L ds d) : ∀ vs H Q E, spP K Ar' vs H Q E → spP K Ar vs H Q E := fun _ _ _ _ ⟨F, L, ds, d, a, b, c, e⟩ => ⟨F, L, ds, d, a, b, h _ _ _ c, e⟩
theorem spI_mono {Ar Ar' : Om → List D → List Str → List D → Prop} (h : ∀ L ds ns fs, Ar' L ds ns fs → Ar L ds ns fs) : ∀ vs H Q E, spI K C0 Ar' vs H Q E → spI K C0 Ar vs H Q E := fun _ _ _ _ ⟨F, L, x, dx, us, ds, ns, fs, a, b, c, e, g, i, j⟩ => ⟨F, L, x, dx, us, ds, ns, fs, a, b, c, e, g, h _ _ _ _ i, j⟩
theorem fn_calmP {fd : FuncData} {ps : List Str} {Ar : Om → List D → Out → Prop} {Ar' : Om → List D → D → Prop} (F : FnOk P w K mg base (L2.CX P w) k f fd ps (spX K Ar)) (h : ∀ L ds d, Ar' L ds d → Ar L ds (.val d)) : FnOk P w K mg base CX0 k f fd ps (spP K Ar') :=
  calm_fn (CX := CX0) ((spX_P F).imp (spP_mono h)) fun _ _ _ _ _ z => z
theorem fn_calmI {fd : FuncData} {ps : List Str} {Ar : Om → List D → OutI → Prop} {Ar' : Om → List D → List Str → List D → Prop} (F : FnOk P w K mg base (L2.CX P w) k f fd ps (spXI K C0 Ar)) (h : ∀ L ds ns fs, Ar' L ds ns fs → Ar L ds (.val ns fs)) : FnOk P w K mg base CX0 k f fd ps (spI K C0 Ar') :=
  calm_fn (CX := CX0) ((spXI_I F).imp (spI_mono h)) fun _ _ _ _ _ z => z
theorem Fok.xP {Ar : Om → List D → Out → Prop} (F : Fok P w K mg base (L2.CX P w) k f (spX K Ar)) : Fok P w K mg base CX0 k f (spP K fun L ds d => Ar L ds (.val d)) := by
  obtain ⟨fd, ps, G, b⟩ := F.ex
  exact ⟨⟨fd, ps, fn_calmP G fun _ _ _ z => z, b⟩, F.kp⟩
theorem Fok.xR {Ar : Om → List D → Out → Prop} (F : Fok P w K mg base (L2.CX P w) k f (spX K Ar)) : Fok P w K mg base (L2.CX P w) k f (spR K C n fun L ds d => Ar L ds (.exn C n d)) := by
  obtain ⟨fd, ps, G, b⟩ := F.ex
  exact ⟨⟨fd, ps, spX_R (CX := L2.CX P w) G, b⟩, F.kp⟩
theorem Fok.xI {Ar : Om → List D → OutI → Prop} (F : Fok P w K mg base (L2.CX P w) k f (spXI K C0 Ar)) : Fok P w K mg base CX0 k f (spI K C0 fun L ds ns fs => Ar L ds (.val ns fs)) := by
  obtain ⟨fd, ps, G, b⟩ := F.ex
  exact ⟨⟨fd, ps, fn_calmI G fun _ _ _ _ z => z, b⟩, F.kp⟩
theorem Fok.xRI {Ar : Om → List D → OutI → Prop} (F : Fok P w K mg base (L2.CX P w) k f (spXI K C0 Ar)) : Fok P w K mg base (L2.CX P w) k f (spRI K C0 C n fun L ds d => Ar L ds (.exn C n d) ∧ FlatD d) := by
  obtain ⟨fd, ps, G, b⟩ := F.ex
  exact ⟨⟨fd, ps, spXI_R (CX := L2.CX P w) G, b⟩, F.kp⟩
theorem Cal.xP {Ar : Om → List D → Out → Prop} (c : Cal P w K mg base (L2.CX P w) k x (spX K Ar)) : Cal P w K mg base CX0 k x (spP K fun L ds d => Ar L ds (.val d)) := by
  obtain ⟨f, F, hm⟩ := c.ex; exact ⟨f, F.xP, hm⟩
theorem Cal.xR {Ar : Om → List D → Out → Prop} (c : Cal P w K mg base (L2.CX P w) k x (spX K Ar)) : Cal P w K mg base (L2.CX P w) k x (spR K C n fun L ds d => Ar L ds (.exn C n d)) := by
  obtain ⟨f, F, hm⟩ := c.ex; exact ⟨f, F.xR, hm⟩
end
end DL

set_option Elab.async false
set_option linter.all false
set_option maxRecDepth 100000
set_option maxHeartbeats 4000000
/-! ### several except clauses, each «as n» -/
namespace L2
open PySem PySem.Spec PyProof.Rows
abbrev TSu := Addr → Value → Option Addr → TS
/-- what the clauses wish of an exception of the body, one after the other; slot i is n's -/
def wManyA (K : PySem.W.Frag) (Wout : WX) (i : Nat) (D : Ends) : List (Value × TSu) → WX
  | [] => Wout
  | (c, ts) :: r => fun cls d σ H => ∃ b, PySem.W.exmOne K cls c = some b ∧ (b = true → ∀ a, H a = none → ts a cls d { nx := fun σ' H' => D.nx (σ'.set i none) H', rt := D.rt, bk := fun σ' H' => D.bk (σ'.set i none) H', ct := fun σ' H' => D.ct (σ'.set i none) H' } (σ.set i (some (.ref a))) H) ∧ (b = false → wManyA K Wout i D r cls d σ H)
inductive HdsA (X : Cx) (n : Str) : List ExceptHandler → List (Value × TSu) → Prop
  | nil : HdsA X n [] []
  | cons {x : Str} {c : Value} {ts : TSu} {b₀ : Stmt} {suite : List Stmt} {np pos' : Pos} {hds : List ExceptHandler} {l : List (Value × TSu)} (hc : Names X x c)
      (hsu : ∀ (a : Addr) (oe : Obj) (cls : Value) (d : Option Addr) (pn : List (Addr × Obj)), Zc cls d oe → (∃ vs, oe.data = .fields vs) → PSs (X.suite a ((a, oe) :: pn)) (b₀ :: suite) (ts a cls d)) (r : HdsA X n hds l) :
      HdsA X n (.ExceptHandler (some (.Name x np)) (some n) (b₀ :: suite) pos' :: hds) ((c, ts) :: l)
section
variable {X : Cx} {n : Str} {i : Nat} {body : List Stmt} {h₀ : ExceptHandler} {hds : List ExceptHandler} {l : List (Value × TSu)} {pos : Pos} {tb : WX → TS} {Wout : WX}
theorem ps_try_manyA (hs : X.stack = X.env :: X.outer) (hf : X.env.frame = some X.env.locals) (hN : X.N.Nodup) (hi : X.N[i]? = some n) (hln : X.env.kindOf n = some .local) (tk : Takes X Wout)
    (hb : ∀ (W : WX) (pn : List (Addr × Obj)) (xe : Value → Shared → Prop), Takes (X.tr pn xe) W → PassesOwn (model X.prog X.w) X.A X.env xe → PSs (X.tr pn xe) body (tb W))
    (hh : HdsA X n (h₀ :: hds) l) : PS X (.Try body (h₀ :: hds) [] [] pos) (fun D σ H => tb (wManyA X.K Wout i D l) D σ H) := by
  refine ⟨fun pins s σ H D I h => ?_⟩
  have ok := I.ok
  have hfr : X.A.frames = some (X.env :: X.outer) := by rw [ok.frames, hs]
  have hloc : Loc X.env.scope n := .inl hln
  refine wpAny_Try_except ?_
  refine wpAny_mono ((hb (wManyA X.K Wout i D l) (X.pn ++ pins) (fun e s₁ => wpAny (model X.prog X.w) X.A (noteFrame e X.env) (fun _ s₂ => wpAny (model X.prog X.w) X.A (setFlight e none) (fun _ s₃ =>
    wpAny (model X.prog X.w) X.A (handleBy e X.env (h₀ :: hds)) (SP X pins D) X.xe s₃) X.xe s₂) X.xe s₁) (fun u s' xx => ?_) PassesOwn.looking).run [] s σ H D (I.toTry _) h) (fun f s1 hsp => ?_) (fun e s1 he => he)
  · obtain ⟨a, B, sI, pins', σ', H', cls, d, rfl, J', nb, up, sky, na, os, ag, w⟩ := xx
    have J : Inv X pins σ' H' sI := J'.ofTry ok
    have sky' : Sky B (X.env :: X.outer) a (Zc cls d) X.env.locals s'.heap := by rw [← hs]; exact sky
    show wpAny (model X.prog X.w) X.A (noteFrame (.ref a) X.env) _ _ _
    refine Sky.land Zc.steady hfr hf sky' fun h3 fl3 up3 => ?_
    have J3 : Inv X pins σ' H' { s' with heap := h3 } := J.landed nb fl3.1 (up.trans up3) os ag
    obtain ⟨oe3, vs3, he3, hz3, hd3⟩ := fl3.there
    have notFr : ∀ {h : Heap} {o : Obj} {vs : Array Value}, h.FunFrames B (X.env :: X.outer) → h.get? a = some o → o.data = .fields vs → a ∉ frs (X.env :: X.outer) := fun {h o vs} ff e dd hm => by
      obtain ⟨_, o', e', hnf⟩ := ff.mem hm
      rw [e] at e'; cases e'
      exact hnf _ dd
    have nfr := notFr fl3.2.2.1 he3 hd3
    have nL : a ≠ X.env.locals := fun z => nfr (List.mem_filterMap.mpr ⟨X.env, List.mem_cons_self, by rw [hf, z]⟩)
    have nF : a ∉ X.fs := fun hm => by
      obtain ⟨e, he, q⟩ := List.mem_filterMap.mp hm
      exact nfr (List.mem_filterMap.mpr ⟨e, List.mem_cons_of_mem _ he, q⟩)
    have S3 := J3.suite he3 hd3 na nL nF
    have go : ∀ {hds' : List ExceptHandler} {l' : List (Value × TSu)}, HdsA X n hds' l' → wManyA X.K Wout i D l' cls d σ' H' →
        wpAny (model X.prog X.w) X.A (handleBy (.ref a) X.env hds') (SP X pins D) X.xe { s' with heap := h3 } := by
      intro hds' l' hk
      induction hk with
      | nil =>
        intro w
        refine wpAny_handleBy_nil ?_
        obtain ⟨k1, k2, k3, oe, vs, T, oT, ts', he, hz, hd, h1, hr⟩ := id fl3
        unfold PySem.passOn
        refine wpAny_bind (wpAny_field he hd h1 ?_)
        rw [if_neg (show ¬ ((Value.ref T == Value.none) = true) from by simp)]
        have fin : wpAny (model X.prog X.w) X.A (setFlight (.ref a) X.env.frame) (fun _ s4 => wpAny (model X.prog X.w) X.A (throw (.ref a) : Sem Flow) (SP X pins D) X.xe s4) X.xe { s' with heap := h3 } := by
          rw [hf]
          refine HandSPX.setFlight_upZ fl3 fun h4 hh4 up4 => wpAny_throw (tk _ _ ?_)
          exact ⟨a, B, sI, pins, σ', H', cls, d, rfl, J, nb, (up.trans up3).trans up4, .inr (.inr (by rw [hs]; exact hh4)), na, os, ag, w⟩
        first
          | exact wpAny_bind (wpAny_pure (wpAny_bind fin))
          | exact wpAny_bind fin
      | @cons x c ts b₀ suite np pos' hds2 l2 hc hsu r ih =>
        intro w
        obtain ⟨b, hb1, hyes, hno⟩ := w
        refine wpAny_handleBy_cons (codeAny_handlers_test ?_) (by intro q; cases q)
        have LT : PySem.W.Looks (model X.prog X.w) h3 (typeOf (.ref a)) cls := fun A Q E s k q => wpAny_typeOf_ref (k _ _ he3) (by rw [hz3.1]; exact q)
        have LM := PySem.W.exm_one (M := model X.prog X.w) (J3.kIn) LT hb1
        have test : ∀ {Q : Value → Shared → Prop} {E : Value → Shared → Prop}, Q c { s' with heap := h3 } → wpAny (model X.prog X.w) (X.A.mark (some (.ref a))) (eval (.Name x np) X.env) Q E { s' with heap := h3 } := fun {Q E} q => by
          obtain ⟨hg, hdbg, hm | ⟨hm, hv, hnn⟩⟩ := hc
          · exact ld_glob (X := X.suite a ((a, oe3) :: (X.pn ++ pins))) S3 hg hm q hdbg
          · exact ld_blt (X := X.suite a ((a, oe3) :: (X.pn ++ pins))) S3 hg hm hv q hnn hdbg
        refine test (LM.here ?_)
        cases b with
        | true =>
          refine codeAny_handlers_suite_as ?_
          refine HandSPX.lands_againZ fl3 fun h4 fl4 up4 => ?_
          have J4 : Inv X pins σ' H' { s' with heap := h4 } := J.landed nb fl4.1 ((up.trans up3).trans up4) os ag
          obtain ⟨oe4, vs4, he4, hz4, hd4⟩ := fl4.there
          have S4 := J4.suite he4 hd4 na nL nF
          refine store_ok (X := X.suite a ((a, oe4) :: (X.pn ++ pins))) (v := .ref a) S4 hN hi hloc rfl (fun s5 S5 => ?_) (.inr hln)
          refine wpAny_mono ((hsu a oe4 cls d (X.pn ++ pins) hz4 ⟨_, hd4⟩).run [] s5 _ H' _ S5 (hyes rfl a na)) (fun f s6 hsp => ?_) (fun _ _ z => False.elim z)
          have end_ : ∀ {σ6 : St} {H6 : Hp} {Q : Shared → Prop}, Inv (X.suite a ((a, oe4) :: (X.pn ++ pins))) [] σ6 H6 s6 → (∀ s7, Inv X pins (σ6.set i none) H6 s7 → Q s7) →
              wpAny (model X.prog X.w) X.A (do bindName X.env n .none; unbindBehindTheSuite X.env n pos') (fun _ s7 => Q s7) X.xe s6 := fun {σ6 H6 Q} S6 hq => gone_ok (S6.unsuite ok) hN hi hln hq
          cases f with
          | next =>
            obtain ⟨σ6, H6, S6, q6⟩ := hsp
            exact end_ S6 fun s7 J7 => ⟨_, _, J7, q6⟩
          | brk =>
            obtain ⟨σ6, H6, S6, q6⟩ := hsp
            exact end_ S6 fun s7 J7 => ⟨_, _, J7, q6⟩
          | cont =>
            obtain ⟨σ6, H6, S6, q6⟩ := hsp
            exact end_ S6 fun s7 J7 => ⟨_, _, J7, q6⟩
          | ret u =>
            obtain ⟨v6, σ6, H6, S6, r6, q6⟩ := hsp
            exact end_ S6 fun s7 J7 => ⟨_, _, _, J7, r6, q6⟩
        | false =>
          show wpAny _ X.A (handleBy (.ref a) X.env hds2) _ _ _
          exact ih (hno rfl)
    exact go hh w
  · cases f with
    | next =>
      obtain ⟨σ', H', J', q⟩ := hsp
      exact wpAny_execs_nil ⟨σ', H', J'.ofTry ok, q⟩
    | brk =>
      obtain ⟨σ', H', J', q⟩ := hsp
      exact ⟨σ', H', J'.ofTry ok, q⟩
    | cont =>
      obtain ⟨σ', H', J', q⟩ := hsp
      exact ⟨σ', H', J'.ofTry ok, q⟩
    | ret u =>
      obtain ⟨v, σ', H', J', r, q⟩ := hsp
      exact ⟨v, σ', H', J'.ofTry ok, r, q⟩
end
end L2
namespace DL
open PySem PySem.Spec PyProof.Rows L2 TL
section
variable {X : Cx} {B : Gd} {ρ ρ0 : List (Option D)} {O O0 : Om} {pos pos1 pos2 np1 np2 : Pos} {body suite1 suite2 : List Stmt} {b1 b2 : Stmt} {x1 x2 nm : Str} {ce : ErrTab}
variable {S L R : Type} {st : S → List (Option D) → Om → Prop} {sl : L → List (Option D) → Om → Prop} {rt : R → D → Om → Prop} {ex : Exn → Addr → Str → D → List (Option D) → Om → Prop}
/-- try: .. except X1 as n: .. except X2 as n: ..; both suites hand back on every way -/
theorem jc1_try2 {m : Cmp (Ctl S L R)} {h1 h2 : Exn → Cmp R} {C1 C2 : Addr} (e1 : Nat) (i : Nat) (hs : X.stack = X.env :: X.outer) (hf : X.env.frame = some X.env.locals) (hN : X.N.Nodup) (hi : X.N[i]? = some nm) (hln : X.env.kindOf nm = some .local) (hc1 : Names X x1 (.ref C1)) (hc2 : Names X x2 (.ref C2)) (tk : Takes X fun _ _ _ _ => False)
    (hb : ∀ (W : WX) (pn : List (Addr × Obj)) (xe : Value → Shared → Prop), Takes (X.tr pn xe) W → PassesOwn (model X.prog X.w) X.A X.env xe → JC (X.tr pn xe) { B with W := W } body ρ O (aC st sl rt (exq0 ce ρ0 O0)) m)
    (hm1 : ∀ er, m.ok → m.val = .ex er → er.c = e1 → (h1 er).ok → PySem.W.exmOne X.K (.ref (ce er.c).1) (.ref C1) = some true ∧ FlatD er.d)
    (hm2 : ∀ er, m.ok → m.val = .ex er → er.c ≠ e1 → (h2 er).ok → (PySem.W.exmOne X.K (.ref (ce er.c).1) (.ref C1) = some false ∧ PySem.W.exmOne X.K (.ref (ce er.c).1) (.ref C2) = some true) ∧ FlatD er.d)
    (hsu1 : ∀ er, m.ok → m.val = .ex er → er.c = e1 → ∀ (a : Addr) (oe : Obj) (pn : List (Addr × Obj)) (dx : Addr) (v : V), Zc (.ref (ce er.c).1) (some dx) oe → (∃ vs, oe.data = .fields vs) → (∀ H, Rp X.K H v er.d) →
      JC (X.suite a ((a, oe) :: pn)) (gdS B dx [((ce er.c).2, v)]) (b1 :: suite1) (ρ0.set i (some (.rf a))) O0 (fun r => noNx (aR rt r)) (h1 er))
    (hsu2 : ∀ er, m.ok → m.val = .ex er → er.c ≠ e1 → ∀ (a : Addr) (oe : Obj) (pn : List (Addr × Obj)) (dx : Addr) (v : V), Zc (.ref (ce er.c).1) (some dx) oe → (∃ vs, oe.data = .fields vs) → (∀ H, Rp X.K H v er.d) →
      JC (X.suite a ((a, oe) :: pn)) (gdS B dx [((ce er.c).2, v)]) (b2 :: suite2) (ρ0.set i (some (.rf a))) O0 (fun r => noNx (aR rt r)) (h2 er)) :
    JC1 X B (.Try body [.ExceptHandler (some (.Name x1 np1)) (some nm) (b1 :: suite1) pos1, .ExceptHandler (some (.Name x2 np2)) (some nm) (b2 :: suite2) pos2] [] [] pos) ρ O (aC st sl rt ex) (tryM m fun er => if er.c = e1 then h1 er else h2 er) := fun ok => by
  obtain ⟨ok1, ok2⟩ := ok
  let ts : (Exn → Prop) → (Exn → Cmp R) → TSu := fun p h a cls dd Dn σ H => ∃ (er : Exn) (dx : Addr) (v : V), m.val = .ex er ∧ p er ∧ cls = .ref (ce er.c).1 ∧ dd = some dx ∧ (∀ H, Rp X.K H v er.d) ∧ tW X.K (gdS B dx [((ce er.c).2, v)]) (ρ0.set i (some (.rf a))) O0 (noNx (aR rt (h er).val)) Dn σ H
  have hx1 : ∀ er, m.val = .ex er → er.c = e1 → (h1 er).ok := fun er q c => by
    rw [q] at ok2
    have z : (if er.c = e1 then h1 er else h2 er).ok := ok2.1
    rwa [if_pos c] at z
  have hx2 : ∀ er, m.val = .ex er → er.c ≠ e1 → (h2 er).ok := fun er q c => by
    rw [q] at ok2
    have z : (if er.c = e1 then h1 er else h2 er).ok := ok2.1
    rwa [if_neg c] at z
  refine ps_imp (ps_try_manyA (tb := fun W => tW X.K { B with W := W } ρ O (aC st sl rt (exq0 ce ρ0 O0) m.val)) (l := [(.ref C1, ts (fun er => er.c = e1) h1), (.ref C2, ts (fun er => er.c ≠ e1) h2)]) (Wout := fun _ _ _ _ => False) hs hf hN hi hln tk (fun W pn xe t1 t2 => hb W pn xe t1 t2 ok1)
    (.cons hc1 (fun a oe cls dd pn hz hf2 => ⟨fun pins s σ H Dn I ⟨er, dx, v, q1, c, q2, q3, q4, hw⟩ => by
      subst q2; subst q3
      exact (hsu1 er ok1 q1 c a oe pn dx v hz hf2 q4 (hx1 er q1 c)).run pins s σ H Dn I hw⟩) (.cons hc2 (fun a oe cls dd pn hz hf2 => ⟨fun pins s σ H Dn I ⟨er, dx, v, q1, c, q2, q3, q4, hw⟩ => by
      subst q2; subst q3
      exact (hsu2 er ok1 q1 c a oe pn dx v hz hf2 q4 (hx2 er q1 c)).run pins s σ H Dn I hw⟩) .nil))) fun Dn σ H ⟨s, p⟩ => ?_
  refine ⟨⟨⟨s.m.base, s.m.mem, s.m.nd, s.m.lent⟩, s.env⟩, ?_⟩
  cases hv : m.val with
  | nx y =>
    have e : (tryM m fun er => if er.c = e1 then h1 er else h2 er).val = .nx y := by unfold tryM Cmp.bind; rw [hv]
    rw [e] at p
    exact ⟨fun ρ' O' σ' H' q s' e' => p.nx ρ' O' σ' H' q ⟨⟨s'.m.base, s'.m.mem, s'.m.nd, s'.m.lent⟩, s'.env⟩ e', fun _ _ _ _ z => z.elim, fun _ _ _ _ z => z.elim, fun _ _ _ _ z => z.elim, fun _ _ _ _ _ _ _ _ _ z => z.elim⟩
  | rt y =>
    have e : (tryM m fun er => if er.c = e1 then h1 er else h2 er).val = .rt y := by unfold tryM Cmp.bind; rw [hv]
    rw [e] at p
    exact ⟨fun _ _ _ _ z => z.elim, fun d O v H q s' => p.rt d O v H q ⟨s'.base, s'.mem, s'.nd, s'.lent⟩, fun _ _ _ _ z => z.elim, fun _ _ _ _ z => z.elim, fun _ _ _ _ _ _ _ _ _ z => z.elim⟩
  | bk y =>
    have e : (tryM m fun er => if er.c = e1 then h1 er else h2 er).val = .bk y := by unfold tryM Cmp.bind; rw [hv]
    rw [e] at p
    exact ⟨fun _ _ _ _ z => z.elim, fun _ _ _ _ z => z.elim, fun ρ' O' σ' H' q s' e' => p.bk ρ' O' σ' H' q ⟨⟨s'.m.base, s'.m.mem, s'.m.nd, s'.m.lent⟩, s'.env⟩ e', fun _ _ _ _ z => z.elim, fun _ _ _ _ _ _ _ _ _ z => z.elim⟩
  | ct y =>
    have e : (tryM m fun er => if er.c = e1 then h1 er else h2 er).val = .ct y := by unfold tryM Cmp.bind; rw [hv]
    rw [e] at p
    exact ⟨fun _ _ _ _ z => z.elim, fun _ _ _ _ z => z.elim, fun _ _ _ _ z => z.elim, fun ρ' O' σ' H' q s' e' => p.ct ρ' O' σ' H' q ⟨⟨s'.m.base, s'.m.mem, s'.m.nd, s'.m.lent⟩, s'.env⟩ e', fun _ _ _ _ _ _ _ _ _ z => z.elim⟩
  | ex er =>
    have e : (tryM m fun er => if er.c = e1 then h1 er else h2 er).val = .rt (if er.c = e1 then h1 er else h2 er).val := by unfold tryM Cmp.bind; rw [hv]
    rw [e] at p
    refine ⟨fun _ _ _ _ z => z.elim, fun _ _ _ _ z => z.elim, fun _ _ _ _ z => z.elim, fun _ _ _ _ z => z.elim, ?_⟩
    rintro C' n' d' ρ' O' σ' H' dx v ⟨⟨rfl, rfl, rfl⟩, hw, rfl⟩ s' e' hx ho r
    have mB : MOk X.K B O' H' := ⟨s'.m.base, s'.m.mem, s'.m.nd, s'.m.lent⟩
    have s2 : StOk X.K (gdS B dx [((ce er.c).2, v)]) ρ0 O' σ' H' := StOk.weak ⟨gdS_in mB hx ho, s'.env⟩ hw
    by_cases c : er.c = e1
    · obtain ⟨q1, fl⟩ := hm1 er ok1 hv c (hx1 er hv c)
      rw [if_pos c] at p
      refine ⟨true, q1, fun _ a _ => ?_, fun z => nomatch z⟩
      exact ⟨er, dx, v, hv, c, rfl, rfl, fun H => flat_rp fl r, ⟨s2.set (.rf a), ⟨fun _ _ _ _ z => z.elim, fun d O v2 H2 q s2 r2 => p.rt d O v2 H2 q (gdS_out mB hx s2) r2, fun _ _ _ _ z => z.elim, fun _ _ _ _ z => z.elim, fun _ _ _ _ _ _ _ _ _ z => z.elim⟩⟩⟩
    · obtain ⟨⟨q1, q2⟩, fl⟩ := hm2 er ok1 hv c (hx2 er hv c)
      rw [if_neg c] at p
      refine ⟨false, q1, (fun z => nomatch z), fun _ => ⟨true, q2, fun _ a _ => ?_, fun z => nomatch z⟩⟩
      exact ⟨er, dx, v, hv, c, rfl, rfl, fun H => flat_rp fl r, ⟨s2.set (.rf a), ⟨fun _ _ _ _ z => z.elim, fun d O v2 H2 q s2 r2 => p.rt d O v2 H2 q (gdS_out mB hx s2) r2, fun _ _ _ _ z => z.elim, fun _ _ _ _ z => z.elim, fun _ _ _ _ _ _ _ _ _ z => z.elim⟩⟩⟩
end
end DL

set_option Elab.async false
set_option linter.all false
set_option maxRecDepth 100000
set_option maxHeartbeats 4000000
/-! ### C(..), the class in a slot, where its __init__ may raise -/
namespace L2
open PySem PySem.Spec PyProof.Rows
section
variable {X : Cx} {C : Addr} {x : Str} {e : Expr} {es : List Expr} {p pos : Pos}
theorem pe_makeLS {i k : Nat} {f : Addr} {sp : Sp} {E : St → XK} {CX : CXT} {t : TA} (M : Mk X.K C f) (F : FnR X.prog X.w X.K X.mg X.base CX k f sp) (hr : Room (k + 1) X.A) (hN : X.N[i]? = some x) (hv : Vis X.env.scope x) (hx : ∀ σ, PassesAt CX X σ (E σ)) (ha : PA X (e :: es) t)
    (hdb : (x == ("__debug__" : Str)) = false := by decide) (hcd : (x == ("__classdict__" : Str)) = false := by decide)
    (he : starEach (e :: es) X.env = (false, eval e X.env) :: starEach es X.env := by rfl) (hpl : (backTo pos (starEach es X.env)).any (·.1) = false := by rfl) : PE X (.Call (.Name x p) (e :: es) [] pos)
      (fun σ H Q => σ[i]? = some (some (.ref C)) ∧ t σ H fun vs H1 => ∀ x dx, H1 x = Option.none → H1 dx = Option.none → dx ≠ x → sp (V.ref x :: vs) (upd (upd H1 dx (.own x)) x (.ins C dx [])) (fun v H2 => v = .non ∧ Q (.ref x) H2) (E σ)) := by
  refine ⟨fun pins s σ H Q I h => ?_⟩
  obtain ⟨hs, ht⟩ := h
  refine wpAny_Call_Name_kw (thn ((pe_var (pos := p) hN hv hdb hcd).run pins s σ H (fun v H1 => v = .ref C ∧ H1 = H) I ⟨.ref C, hs, rfl, rfl⟩) fun u s1 ⟨v, H1, I1, r1, q1⟩ => ?_)
  obtain ⟨rfl, rfl⟩ := q1
  cases r1
  refine PySem.W.callWith_K (h₀ := X.base) I.ok.mod.kin M.kp (thn (ha.run pos pins s1 σ _ _ I1 ht) fun us s2 ⟨vs, H2, I2, r, q⟩ => ⟨I2.kIn, ?_⟩) he hpl
  exact run_makeRS M F hr (hx σ) I2 r q
end
end L2
namespace DL
open PySem PySem.Spec PyProof.Rows L2 TL
section
variable {X : Cx} {B : Gd} {ρ : List (Option D)} {O : Om} {d : D} {C C0 f : Addr} {ds : List D} {k : Nat} {n x : Str} {e : Expr} {es : List Expr} {pos p : Pos}
theorem er_makeL {Ar : Om → List D → D → Prop} (i : Nat) (hd : ρ[i]? = some (some (.rf C0))) (Mk : Mk X.K C0 f) (F : Fok X.prog X.w X.K X.mg X.base (L2.CX X.prog X.w) k f (spRI X.K C0 C n Ar)) (hr : Room (k + 1) X.A) (tk : Takes X B.W) (ha : EA X B ρ O (e :: es) ds) (h : Ar (B.L ++ O) ds d)
    (hN : X.N[i]? = some x := by rfl) (hv : Vis X.env.scope x := by first | exact Or.inl rfl | exact Or.inr (Or.inl rfl) | exact Or.inr (Or.inr rfl)) (hdb : (x == ("__debug__" : Str)) = false := by decide) (hcd : (x == ("__classdict__" : Str)) = false := by decide)
    (he : starEach (e :: es) X.env = (false, eval e X.env) :: starEach es X.env := by rfl) (hpl : (backTo pos (starEach es X.env)).any (·.1) = false := by rfl) : ER X B ρ O (.Call (.Name x p) (e :: es) [] pos) C n d :=
  pe_imp (pe_makeLS (E := WE B.W) Mk F.raw hr hN hv (fun σ => passAt tk σ) ha hdb hcd he hpl) fun σ H Q ⟨st, k⟩ => by
    obtain ⟨v, hv, rv⟩ := st.env.2 i _ hd
    cases rv
    exact ⟨hv, st, fun vs H1 e1 r1 y dy hy hdy ne => madeR_use (st.same e1).m r1 h (fun dx v H2 e2 hx r2 => k dx v H2 (e1.trans e2) hx r2) y dy hy hdy ne⟩
end
end DL

set_option Elab.async false
set_option linter.all false
set_option maxRecDepth 100000
set_option maxHeartbeats 4000000
namespace L2
open PySem PySem.Spec PyProof.Rows
/-! ### comprehensions of any number of clauses -/
/-- a turn of a block's loop, by what is done behind its tests -/
def turnS (e : Expr) (d : Nat) (tg iter : Expr) (ifs : List Expr) (body : Sem PySem.Fin → Sem PySem.Fin) (it acc : Value) (env : Env) : Sem PySem.Fin := do
  standAt iter.pos
  match ← pyNext it with
  | none => pure (.done .next)
  | some v =>
    letOwnedTupleGo tg it v
    assign tg env v
    let mut ok := true
    for c in ifs do
      if ok then ok ← isTrue c env (eval c env)
    if ok then
      body (again (.compLoop e d it acc env))
    else again (.compLoop e d it acc env)
/-- the next clause, started -/
def bodyC (e : Expr) (d : Nat) (iter : Expr) (acc : Value) (env : Env) (k : Sem PySem.Fin) : Sem PySem.Fin := do
  let x ← eval iter env
  standAt iter.pos
  let x ← foldedSetIterable iter env x
  let _ ← runOwn (.compStart e d (← holding [x] (pyIter x)) acc env) env
  k
def bodyE (emit : Sem Unit) (k : Sem PySem.Fin) : Sem PySem.Fin := do
  emit
  k
def IsNode (e : Expr) : Prop := (∃ elt gs sc pos, e = .ListComp elt gs sc pos) ∨ ∃ k v gs sc pos, e = .DictComp k v gs sc pos
section
variable {prog : Program} {w : World} {A : Around} {R : Result → Shared → Prop} {s : Shared} {e tg iter : Expr} {ifs : List Expr} {it acc : Value} {env : Env} {d : Nat} {body : Sem PySem.Fin → Sem PySem.Fin}
theorem loopS_any (hn : IsNode e) (ht : compTurn e d it acc env = turnS e d tg iter ifs body it acc env) (I : Nat → Shared → Prop)
    (turn : ∀ n s, I n s → wpAny (model prog w) A (pyNext it) (fun r s₁ => match r with
      | none => R (.ok .next) s₁
      | some v => wpAny (model prog w) A (letOwnedTupleGo tg it v) (fun _ s₁' => wpAny (model prog w) A (assign tg env v) (fun _ s₂ =>
          wpAny (model prog w) A (forIn ifs true fun c r => if r = true then do let ok ← isTrue c env (eval c env); pure (ForInStep.yield ok) else pure (ForInStep.yield r)) (fun ok s₃ =>
            if ok = true then ∀ (k : Sem PySem.Fin) (R' : PySem.Fin → Shared → Prop) (E' : Value → Shared → Prop), (∀ s₅, (∃ m, m < n ∧ I m s₅) → wpAny (model prog w) A k R' E' s₅) → wpAny (model prog w) A (body k) R' E' s₃
            else ∃ m, m < n ∧ I m s₃) (notedBy (model prog w) A env fun e s' => R (.error e) s') s₂) (notedBy (model prog w) A env fun e s' => R (.error e) s') s₁') (notedBy (model prog w) A env fun e s' => R (.error e) s') s₁) (notedBy (model prog w) A env fun e s' => R (.error e) s') s)
    (n : Nat) (h : I n s) :
    codeAny (model prog w) A (.compLoop e d it acc env) R s := by
  have hq : (Code.compLoop e d it acc env).quiet = true := rfl
  refine codeAny_loop hq I (fun n s hI => ?_) n h
  have hd : wpAny (model prog w) A ((compTurn e d it acc env).onRaise (fun x => do noteFrame x env; theTreesLotGoes x)) (fun fin s' => match fin with | .done f => R (.ok f) s' | .again c' => c' = Code.compLoop e d it acc env ∧ ∃ m, m < n ∧ I m s') (fun e s' => R (.error e) s') s := by
    refine wpAny_noted ?_
    rw [ht]
    unfold turnS
    refine wpAny_bind (wpAny_standAt (wpAny_bind (wpAny_mono (turn n s hI) (fun r s₁ h₁ => ?_) fun _ _ h' => h')))
    cases r with
    | none => exact wpAny_pure h₁
    | some v =>
      refine wpAny_bind (wpAny_mono h₁ (fun _ s₁' h₁' => ?_) fun _ _ h' => h')
      refine wpAny_bind (wpAny_mono h₁' (fun _ s₂ h₂ => wpAny_bind (wpAny_mono h₂ (fun ok s₃ h₃ => ?_) fun _ _ h' => h')) fun _ _ h' => h')
      cases ok with
      | false => exact wpAny_pure ⟨rfl, h₃⟩
      | true => exact h₃ _ _ _ fun s₅ h₅ => wpAny_pure ⟨rfl, h₅⟩
  rcases hn with ⟨_, _, _, _, rfl⟩ | ⟨_, _, _, _, _, rfl⟩ <;> exact hd
theorem startS_any {g : Comprehension} (hn : IsNode e) (hg : (clausesOf e)[d]? = some g) (ha : (g.is_async != 0) = false) (h0 : codeAny (model prog w) A (.compLoop e d it acc env) R s)
    (h : wpAny (model prog w) A (pyIter it) (fun it' s' => codeAny (model prog w) A (.compLoop e d it' acc env) R s')
      (notedBy (model prog w) A env fun x s' => R (.error x) s') s) :
    codeAny (model prog w) A (.compStart e d it acc env) R s := by
  refine codeAny_of_tree ?_
  have hd : wpAny (model prog w) A ((compStart e d it acc env).onRaise (fun x => do noteFrame x env; standAt theWindowsPlace)) (fun fin s' => match fin with
      | .done f => R (.ok f) s'
      | .again c' => c'.quiet = true ∧ codeAny (model prog w) A c' R s') (fun e s' => R (.error e) s') s := by
    refine wpAny_notedAt ?_
    unfold compStart
    rw [hg]
    simp only [Option.elim_some, ha, Bool.false_eq_true, if_false]
    show wpAny _ _ (ask >>= _) _ _ s
    refine wpAny_bind (wpAny_askSetting (wpAny_ite ?_))
    split
    · first
        | exact wpAny_bind (wpAny_pure (wpAny_pure (And.intro rfl h0)))
        | exact wpAny_pure (And.intro rfl h0)
    · first
        | exact wpAny_bind (wpAny_rule (wpAny_bind (wpAny_standAt (wpAny_bind (wpAny_mono h (fun it' s' h' => wpAny_pure (And.intro rfl h')) fun _ _ x => x)))))
        | (refine wpAny_bind (wpAny_rule ?_); show wpAny _ _ (standAt g.iter.pos >>= _) _ _ s; exact wpAny_bind (wpAny_standAt (wpAny_bind (wpAny_mono h (fun it' s' h' => wpAny_pure (And.intro rfl h')) fun _ _ x => x))))
  rcases hn with ⟨_, _, _, _, rfl⟩ | ⟨_, _, _, _, _, rfl⟩ <;> exact hd
end
/-- what a block does at its core, from which Nx is to be reached -/
abbrev TB := St → Hp → (Hp → Prop) → Prop
structure Clz where
  wi : TI
  g : TG
  tt : TT
  vs : List Nat
def tCl : List Clz → TB → TB
  | [], te => te
  | c :: cs, te => fun σ H Nx => c.wi σ H fun J1 H4 => ∃ W1 : Nat → Nat → Hp → Prop, (∃ m, W1 0 m H4) ∧ ∀ j k H, W1 j k H →
      (J1.stop j H ∧ Nx H) ∨ (J1.go j H ∧ ∃ Nx1 : Hp → Prop, (∀ H', Nx1 H' → ∃ k', k' < k ∧ W1 (j + 1) k' H') ∧ ∀ x H', J1.yld j H x H' → c.g x (wipe σ c.vs) H' fun σ3 H5 => wipe σ3 c.vs = wipe σ c.vs ∧ c.tt σ3 H5 fun b H6 =>
        if b = true then tCl cs te σ3 H6 Nx1 else Nx1 H6)
/-- the slots that are not the block's own are as they were -/
def OffE (own : List Nat) (σ σ' : St) : Prop := σ'.length = σ.length ∧ ∀ j, j ∉ own → σ'[j]? = σ[j]?
theorem OffE.refl {own : List Nat} {σ : St} : OffE own σ σ := ⟨rfl, fun _ _ => rfl⟩
theorem OffE.trans {own : List Nat} {σ σ1 σ2 : St} (a : OffE own σ σ1) (b : OffE own σ1 σ2) : OffE own σ σ2 := ⟨b.1.trans a.1, fun j h => (b.2 j h).trans (a.2 j h)⟩
theorem OffE.wipe {own vs : List Nat} {σ : St} (h : ∀ i ∈ vs, i ∈ own) : OffE own σ (wipe σ vs) := ⟨wipe_length σ vs, fun j hj => wipe_out fun z => hj (h j z)⟩
theorem OffE.of_wipe {own vs : List Nat} {σ σ' : St} (h : ∀ i ∈ vs, i ∈ own) (e : L2.wipe σ' vs = L2.wipe σ vs) : OffE own σ σ' := ⟨by rw [← wipe_length σ' vs, e, wipe_length], fun j hj => by
  rw [← wipe_out (vs := vs) (σ := σ') fun z => hj (h j z), e, wipe_out fun z => hj (h j z)]⟩
structure BodyOk (X : Cx) (own : List Nat) (body : Sem PySem.Fin → Sem PySem.Fin) (te : TB) : Prop where
  run : ∀ (pins : List (Addr × Obj)) (s : Shared) (σ : St) (H : Hp) (Nx : Hp → Prop), Inv X pins σ H s → te σ H Nx → ∀ (k : Sem PySem.Fin) (R : PySem.Fin → Shared → Prop) (E : Value → Shared → Prop),
    (∀ σ' H' s', Inv X pins σ' H' s' → OffE own σ σ' → Nx H' → wpAny (model X.prog X.w) X.A k R E s') → wpAny (model X.prog X.w) X.A (body k) R E s
section
variable {X : Cx} {own sub : List Nat} {e tg iter : Expr} {ifs : List Expr} {acc : Value} {d : Nat} {body : Sem PySem.Fin → Sem PySem.Fin} {te : TB} {c : Clz} {cs : List Clz}
theorem body_clause (hxe : X.xe = fun _ _ => False) (hn : IsNode e) (hc : X.calm = true) (hcl : (clausesOf e)[d]? = some ⟨tg, iter, ifs, 0⟩) (ht : ∀ it, compTurn e d it acc X.env = turnS e d tg iter ifs body it acc X.env) (hs : ∀ env x, foldedSetIterable iter env x = pure x)
    (hi : PI X tg iter c.wi) (hg : PG X tg c.g) (hts : PTs X ifs c.tt) (hv : ∀ i ∈ sub, i ∈ c.vs) (hb : BodyOk X sub body (tCl cs te)) : BodyOk X c.vs (bodyC e d iter acc X.env) (tCl (c :: cs) te) := ⟨fun pins s9 σ8 H9 Nx I9 q9 k RR EE hk => by
  unfold bodyC
  have ri := hi.run _ s9 σ8 H9 _ I9 q9
  rw [hxe] at ri
  refine wpAny_bind (thnF ri fun xv s10 hx => ?_)
  refine wpAny_bind (wpAny_standAt (wpAny_bind (wpAny_of_eq (hs _ xv) (wpAny_bind (wpAny_holding (thnF hx fun itv s11 h11 => ?_))))))
  obtain ⟨it1, fp1, tn1, J1, H11, e1, I11, T1, st11, f11, W1, ⟨m1, w1⟩, turn1⟩ := h11
  subst e1
  have stat1 : ∀ {H' : Hp}, (∀ b ∈ fp1, H' b = none) → ∀ b ∈ fp1, FpOk X pins H' b := fun hn b hb => ⟨hn b hb, (f11 b hb).2⟩
  have loop1 : codeAny (model X.prog X.w) X.A (.compLoop e d (.ref it1) acc X.env)
      (fun r s' => match r with
        | .ok _ => ∃ σ' H', Inv X pins σ' H' s' ∧ OffE c.vs σ8 σ' ∧ Nx H'
        | .error _ => False) s11 := by
    refine loopS_any hn (ht _) (fun k s' => ∃ j H', Inv X pins (wipe σ8 c.vs) H' s' ∧ tn1 j s'.heap ∧ (∀ b ∈ fp1, H' b = none) ∧ W1 j k H') ?_ m1 ⟨0, H11, I11.weak (wipe_length _ _) (fun j v e => (wipe_some e).1), st11, fun b hb => (f11 b hb).1, w1⟩
    rintro k s12 ⟨j, H12, I12, st12, n12, w12⟩
    rcases turn1 j k H12 w12 with ⟨stop1, nx1⟩ | ⟨go1, Nx1, hNx1, step1⟩
    · refine thnF (T1.done X rfl rfl rfl hc j _ s12 (wipe σ8 c.vs) H12 (fun _ _ => False) I12 (stat1 n12) st12 stop1) fun r s13 ⟨hr, I13⟩ => ?_
      subst hr
      exact ⟨_, _, I13, .wipe fun _ h => h, nx1⟩
    · refine thnF (T1.item X rfl rfl rfl hc j _ s12 (wipe σ8 c.vs) H12 (fun _ _ => False) I12 (stat1 n12) st12 go1) fun r s13 ⟨u1, hr, h13⟩ => ?_
      subst hr
      refine thnF h13 fun _ s14 ⟨x1, H14, I14, r14, y14, st14, n14⟩ => ?_
      have I14' := I14.pinned (stat1 n14) (T1.obj _ _ st14)
      have rg := hg.run _ s14 (wipe σ8 c.vs) H14 x1 u1 _ I14' r14 (step1 x1 H14 y14)
      rw [hxe] at rg
      refine thnF rg fun _ s15 ⟨σ15, H15, I15, hw15, q15⟩ => ?_
      have rt := hts.run _ s15 σ15 H15 _ I15 q15
      rw [hxe] at rt
      refine thnF rt fun b1 s16 ⟨H16, I16, q16⟩ => ?_
      have k15 : ∀ (j : Nat) v, (wipe σ8 c.vs)[j]? = some (some v) → σ15[j]? = some (some v) := fun j v e => by rw [← hw15] at e; exact (wipe_some e).1
      have fin1 : ∀ {s' : Shared} {σ' : St} {H' : Hp}, Inv X (pins ++ pinsAt fp1 s14.heap) σ' H' s' → OffE sub σ15 σ' → Nx1 H' → ∃ m, m < k ∧ ∃ j H', Inv X pins (wipe σ8 c.vs) H' s' ∧ tn1 j s'.heap ∧ (∀ b ∈ fp1, H' b = none) ∧ W1 j m H' := fun {s' σ' H'} I' of nx => by
        obtain ⟨m', hm, w'⟩ := hNx1 H' nx
        have pin' : ∀ b ∈ fp1, ∀ o, s14.heap.get? b = some o → s'.heap.get? b = some o ∧ H' b = none := fun b hb o e =>
          let z := I'.pin (b, o) (List.mem_append_right _ (List.mem_append_right _ (mem_pinsAt hb e)))
          ⟨z.1, z.2.1⟩
        refine ⟨m', hm, j + 1, H', I'.unpinned.weak (by rw [of.1, ← wipe_length σ15 c.vs, hw15, wipe_length]) (fun i v e => ?_), T1.keep _ _ _ st14 fun b hb o e => (pin' b hb o e).1, fun b hb => ?_, w'⟩
        · rw [of.2 i fun z => (wipe_some e).2 (hv i z)]
          exact k15 i v e
        · obtain ⟨o, e, _⟩ := T1.obj _ _ st14 b hb
          exact (pin' b hb o e).2
      cases b1 with
      | false =>
        simp only [Bool.false_eq_true, if_false] at q16 ⊢
        exact fin1 I16 .refl q16
      | true =>
        simp only [if_true] at q16 ⊢
        exact fun k' R' E' hk' => hb.run _ s16 σ15 H16 _ I16 q16 k' R' E' fun σ17 H17 s17 I17 of17 nx => hk' _ (fin1 I17 of17 nx)
  refine wpAny_bind (wpAny_runOwn ?_)
  rw [Around.mark_none]
  refine codeAny_mono (startS_any hn hcl rfl loop1 (T1.self X.A 0 _ _ _ st11 loop1)) fun r s' hr => ?_
  cases r with
  | ok f =>
    obtain ⟨σ', H', I', of', nx⟩ := hr
    first
      | exact hk σ' H' s' I' of' nx
      | exact wpAny_bind (wpAny_pure (hk σ' H' s' I' of' nx))
  | error e => exact hr.elim⟩
/-- a list's item added -/
theorem body_list {elt : Expr} {t : TE} {D : Addr} (hxe : X.xe = fun _ _ => False) (he : PE X elt t) :
    BodyOk X [] (bodyE (do let _ ← call (.builtin "list.append") [.ref D, ← eval elt X.env])) (fun σ H Nx => t σ H fun y H7 => ∃ acc, H7 D = some (.lst acc) ∧ acc.length < sizeLine ∧ Nx (upd H7 D (.lst (acc ++ [y])))) := ⟨fun pins s σ H Nx I q k R E hk => by
  have re := he.run _ s σ H _ I q
  rw [hxe] at re
  refine wpAny_bind (wpAny_bind (thnF re fun z s17 ⟨yv, H17, I17, r17, acc, hD17, hz17, nx⟩ => wpAny_bind ?_))
  exact app_ok (X := X) I17 hD17 hz17 r17 fun s18 I18 => wpAny_pure (hk _ _ _ I18 .refl nx)⟩
/-- the whole -/
def tCn (c : Clz) (cs : List Clz) (te : Addr → TB) (ho : Addr → HO) : TE := fun σ H Q => c.wi σ H fun J H1 => ∀ D, H1 D = none → (D == sysModules) = false → ∃ W : Nat → Nat → Hp → Prop, (∃ m, W 0 m (upd H1 D (ho D))) ∧ ∀ i m H, W i m H →
  (J.stop i H ∧ Q (.ref D) H) ∨ (J.go i H ∧ ∃ Nx : Hp → Prop, (∀ H', Nx H' → ∃ m', m' < m ∧ W (i + 1) m' H') ∧ ∀ x H', J.yld i H x H' → c.g x (wipe σ c.vs) H' fun σ2 H2 => wipe σ2 c.vs = wipe σ c.vs ∧ c.tt σ2 H2 fun b H3 =>
    if b = true then tCl cs (te D) σ2 H3 Nx else Nx H3)
theorem cn_core {pins : List (Addr × Obj)} {s : Shared} {σ : St} {H : Hp} {Q : VK} {scope : Scope} {own : List (Str × Nat)} {pos' : Pos} {use : Option (Value → Sem Unit)} {Qf : Value → Shared → Prop} {gs : List Comprehension} {newAcc : Sem Value} {ob : Obj} {ho : Addr → HO} {body : Value → Env → Sem PySem.Fin → Sem PySem.Fin} {te : Addr → TB}
    (hn : IsNode e) (hc : X.calm = true) (hN : X.N.Nodup) (I : Inv X pins σ H s) (hcl : clausesOf e = ⟨tg, iter, ifs, 0⟩ :: gs) (hi : PI X tg iter c.wi) (ok : BlkOk X.N X.env.scope scope own) (hown : c.vs = own.map (·.2)) (hv : ∀ i ∈ sub, i ∈ c.vs)
    (hacc : ∀ {A : Around} {E : Value → Shared → Prop} {Q : Value → Shared → Prop} {s : Shared}, Q (.ref s.heap.objs.size) { s with heap := s.heap.push ob } → wpAny (model X.prog X.w) A newAcc Q E s)
    (hob : ∀ (H : Hp) (h : Heap), sysModules < h.objs.size → ObjOk X.prog X.w (upd H h.objs.size (ho h.objs.size)) (h.push ob) h.objs.size (ho h.objs.size))
    (ht : ∀ it D env, compTurn e 0 it (.ref D) env = turnS e 0 tg iter ifs (body (.ref D) env) it (.ref D) env)
    (hg : ∀ (s : Shared) (H : Hp) (C : Addr) (cl : List (Str × Addr)) (fp : List Addr), PG (X.blk s H scope (compEnvC scope cl C X.env) fp) tg c.g) (hts : ∀ (s : Shared) (H : Hp) (C : Addr) (cl : List (Str × Addr)) (fp : List Addr), PTs (X.blk s H scope (compEnvC scope cl C X.env) fp) ifs c.tt)
    (hb : ∀ (s : Shared) (H : Hp) (C : Addr) (cl : List (Str × Addr)) (fp : List Addr) (D : Addr), BodyOk (X.blk s H scope (compEnvC scope cl C X.env) fp) sub (body (.ref D) (compEnvC scope cl C X.env)) (tCl cs (te D))) (hs : ∀ x, foldedSetIterable iter X.env x = pure x)
    (h : tCn c cs te ho σ H Q)
    (hRR : ∀ D C s' m H', Inv X pins σ H' s' → Q (.ref D) H' → s'.heap.Ns C m → FpOk X pins H' C → compPost (model X.prog X.w) X.A X.xe use Qf (.ref D) C (.ok .next) s') :
    wpAny (model X.prog X.w) X.A (comprehension e scope X.env pos' newAcc false (eval iter X.env) use) Qf X.xe s := by
  have hfree : ∀ y ∈ scope.names, y.2 = .free → ∃ c, X.env.cells.lookup y.1 = some c := fun y hy e => by
    rcases ok.free y hy e with k | k
    · exact I.ok.has _ (.inl k)
    · exact I.ok.has _ (.inr k)
  refine wpAny_comprehension_free (use := use) hcl hs (closure_ok hfree) ok.kind (fun y hy e => by rw [ok.uniq y hy, e])
    (thn (hi.run pins s σ H _ I h) fun xv s1 hx => thn hx fun itv s2 h2 => ?_)
  obtain ⟨it, fp, tn, J, H2, ee, I2, T, st2, f2, q⟩ := h2
  subst ee
  refine hacc (newEnv_comp ?_)
  generalize hD : s2.heap.objs.size = D
  have hDn : H2 D = none := I2.hok.fresh (Nat.le_of_eq hD)
  obtain ⟨W, ⟨m0, w0⟩, turn⟩ := q D hDn (by rw [← hD]; exact beq_eq_false_iff_ne.mpr (Nat.ne_of_gt I2.big))
  generalize hs3 : ({ s2 with heap := s2.heap.push ob } : Shared) = s3
  have I3 : Inv X pins σ (upd H2 D (ho D)) s3 := by
    rw [← hs3]
    refine I2.laid (t' := s2.toks) (fun b o e => Heap.get?_push_of_some _ e) (Nat.le_of_eq hD) ?_
    rw [← hD]
    exact hob _ _ I2.big
  have h3 : s3.heap = s2.heap.push ob := by rw [← hs3]
  have sz : ∀ b ∈ fp, b < s2.heap.objs.size := fun b hb => by
    obtain ⟨o, e, _⟩ := T.obj _ _ st2 b hb
    exact Heap.lt_size e
  have f3 : ∀ b ∈ fp, FpOk X pins (upd H2 D (ho D)) b ∧ b < s3.heap.objs.size := fun b hb => by
    have hlt := sz b hb
    refine ⟨⟨?_, (f2 b hb).2⟩, by rw [h3, Heap.size_push]; exact Nat.lt_succ_of_lt hlt⟩
    rw [upd_ne (by rw [← hD]; exact Nat.ne_of_lt hlt)]
    exact (f2 b hb).1
  have st3 : tn 0 s3.heap := T.keep _ _ _ st2 fun b _ o e => by rw [h3]; exact Heap.get?_push_of_some _ e
  have I4 := block_start I3 ok hN f3
  have pg := hg s3 (upd H2 D (ho D)) s3.heap.objs.size (cellsFrom (s3.heap.objs.size + 1) scope.names (cloFrom X.env.cells scope.names [])) fp
  have pt := hts s3 (upd H2 D (ho D)) s3.heap.objs.size (cellsFrom (s3.heap.objs.size + 1) scope.names (cloFrom X.env.cells scope.names [])) fp
  have pb := hb s3 (upd H2 D (ho D)) s3.heap.objs.size (cellsFrom (s3.heap.objs.size + 1) scope.names (cloFrom X.env.cells scope.names [])) fp D
  have ht' := fun it => ht it D (compEnvC scope (cellsFrom (s3.heap.objs.size + 1) scope.names (cloFrom X.env.cells scope.names [])) s3.heap.objs.size X.env)
  show codeAny _ _ (.compStart e 0 (.ref it) (.ref D) (compEnvC scope (cellsFrom (s3.heap.objs.size + 1) scope.names (cloFrom X.env.cells scope.names [])) s3.heap.objs.size X.env)) (compPost (model X.prog X.w) X.A X.xe use Qf (.ref D) s3.heap.objs.size) { s3 with heap := pushCells (s3.heap.push { cls := .type "dict", data := .dict #[] }) scope.names }
  have nfp : ∀ b ∈ fp, (upd H2 D (ho D)) b = none := fun b hb => (f3 b hb).1.1
  generalize hce : compEnvC scope (cellsFrom (s3.heap.objs.size + 1) scope.names (cloFrom X.env.cells scope.names [])) s3.heap.objs.size X.env = ce at I4 pg pt pb ht' ⊢
  have cL : ce.locals = s3.heap.objs.size := by subst hce; rfl
  generalize hH3 : upd H2 D (ho D) = H3 at I3 I4 pg pt pb w0 nfp f3
  generalize hs4 : ({ s3 with heap := pushCells (s3.heap.push { cls := .type "dict", data := .dict #[] }) scope.names } : Shared) = s4 at I4 ⊢
  have st4 : tn 0 s4.heap := T.keep _ _ _ st3 fun b _ o e => by rw [← hs4]; exact pushCells_keeps _ _ _ _ (Heap.get?_push_of_some _ e)
  have stat : ∀ {σ' : St} {H' : Hp} {s' : Shared}, Inv (X.blk s3 H3 scope ce fp) [] σ' H' s' → (∀ b ∈ fp, H' b = none) → ∀ b ∈ fp, FpOk (X.blk s3 H3 scope ce fp) [] H' b := fun {σ' H' s'} I' hn b hb =>
    ⟨hn b hb, (I'.ok.exf b hb).1, I'.ok.exfs b hb, .inl hb, fun x c e => (I'.ok.exf b hb).2 x c e, fun p hp => absurd (show p ∈ ([] : List (Addr × Obj)) ++ [] from hp) (by simp)⟩
  rw [hown] at turn
  have loop : codeAny (model X.prog X.w) X.A (.compLoop e 0 (.ref it) (.ref D) ce) (compPost (model X.prog X.w) X.A X.xe use Qf (.ref D) s3.heap.objs.size) s4 := by
    refine loopS_any hn (ht' _) (fun n s' => ∃ i H', Inv (X.blk s3 H3 scope ce fp) [] (wipe σ (own.map (·.2))) H' s' ∧ tn i s'.heap ∧ (∀ b ∈ fp, H' b = none) ∧ W i n H') ?_ m0 ⟨0, H3, I4, st4, nfp, w0⟩
    rintro n s5 ⟨i, H5, I5, st5, n5, w5⟩
    rcases turn i n H5 w5 with ⟨stop, qq⟩ | ⟨go, Nx, hNx, step⟩
    · have td := T.done (X.blk s3 H3 scope ce fp) rfl rfl rfl hc i [] s5 _ H5 (fun _ _ => False) I5 (stat I5 n5) st5 stop
      refine thnF td fun r s6 ⟨hr, I6⟩ => ?_
      subst hr
      -- back in the def's context
      have I7 : Inv X pins σ H5 s6 := I3.call' (ch := fp) I6.os I6.base I6.hok I6.bare fun b hb => ⟨(f3 b hb).1.2.2.2.1, (f3 b hb).1.2.1, (f3 b hb).1.2.2.2.2.1, (f3 b hb).1.2.2.2.2.2⟩
      have nC : H5 s3.heap.objs.size = none := by
        have z : H5 ce.locals = none := I6.free
        rw [cL] at z
        exact z
      obtain ⟨m, hn, _⟩ := I6.loc
      have hn : s6.heap.Ns ce.locals m := hn
      rw [cL] at hn
      exact hRR D s3.heap.objs.size s6 m H5 I7 qq hn (I3.fpOk (Nat.le_refl _) nC)
    · have ti := T.item (X.blk s3 H3 scope ce fp) rfl rfl rfl hc i [] s5 _ H5 (fun _ _ => False) I5 (stat I5 n5) st5 go
      refine thnF ti fun r s6 ⟨u, hr, h6⟩ => ?_
      subst hr
      refine thnF h6 fun _ s7 ⟨x, H7, I7, r7, y7, st7, n7⟩ => ?_
      have I7' := I7.pinned (stat I7 n7) (T.obj _ _ st7)
      refine thnF (pg.run _ s7 _ H7 x u _ I7' r7 (step x H7 y7)) fun _ s8 ⟨σ8, H8, I8, hw8, q8⟩ => ?_
      refine thnF (pt.run _ s8 σ8 H8 _ I8 q8) fun b s9 ⟨H9, I9, q9⟩ => ?_
      -- the turn's end
      have fin : ∀ {σ9 : St} {s' : Shared} {H' : Hp}, Inv (X.blk s3 H3 scope ce fp) ([] ++ pinsAt fp s7.heap) σ9 H' s' → OffE sub σ8 σ9 → Nx H' → ∃ m, m < n ∧ ∃ i H', Inv (X.blk s3 H3 scope ce fp) [] (wipe σ (own.map (·.2))) H' s' ∧ tn i s'.heap ∧ (∀ b ∈ fp, H' b = none) ∧ W i m H' := fun {σ9 s' H'} I' of nx => by
        obtain ⟨m', hm, w'⟩ := hNx H' nx
        have pin' : ∀ b ∈ fp, ∀ o, s7.heap.get? b = some o → s'.heap.get? b = some o ∧ H' b = none := fun b hb o e =>
          let z := I'.pin (b, o) (List.mem_append_right _ (List.mem_append_right _ (mem_pinsAt hb e)))
          ⟨z.1, z.2.1⟩
        refine ⟨m', hm, i + 1, H', (I'.unpinned (pins := [])).weak (by rw [of.1, ← hw8, wipe_length]) (fun j v e => ?_), T.keep _ _ _ st7 fun b hb o e => (pin' b hb o e).1, fun b hb => ?_, w'⟩
        · rw [of.2 j fun z => (wipe_some e).2 (by rw [← hown]; exact hv j z)]
          rw [← hw8] at e
          exact (wipe_some e).1
        · obtain ⟨o, e, _⟩ := T.obj _ _ st7 b hb
          exact (pin' b hb o e).2
      cases b with
      | false =>
        simp only [Bool.false_eq_true, if_false] at q9 ⊢
        exact fin I9 .refl q9
      | true =>
        simp only [if_true] at q9 ⊢
        exact fun k' R' E' hk' => pb.run _ s9 σ8 H9 _ I9 q9 k' R' E' fun σ11 H11 s11 I11 of11 nx => hk' _ (fin I11 of11 nx)
  exact startS_any hn (by rw [hcl]; rfl) rfl loop (T.self X.A 0 _ _ _ st4 loop)
/-- a list's comprehension, run for whatever its list is used -/
def LcRun (X : Cx) (elt : Expr) (gs : List Comprehension) (iter : Expr) (scope : Scope) (pos : Pos) (t : TE) : Prop := ∀ {pins : List (Addr × Obj)} {s : Shared} {σ : St} {H : Hp} {Q : VK} {pos' : Pos} {use : Option (Value → Sem Unit)} {Qf : Value → Shared → Prop}, Inv X pins σ H s → t σ H Q →
  (∀ D C s' m H', Inv X pins σ H' s' → Q (.ref D) H' → s'.heap.Ns C m → FpOk X pins H' C → compPost (model X.prog X.w) X.A X.xe use Qf (.ref D) C (.ok .next) s') →
  wpAny (model X.prog X.w) X.A (comprehension (.ListComp elt gs scope pos) scope X.env pos' (newList []) false (eval iter X.env) use) Qf X.xe s
theorem lc_run {elt : Expr} {gs : List Comprehension} {scope : Scope} {own : List (Str × Nat)} {pos : Pos} {body : Value → Env → Sem PySem.Fin → Sem PySem.Fin} {te : Addr → TB} (hc : X.calm = true) (hN : X.N.Nodup) (hi : PI X tg iter c.wi) (ok : BlkOk X.N X.env.scope scope own) (hown : c.vs = own.map (·.2)) (hv : ∀ i ∈ sub, i ∈ c.vs)
    (ht : ∀ it D env, compTurn (.ListComp elt (⟨tg, iter, ifs, 0⟩ :: gs) scope pos) 0 it (.ref D) env = turnS (.ListComp elt (⟨tg, iter, ifs, 0⟩ :: gs) scope pos) 0 tg iter ifs (body (.ref D) env) it (.ref D) env)
    (hg : ∀ (s : Shared) (H : Hp) (C : Addr) (cl : List (Str × Addr)) (fp : List Addr), PG (X.blk s H scope (compEnvC scope cl C X.env) fp) tg c.g) (hts : ∀ (s : Shared) (H : Hp) (C : Addr) (cl : List (Str × Addr)) (fp : List Addr), PTs (X.blk s H scope (compEnvC scope cl C X.env) fp) ifs c.tt)
    (hb : ∀ (s : Shared) (H : Hp) (C : Addr) (cl : List (Str × Addr)) (fp : List Addr) (D : Addr), BodyOk (X.blk s H scope (compEnvC scope cl C X.env) fp) sub (body (.ref D) (compEnvC scope cl C X.env)) (tCl cs (te D))) (hs : ∀ x, foldedSetIterable iter X.env x = pure x := by intro _; rfl) :
    LcRun X elt (⟨tg, iter, ifs, 0⟩ :: gs) iter scope pos (tCn c cs te fun _ => .lst []) := fun I h hRR =>
  cn_core (ho := fun _ => .lst []) (ob := { cls := .type "list", data := .seq ([] : List Value).toArray }) (.inl ⟨_, _, _, _, rfl⟩) hc hN I rfl hi ok hown hv (fun {A E Q s} q => wpAny_newObj_type q (by show 0 ≤ sizeLine; decide)) (fun H h _ => ⟨Nat.zero_le _, [], 0, .nil, Heap.get?_push_size _ rfl⟩) ht hg hts hb hs h hRR
theorem LcRun.imp {elt : Expr} {gs : List Comprehension} {scope : Scope} {pos : Pos} {t t' : TE} (h : LcRun X elt gs iter scope pos t) (w : ∀ σ H Q, t' σ H Q → t σ H Q) : LcRun X elt gs iter scope pos t' := fun I q hRR => h I (w _ _ _ q) hRR
/-- [elt for .. for ..] as a value -/
theorem pe_lcr {elt : Expr} {gs : List Comprehension} {scope : Scope} {pos : Pos} {t : TE} (h : LcRun X elt (⟨tg, iter, ifs, 0⟩ :: gs) iter scope pos t) : PE X (.ListComp elt (⟨tg, iter, ifs, 0⟩ :: gs) scope pos) t := by
  refine ⟨fun pins s σ H Q I q => ?_⟩
  rw [eval_ListComp]
  refine h I q fun D C s' m H' I' q hn f => ⟨m, hn, fun h'' sb => ?_⟩
  obtain ⟨f0, f1, f2, f3, f4, f5⟩ := f
  exact ⟨.ref D, H', I'.turned (t' := s'.toks) (fun b o hb e => (sb.2 b hb).trans e) f0 f1 f3 f4 f5, rfl, q⟩
/-- name = [..] on one line, the name a local -/
theorem ps_setLcr {i : Nat} {y : Str} {py spos : Pos} {elt : Expr} {gs : List Comprehension} {scope : Scope} {pos : Pos} {t : TE} (h : LcRun X elt (⟨tg, iter, ifs, 0⟩ :: gs) iter scope pos t) (hN : X.N.Nodup) (hy : X.N[i]? = some y) (hyl : X.env.scope.names.lookup y = some .local)
    (hsw : swapsWith (.ListComp elt (⟨tg, iter, ifs, 0⟩ :: gs) scope pos) (some (.Name y py)) spos.line X.env = pure true) :
    PS X (.Assign [.Name y py] (.ListComp elt (⟨tg, iter, ifs, 0⟩ :: gs) scope pos) spos) (tAsg t (gName i)) := by
  refine ⟨fun pins s σ H D I hq => ?_⟩
  rw [exec_Assign_Name_used _ _ _ _ hsw]
  refine wpAny_bind (wpAny_standAt (wpAny_bind ?_))
  show wpAny _ X.A (do let _ ← comprehension (.ListComp elt (⟨tg, iter, ifs, 0⟩ :: gs) scope pos) scope X.env (firstIterPos (⟨tg, iter, ifs, 0⟩ :: gs) pos) (newList []) false (eval iter X.env) (some (assign (.Name y py) X.env))) _ _ s
  have hq : t σ H (fun x H1 => gName i x σ H1 D.nx) := hq
  refine wpAny_bind (thn (h (Qf := fun _ s' => SP X pins D .next s') I hq fun L C s' m H' I' q hn f => ?_) fun _ s' hq => wpAny_pure (wpAny_pure hq))
  show wpAny _ _ (assign (.Name y py) X.env (.ref L)) _ _ _
  refine wpAny_assign_Name (store_ok2 (v := V.ref L) I' hN hy (.inl hyl) rfl (fun s2 I2 ⟨a, sb, ha⟩ => ?_) (.inr hyl))
  obtain ⟨f0, f1, f2, f3, f4, f5⟩ := f
  have haC : C ≠ a := by
    rcases ha with z | z
    · rw [z]; exact f1
    · exact fun e => f4 y a z e.symm
  refine ⟨m, hn.sameBut sb haC, fun h3 sb3 => ?_⟩
  exact ⟨_, H', I2.turned (t' := s2.toks) (fun b o hb e => (sb3.2 b hb).trans e) f0 f1 f3 f4 f5, q⟩
end
end L2

set_option Elab.async false
set_option linter.all false
set_option maxRecDepth 100000
set_option maxHeartbeats 4000000
namespace DL
open PySem PySem.Spec PyProof.Rows L2
/-! ### comprehensions of any number of clauses -/
/-- what a block gathers at D: seen by the visible heap and the whole heap -/
structure AccK (A E : Type) where
  P : Addr → Hp → Hp → A → Prop
  size : A → Nat
  step : A → E → A
  mono : ∀ {D : Addr} {Hv Hv' H H' : Hp} {a : A}, P D Hv H a → Same Hv Hv' → H' D = H D → P D Hv' H' a
  there : ∀ {D : Addr} {Hv H : Hp} {a : A}, P D Hv H a → ∃ o, H D = some o
  grow : ∀ a x, size (step a x) ≤ size a + 1
theorem AccK.growL {A E : Type} (AC : AccK A E) (l : List E) : ∀ a, AC.size (l.foldl AC.step a) ≤ AC.size a + l.length := by
  induction l with
  | nil => intro a; exact Nat.le_refl _
  | cons x l ih =>
    intro a
    have h1 := ih (AC.step a x)
    have h2 := AC.grow a x
    simp only [List.foldl_cons, List.length_cons]
    omega
theorem split_flat {α E : Type} {xs : List α} {pr : α → Bool} {out : α → List E} {i : Nat} (hlt : i < xs.length) (hp : pr xs[i] = true) : ((xs.filter pr).flatMap out) = (((xs.take i).filter pr).flatMap out) ++ out xs[i] ++ (((xs.drop (i + 1)).filter pr).flatMap out) := by
  have e : xs.drop i = xs[i] :: xs.drop (i + 1) := List.drop_eq_getElem_cons hlt
  have e2 : xs.filter pr = (xs.take i).filter pr ++ (xs.drop i).filter pr := by rw [← List.filter_append, List.take_append_drop]
  rw [e2, List.flatMap_append, e, List.filter_cons, if_pos hp, List.flatMap_cons, List.append_assoc]
def But (D : Addr) (H H' : Hp) : Prop := ∀ b o, b ≠ D → H b = some o → H' b = some o
theorem But.refl {D : Addr} {H : Hp} : But D H H := fun _ _ _ h => h
theorem But.trans {D : Addr} {H H1 H2 : Hp} (a : But D H H1) (b : But D H1 H2) : But D H H2 := fun x o n h => b x o n (a x o n h)
theorem But.same {D : Addr} {H H1 : Hp} (a : Same H H1) : But D H H1 := fun x o n h => a x o h
theorem But.upd {D : Addr} {H : Hp} {o : HO} : But D H (upd H D o) := fun x _ n h => by rw [upd_ne n]; exact h
theorem vis_but {F : Addr → Bool} {O : Om} {D : Addr} {H H' : Hp} (hF : F D = true) (b : But D H H') : Same (vis F O H) (vis F O H') := fun a o h => by
  obtain ⟨h1, h2, h3⟩ := vis_some.mp h
  have ne : a ≠ D := fun z => by rw [z, hF] at h1; cases h1
  exact vis_some.mpr ⟨h1, h2, b _ _ ne h3⟩
/-- the ground of a block: D hidden, nobody's -/
structure Hid (B : Gd) (D : Addr) : Prop where
  F : B.F D = true
  L : ∀ m, (D, m) ∉ B.L
section
variable {K : PySem.W.Frag} {B : Gd} {ρ : List (Option D)} {O : Om} {σ : L2.St} {H H' : Hp} {D : Addr}
theorem Hid.notO (h : Hid B D) (s : StOk K B ρ O σ H) : has O D = false := by
  obtain ⟨o, e⟩ := B.ok D h.F
  exact (s.m.base D o e).2
theorem hid_step (s : StOk K B ρ O σ H) (hd : Hid B D) (b : But D H H') (he : ∃ o, H' D = some o) : ∃ B' : Gd, B'.F = B.F ∧ B'.L = B.L ∧ Hid B' D ∧ StOk K B' ρ O σ H' := by
  have hO := hd.notO s
  have sv := vis_but (O := O) hd.F b
  refine ⟨⟨B.F, fun a => if a = D then H' D else B.Hb a, B.W, B.L, fun a h => ?_, B.lF⟩, rfl, rfl, ⟨hd.F, hd.L⟩, ⟨⟨fun a o q => ?_, fun a m hm => ?_, s.m.nd, fun a m hm => ?_⟩, s.env.mono sv⟩⟩
  · by_cases q : a = D
    · subst q; rw [if_pos rfl]; exact he
    · rw [if_neg q]; exact B.ok a h
  · by_cases z : a = D
    · subst z
      have q' : (if a = a then H' a else B.Hb a) = some o := q
      rw [if_pos rfl] at q'
      exact ⟨q', hO⟩
    · have q' : (if a = D then H' D else B.Hb a) = some o := q
      rw [if_neg z] at q'
      exact ⟨b _ _ z (s.m.base a o q').1, (s.m.base a o q').2⟩
  · have ne : a ≠ D := fun z => by
      subst z
      have := has_mem.mpr ⟨m, hm⟩
      rw [hO] at this; cases this
    exact (s.m.mem a m hm).mono sv fun o q => b _ _ ne q
  · have ne : a ≠ D := fun z => by subst z; exact hd.L m hm
    exact (s.m.lent a m hm).mono sv fun o q => b _ _ ne q
end
/-- what is walked, in any of the contexts -/
def tAnyI (Xs : Cx → Prop) (tg iter : Expr) : TI := fun σ H R => ∀ X, Xs X → ∃ wi, PI X tg iter wi ∧ wi σ H R
theorem anyI_ok {Xs : Cx → Prop} {X : Cx} {tg iter : Expr} (h : Xs X) : PI X tg iter (tAnyI Xs tg iter) := ⟨fun pins s σ H R I q => by
  obtain ⟨wi, p, q'⟩ := q X h
  exact p.run pins s σ H R I q'⟩
section
variable {X : Cx} {B : Gd} {ρ ρ' : List (Option D)} {O : Om} {scope : Scope} {A E : Type} {AC : AccK A E} {elt iter tg : Expr} {ifs : List Expr} {pos : Pos} {D0 : Addr} {te : TB} {cs : List Clz}
/-- the rest of a block's clauses, from the slots ρ: the items l are gathered -/
def TailOk (X : Cx) (L : Om) (O : Om) (AC : AccK A E) (D0 : Addr) (cs : List Clz) (te : TB) (ρ : List (Option D)) (l : List E) : Prop :=
  ∀ (B' : Gd) (σ : L2.St) (H : Hp) (a : A) (Nx : Hp → Prop), B'.L = L → Hid B' D0 → StOk X.K B' ρ O σ H → AC.P D0 (vis B'.F O H) H a → AC.size a + l.length ≤ sizeLine →
    (∀ H', But D0 H H' → AC.P D0 (vis B'.F O H') H' (l.foldl AC.step a) → Nx H') → tCl cs te σ H Nx
theorem tail_clause {α : Type} {xs : List α} {h : α → D} {pr : α → Bool} {out : α → List E} {g : TG} {sl vs : List Nat} {f}
    (hi : ∀ X' B', B'.L = B.L → Blk X scope X' → ∃ wi G, EI X' B' ρ O tg iter wi G (xs.map h) ∧ G O) (hg : ∀ X', Blk X scope X' → EB X' tg g sl f) (hsl : ∀ j ∈ sl, j ∈ vs)
    (hb : ∀ x ∈ xs, ∃ ρ', f (h x) (wipeD ρ vs) = some ρ' ∧ (∀ X' B', B'.L = B.L → Blk X scope X' → ETs X' B' ρ' O ifs (pr x)) ∧ (pr x = true → TailOk X B.L O AC D0 cs te ρ' (out x))) :
    TailOk X B.L O AC D0 (⟨tAnyI (Blk X scope) tg iter, g, tAnyTs (Blk X scope) ifs, vs⟩ :: cs) te ρ ((xs.filter pr).flatMap out) := fun B0 σ H a Nx eL hd st hA hz k => by
  show tAnyI (Blk X scope) tg iter σ H _
  intro Xp hXp
  have hK : ∀ X', Blk X scope X' → X'.K = X.K := fun X' ⟨s, H, C, cl, fp, e⟩ => by rw [e]
  obtain ⟨wi, G, ei, hG⟩ := hi Xp B0 eL hXp
  refine ⟨wi, ei.pi, ei.is σ H _ (by rw [hK Xp hXp]; exact st) fun J H1 e1 S => ?_⟩
  rw [hK Xp hXp] at S
  have s1 := st.same e1
  have hA1 := AC.mono hA (vis_same (F := B0.F) (O := O) e1) (by obtain ⟨o, q⟩ := AC.there hA; rw [q, e1 _ _ q] : H1 D0 = H D0)
  have hlx : (xs.map h).length = xs.length := List.length_map ..
  refine ⟨fun i m H' => m = xs.length - i ∧ i ≤ xs.length ∧ But D0 H1 H' ∧ AC.P D0 (vis B0.F O H') H' ((((xs.take i).filter pr).flatMap out).foldl AC.step a), ⟨xs.length, by simp, Nat.zero_le _, .refl, by simpa using hA1⟩, ?_⟩
  rintro i m H' ⟨rfl, hi', bt, hP⟩
  obtain ⟨B', eF, eL', hd', sB⟩ := hid_step s1 hd bt (AC.there hP)
  have eL2 : B'.L = B0.L := eL'
  have eB : Same (vis B0.F O H1) (vis B'.F O H') := by rw [eF]; exact vis_but hd.F bt
  by_cases hlt : i < xs.length
  · refine .inr ⟨S.goes i B' O H' eL2 (by rw [hlx]; exact hlt) sB.m eB hG, fun H2 => But D0 H1 H2 ∧ AC.P D0 (vis B0.F O H2) H2 ((((xs.take (i + 1)).filter pr).flatMap out).foldl AC.step a), fun H2 q => ⟨xs.length - (i + 1), by omega, rfl, hlt, q.1, q.2⟩, fun x H2 y => ?_⟩
    obtain ⟨e2, d, hd2, rv⟩ := S.yields i B' O H' x H2 eL2 (by rw [hlx]; exact hlt) sB.m eB hG y
    have ed : d = h (xs[i]) := by
      rw [List.getElem?_map, List.getElem?_eq_getElem hlt] at hd2
      exact (Option.some.inj hd2).symm
    subst ed
    obtain ⟨ρ', hf, ht, he⟩ := hb (xs[i]) (List.getElem_mem hlt)
    have sw : StOk X.K B' (wipeD ρ vs) O (L2.wipe σ vs) H2 := ⟨(sB.same e2).m, wipeD_env (sB.same e2).env vs⟩
    refine (hg (X.blk X.s_0 H scope (compEnvC scope [] 0 X.env) []) ⟨X.s_0, H, 0, [], [], rfl⟩).is B' O _ _ ρ' x _ H2 _ hf sw rv fun σ2 s2 off => ⟨(off.wipe hsl).trans (wipe_wipe _ _), ?_⟩
    refine ⟨X.K, B', ρ', O, pr xs[i], fun X' hX' => ⟨hK X' hX', ht X' B' (eL2.trans eL) hX'⟩, s2, fun H3 e3 => ?_⟩
    have tk : xs.take (i + 1) = xs.take i ++ [xs[i]] := by rw [List.take_succ, List.getElem?_eq_getElem hlt]; rfl
    have b3 : But D0 H1 H3 := (bt.trans (.same e2)).trans (.same e3)
    have keepD : H3 D0 = H' D0 := by
      obtain ⟨o, q⟩ := AC.there hP
      rw [q, e3 _ _ (e2 _ _ q)]
    have hP3 : AC.P D0 (vis B0.F O H3) H3 ((((xs.take i).filter pr).flatMap out).foldl AC.step a) := AC.mono hP (vis_same (e2.trans e3)) keepD
    cases hp : pr xs[i] with
    | false =>
      refine iteF ⟨b3, ?_⟩
      rw [tk, List.filter_append]
      have : List.filter pr [xs[i]] = [] := by simp [hp]
      rw [this, List.append_nil]
      exact hP3
    | true =>
      refine iteT (he hp B' σ2 H3 _ _ (eL2.trans eL) hd' (s2.same e3) (by rw [eF]; exact hP3) ?_ fun H4 b4 hP4 => ⟨b3.trans b4, ?_⟩)
      · have g1 := AC.growL (((xs.take i).filter pr).flatMap out) a
        have l1 : (((xs.take i).filter pr).flatMap out).length + (out xs[i]).length ≤ ((xs.filter pr).flatMap out).length := by
          have := split_flat (out := out) hlt hp
          rw [this]; simp only [List.length_append]; omega
        omega
      · rw [tk, List.filter_append, List.flatMap_append, List.foldl_append]
        have : List.filter pr [xs[i]] = [xs[i]] := by simp [hp]
        rw [this]
        rw [eF] at hP4
        simpa using hP4
  · have e : i = xs.length := by omega
    subst e
    refine .inl ⟨by have q := S.stops B' O H' eL2 sB.m eB hG; rw [hlx] at q; exact q, k H' ((But.same e1).trans bt) ?_⟩
    rw [List.take_length] at hP
    exact hP
/-- the first clause, and the whole -/
theorem cnW_imp {α : Type} {xs : List α} {h : α → D} {pr : α → Bool} {out : α → List E} {G : Om → Prop} {g : TG} {sl vs : List Nat} {f} {wi : TI} {te : Addr → TB} {ho : Addr → HO} {a0 : A} {σ : L2.St} {H : Hp} {Q : VK}
    (hi : EI X B ρ O tg iter wi G (xs.map h)) (hG : G O) (hg : ∀ X', Blk X scope X' → EB X' tg g sl f) (hsl : ∀ j ∈ sl, j ∈ vs)
    (hb : ∀ D0, ∀ x ∈ xs, ∃ ρ', f (h x) (wipeD ρ vs) = some ρ' ∧ (∀ X' B', B'.L = B.L → Blk X scope X' → ETs X' B' ρ' O ifs (pr x)) ∧ (pr x = true → TailOk X B.L O AC D0 cs (te D0) ρ' (out x)))
    (h0 : ∀ D Hv H, (D == sysModules) = false → AC.P D Hv (upd H D (ho D)) a0) (hz : AC.size a0 + ((xs.filter pr).flatMap out).length ≤ sizeLine)
    (st : StOk X.K B ρ O σ H) (k : ∀ p H', H p = none → Same H H' → AC.P p (vis B.F ((p, .lst []) :: O) H') H' (((xs.filter pr).flatMap out).foldl AC.step a0) → Q (.ref p) H') :
    tCn ⟨wi, g, tAnyTs (Blk X scope) ifs, vs⟩ cs te ho σ H Q := by
  refine hi.is σ H _ st fun J H1 e1 S D hD hlo => ?_
  have hK : ∀ X', Blk X scope X' → X'.K = X.K := fun X' ⟨s, H, C, cl, fp, e⟩ => by rw [e]
  have s1 := st.same e1
  have oD := s1.m.newO hD
  have fD := s1.m.newF hD
  have visD : ∀ {H' : Hp}, vis B.F ((D, .lst []) :: O) H' = fun a => if (B.F a || a == D || has O a) = true then none else H' a := fun {H'} => by
    funext a
    unfold vis
    rw [has_cons, Bool.beq_comm (a := D), Bool.or_assoc]
  have keep : ∀ {H' : Hp}, Same H1 H' → Same (vis B.F O H1) (vis B.F ((D, .lst []) :: O) H') := fun {H'} e a o h => by
    obtain ⟨h1, h2, h3⟩ := vis_some.mp h
    have ne : a ≠ D := ne_of_none h3 hD
    exact vis_some.mpr ⟨h1, by rw [has_cons, h2, Bool.or_false]; exact beq_eq_false_iff_ne.mpr (Ne.symm ne), e _ _ h3⟩
  have nL : ∀ m, (D, m) ∉ B.L := fun m hm => by
    obtain ⟨o, q⟩ := (s1.m.lent D m hm).some
    rw [hD] at q; cases q
  have hid : ∀ {H' : Hp} (e : Same H1 H') (hd : ∃ o, H' D = some o), ∃ B' : Gd, B'.L = B.L ∧ Hid B' D ∧ (∀ H2, vis B'.F O H2 = vis B.F ((D, .lst []) :: O) H2) ∧ StOk X.K B' (wipeD ρ vs) O (L2.wipe σ vs) H' := fun {H'} e hd => by
    have b3 : ∀ a o, B.Hb a = some o → H' a = some o ∧ has O a = false := fun a o q => ⟨e _ _ (s1.m.base a o q).1, (s1.m.base a o q).2⟩
    have ev : ∀ H2, vis (B.hid D H' O B.ok hd b3 oD).F O H2 = vis B.F ((D, .lst []) :: O) H2 := fun H2 => by rw [visD]; rfl
    refine ⟨B.hid D H' O B.ok hd b3 oD, rfl, ⟨by show (B.F D || D == D) = true; simp, nL⟩, ev, ⟨⟨fun a o q => ?_, fun a m hm => ?_, s1.m.nd, fun a m hm => ?_⟩, ?_⟩⟩
    · have q' : (if has O a = true then none else H' a) = some o := q
      cases ha : has O a with
      | true => rw [ha, if_pos rfl] at q'; cases q'
      | false => rw [ha, if_neg Bool.false_ne_true] at q'; exact ⟨q', rfl⟩
    · rw [ev]
      exact (s1.m.mem a m hm).mono (keep e) fun o q => e _ _ q
    · rw [ev]
      exact (s1.m.lent a m hm).mono (keep e) fun o q => e _ _ q
    · rw [ev]
      exact wipeD_env (s1.env.mono (keep e)) _
  have hlx : (xs.map h).length = xs.length := List.length_map ..
  refine ⟨fun i m H' => m = xs.length - i ∧ i ≤ xs.length ∧ Same H1 H' ∧ AC.P D (vis B.F ((D, .lst []) :: O) H') H' ((((xs.take i).filter pr).flatMap out).foldl AC.step a0), ⟨xs.length, by simp, Nat.zero_le _, same_new hD, by simpa using h0 D _ H1 hlo⟩, ?_⟩
  rintro i m H' ⟨rfl, hi', eS, hP⟩
  obtain ⟨B', eL, hd', ev, sB⟩ := hid eS (AC.there hP)
  have eB : Same (vis B.F O H1) (vis B'.F O H') := by rw [ev]; exact keep eS
  by_cases hlt : i < xs.length
  · refine .inr ⟨S.goes i B' O H' eL (by rw [hlx]; exact hlt) sB.m eB hG, fun H2 => Same H1 H2 ∧ AC.P D (vis B.F ((D, .lst []) :: O) H2) H2 ((((xs.take (i + 1)).filter pr).flatMap out).foldl AC.step a0), fun H2 q => ⟨xs.length - (i + 1), by omega, rfl, hlt, q.1, q.2⟩, fun x H2 y => ?_⟩
    obtain ⟨e2, d, hd2, rv⟩ := S.yields i B' O H' x H2 eL (by rw [hlx]; exact hlt) sB.m eB hG y
    have ed : d = h (xs[i]) := by
      rw [List.getElem?_map, List.getElem?_eq_getElem hlt] at hd2
      exact (Option.some.inj hd2).symm
    subst ed
    obtain ⟨ρ', hf, ht, he⟩ := hb D (xs[i]) (List.getElem_mem hlt)
    refine (hg (X.blk X.s_0 H scope (compEnvC scope [] 0 X.env) []) ⟨X.s_0, H, 0, [], [], rfl⟩).is B' O _ _ ρ' x _ H2 _ hf (sB.same e2) rv fun σ2 s2 off => ⟨(off.wipe hsl).trans (wipe_wipe _ _), ?_⟩
    refine ⟨X.K, B', ρ', O, pr xs[i], fun X' hX' => ⟨hK X' hX', ht X' B' eL hX'⟩, s2, fun H3 e3 => ?_⟩
    have tk : xs.take (i + 1) = xs.take i ++ [xs[i]] := by rw [List.take_succ, List.getElem?_eq_getElem hlt]; rfl
    have eS3 : Same H1 H3 := (eS.trans e2).trans e3
    have keepD : H3 D = H' D := by
      obtain ⟨o, q⟩ := AC.there hP
      rw [q, e3 _ _ (e2 _ _ q)]
    have hP3 : AC.P D (vis B.F ((D, .lst []) :: O) H3) H3 ((((xs.take i).filter pr).flatMap out).foldl AC.step a0) := AC.mono hP (vis_same (e2.trans e3)) keepD
    cases hp : pr xs[i] with
    | false =>
      refine iteF ⟨eS3, ?_⟩
      rw [tk, List.filter_append]
      have : List.filter pr [xs[i]] = [] := by simp [hp]
      rw [this, List.append_nil]
      exact hP3
    | true =>
      refine iteT (he hp B' σ2 H3 _ _ eL hd' (s2.same e3) (by rw [ev]; exact hP3) ?_ fun H4 b4 hP4 => ⟨fun b o q => b4 b o (ne_of_none q hD) (eS3 _ _ q), ?_⟩)
      · have g1 := AC.growL (((xs.take i).filter pr).flatMap out) a0
        have l1 : (((xs.take i).filter pr).flatMap out).length + (out xs[i]).length ≤ ((xs.filter pr).flatMap out).length := by
          have := split_flat (out := out) hlt hp
          rw [this]; simp only [List.length_append]; omega
        omega
      · rw [tk, List.filter_append, List.flatMap_append, List.foldl_append]
        have : List.filter pr [xs[i]] = [xs[i]] := by simp [hp]
        rw [this]
        rw [ev] at hP4
        simpa using hP4
  · have e : i = xs.length := by omega
    subst e
    refine .inl ⟨by have q := S.stops B' O H' eL sB.m eB hG; rw [hlx] at q; exact q, k D H' (e1.free hD) (e1.trans eS) ?_⟩
    rw [List.take_length] at hP
    exact hP
end
/-! ### lists -/
def accL (K : PySem.W.Frag) : AccK (List D) D where
  P := fun D Hv H as => ∃ acc, H D = some (.lst acc) ∧ RpL K Hv acc as
  size := List.length
  step := fun as d => as ++ [d]
  mono := fun ⟨acc, h, r⟩ e eh => ⟨acc, eh.trans h, r.mono e⟩
  there := fun ⟨acc, h, _⟩ => ⟨_, h⟩
  grow := fun a x => by simp
theorem foldl_snoc {α : Type} (l : List α) : ∀ a, l.foldl (fun as d => as ++ [d]) a = a ++ l := by
  induction l with
  | nil => intro a; simp
  | cons x l ih => intro a; simp [ih]
abbrev teL (X : Cx) (scope : Scope) (elt : Expr) (D0 : Addr) : TB := fun σ H Nx => tAnyE (Blk X scope) elt σ H fun y H7 => ∃ acc, H7 D0 = some (.lst acc) ∧ acc.length < sizeLine ∧ Nx (upd H7 D0 (.lst (acc ++ [y])))
section
variable {X : Cx} {B : Gd} {ρ ρ' : List (Option D)} {O : Om} {scope : Scope} {elt iter tg it2 tg2 it3 tg3 : Expr} {ifs ifs2 ifs3 : List Expr} {pos : Pos} {D0 : Addr} {d : D}
theorem tail_elt (he : ∀ X' B', B'.L = B.L → Blk X scope X' → EV X' B' ρ O elt d) : TailOk X B.L O (accL X.K) D0 [] (teL X scope elt D0) ρ [d] := fun B0 σ H a Nx eL hd st ⟨acc, hA, rA⟩ hz k => by
  have hK : ∀ X', Blk X scope X' → X'.K = X.K := fun X' ⟨s, H, C, cl, fp, e⟩ => by rw [e]
  refine ⟨X.K, B0, ρ, O, d, fun X' hX' => ⟨hK X' hX', he X' B0 eL hX'⟩, st, fun v H4 e4 r4 => ⟨acc, e4 _ _ hA, ?_, ?_⟩⟩
  · have hz' : a.length + 1 ≤ sizeLine := hz
    rw [rA.length]; omega
  · refine k _ ((But.same e4).trans .upd) ⟨acc ++ [v], upd_same, ?_⟩
    have up : vis B0.F O (upd H4 D0 (.lst (acc ++ [v]))) = vis B0.F O H4 := by
      funext b
      by_cases q : b = D0
      · subst q; unfold vis; rw [hd.F]; simp
      · unfold vis; rw [upd_ne q]
    rw [up]
    exact (rA.mono (vis_same e4)).append (.cons r4 .nil)
/-- two clauses -/
theorem lcn2 {α β : Type} {xs : List α} {h : α → D} {pr : α → Bool} {ys : α → List β} {h2 : α → β → D} {pr2 : α → β → Bool} {el : α → β → D} (own own2 : List (Str × Nat)) {wi : TI} {G : Om → Prop} {g g2 : TG} {sl sl2 : List Nat} {f f2}
    (hc : X.calm = true) (hN : X.N.Nodup) (hi : EI X B ρ O tg iter wi G (xs.map h)) (hG : G O) (ok : BlkOk X.N X.env.scope scope own)
    (hg : ∀ X', Blk X scope X' → EB X' tg g sl f) (hsl : ∀ j ∈ sl, j ∈ own.map (·.2)) (hg2 : ∀ X', Blk X scope X' → EB X' tg2 g2 sl2 f2) (hsl2 : ∀ j ∈ sl2, j ∈ own2.map (·.2)) (hv : ∀ i ∈ own2.map (·.2), i ∈ own.map (·.2))
    (hb : ∀ x ∈ xs, ∃ ρ', f (h x) (wipeD ρ (own.map (·.2))) = some ρ' ∧ (∀ X' B', B'.L = B.L → Blk X scope X' → ETs X' B' ρ' O ifs (pr x)) ∧ (pr x = true → (∀ X' B', B'.L = B.L → Blk X scope X' → ∃ wi G, EI X' B' ρ' O tg2 it2 wi G ((ys x).map (h2 x)) ∧ G O) ∧
      ∀ y ∈ ys x, ∃ ρ2, f2 (h2 x y) (wipeD ρ' (own2.map (·.2))) = some ρ2 ∧ (∀ X' B', B'.L = B.L → Blk X scope X' → ETs X' B' ρ2 O ifs2 (pr2 x y)) ∧ (pr2 x y = true → ∀ X' B', B'.L = B.L → Blk X scope X' → EV X' B' ρ2 O elt (el x y))))
    (hz : ((xs.filter pr).flatMap fun x => ((ys x).filter (pr2 x)).map (el x)).length ≤ sizeLine) (hs : ∀ x, foldedSetIterable iter X.env x = pure x := by intro _; rfl) (hs2 : ∀ env x, foldedSetIterable it2 env x = pure x := by intro _ _; rfl) :
    LcRun X elt [⟨tg, iter, ifs, 0⟩, ⟨tg2, it2, ifs2, 0⟩] iter scope pos (tN X.K B ρ O ((xs.filter pr).flatMap fun x => ((ys x).filter (pr2 x)).map (el x))) := by
  refine LcRun.imp (lc_run (elt := elt) (pos := pos) (c := ⟨wi, g, tAnyTs (Blk X scope) ifs, own.map (·.2)⟩) (cs := [⟨tAnyI (Blk X scope) tg2 it2, g2, tAnyTs (Blk X scope) ifs2, own2.map (·.2)⟩]) (sub := own2.map (·.2)) (te := teL X scope elt)
    (body := fun acc env => bodyC (.ListComp elt [⟨tg, iter, ifs, 0⟩, ⟨tg2, it2, ifs2, 0⟩] scope pos) 1 it2 acc env) hc hN hi.pi ok rfl hv (fun it D env => by rfl) (fun s H C cl fp => (hg _ ⟨s, H, C, cl, fp, rfl⟩).pg) (fun s H C cl fp => anyTs_ok ⟨s, H, C, cl, fp, rfl⟩)
    (fun s H C cl fp D => body_clause (X := X.blk s H scope (compEnvC scope cl C X.env) fp) (sub := []) (e := (.ListComp elt [⟨tg, iter, ifs, 0⟩, ⟨tg2, it2, ifs2, 0⟩] scope pos)) (d := 1) (acc := .ref D) (c := ⟨tAnyI (Blk X scope) tg2 it2, g2, tAnyTs (Blk X scope) ifs2, own2.map (·.2)⟩) (cs := []) (te := teL X scope elt D) (body := bodyE (do let _ ← call (.builtin "list.append") [.ref D, ← eval elt (compEnvC scope cl C X.env)])) rfl (.inl ⟨_, _, _, _, rfl⟩) hc rfl (fun it => by rfl) hs2 (anyI_ok ⟨s, H, C, cl, fp, rfl⟩) (hg2 _ ⟨s, H, C, cl, fp, rfl⟩).pg (anyTs_ok ⟨s, H, C, cl, fp, rfl⟩) (fun _ h => by cases h) (body_list (elt := elt) rfl (anyE_ok ⟨s, H, C, cl, fp, rfl⟩))) hs) fun σ H Q ⟨st, k⟩ => ?_
  refine cnW_imp (pr := pr) (AC := accL X.K) (a0 := []) (out := fun x => ((ys x).filter (pr2 x)).map (el x)) hi hG hg hsl (fun D0 x hx => ?_) (fun D Hv H _ => ⟨[], upd_same, .nil⟩) (by simpa [accL] using hz) st fun p H' hp e ⟨acc, hv, r⟩ => k p H' acc hp e hv ?_
  · obtain ⟨ρ', b1, b2, b3⟩ := hb x hx
    refine ⟨ρ', b1, b2, fun hp => ?_⟩
    have e : ((ys x).filter (pr2 x)).map (el x) = ((ys x).filter (pr2 x)).flatMap fun y => [el x y] := by rw [List.map_eq_flatMap]
    show TailOk X B.L O _ D0 _ _ ρ' (((ys x).filter (pr2 x)).map (el x))
    rw [e]
    refine tail_clause (b3 hp).1 hg2 hsl2 fun y hy => ?_
    obtain ⟨ρ2, c1, c2, c3⟩ := (b3 hp).2 y hy
    exact ⟨ρ2, c1, c2, fun hp2 => tail_elt (c3 hp2)⟩
  · have q : ∀ m, vis B.F ((p, m) :: O) H' = vis B.F ((p, .lst []) :: O) H' := fun m => vis_keys rfl
    rw [q]
    have e := foldl_snoc ((xs.filter pr).flatMap fun x => ((ys x).filter (pr2 x)).map (el x)) []
    rw [List.nil_append] at e
    rw [← e]; exact r
/-- three -/
theorem lcn3 {α β γ : Type} {xs : List α} {h : α → D} {pr : α → Bool} {ys : α → List β} {h2 : α → β → D} {pr2 : α → β → Bool} {zs : α → β → List γ} {h3 : α → β → γ → D} {pr3 : α → β → γ → Bool} {el : α → β → γ → D} (own own2 own3 : List (Str × Nat)) {wi : TI} {G : Om → Prop} {g g2 g3 : TG} {sl sl2 sl3 : List Nat} {f f2 f3}
    (hc : X.calm = true) (hN : X.N.Nodup) (hi : EI X B ρ O tg iter wi G (xs.map h)) (hG : G O) (ok : BlkOk X.N X.env.scope scope own)
    (hg : ∀ X', Blk X scope X' → EB X' tg g sl f) (hsl : ∀ j ∈ sl, j ∈ own.map (·.2)) (hg2 : ∀ X', Blk X scope X' → EB X' tg2 g2 sl2 f2) (hsl2 : ∀ j ∈ sl2, j ∈ own2.map (·.2)) (hg3 : ∀ X', Blk X scope X' → EB X' tg3 g3 sl3 f3) (hsl3 : ∀ j ∈ sl3, j ∈ own3.map (·.2)) (hv : ∀ i ∈ own2.map (·.2), i ∈ own.map (·.2)) (hv3 : ∀ i ∈ own3.map (·.2), i ∈ own2.map (·.2))
    (hb : ∀ x ∈ xs, ∃ ρ', f (h x) (wipeD ρ (own.map (·.2))) = some ρ' ∧ (∀ X' B', B'.L = B.L → Blk X scope X' → ETs X' B' ρ' O ifs (pr x)) ∧ (pr x = true → (∀ X' B', B'.L = B.L → Blk X scope X' → ∃ wi G, EI X' B' ρ' O tg2 it2 wi G ((ys x).map (h2 x)) ∧ G O) ∧
      ∀ y ∈ ys x, ∃ ρ2, f2 (h2 x y) (wipeD ρ' (own2.map (·.2))) = some ρ2 ∧ (∀ X' B', B'.L = B.L → Blk X scope X' → ETs X' B' ρ2 O ifs2 (pr2 x y)) ∧ (pr2 x y = true → (∀ X' B', B'.L = B.L → Blk X scope X' → ∃ wi G, EI X' B' ρ2 O tg3 it3 wi G ((zs x y).map (h3 x y)) ∧ G O) ∧
        ∀ z ∈ zs x y, ∃ ρ3, f3 (h3 x y z) (wipeD ρ2 (own3.map (·.2))) = some ρ3 ∧ (∀ X' B', B'.L = B.L → Blk X scope X' → ETs X' B' ρ3 O ifs3 (pr3 x y z)) ∧ (pr3 x y z = true → ∀ X' B', B'.L = B.L → Blk X scope X' → EV X' B' ρ3 O elt (el x y z)))))
    (hz : ((xs.filter pr).flatMap fun x => ((ys x).filter (pr2 x)).flatMap fun y => ((zs x y).filter (pr3 x y)).map (el x y)).length ≤ sizeLine) (hs : ∀ x, foldedSetIterable iter X.env x = pure x := by intro _; rfl) (hs2 : ∀ env x, foldedSetIterable it2 env x = pure x := by intro _ _; rfl) (hs3 : ∀ env x, foldedSetIterable it3 env x = pure x := by intro _ _; rfl) :
    LcRun X elt [⟨tg, iter, ifs, 0⟩, ⟨tg2, it2, ifs2, 0⟩, ⟨tg3, it3, ifs3, 0⟩] iter scope pos (tN X.K B ρ O ((xs.filter pr).flatMap fun x => ((ys x).filter (pr2 x)).flatMap fun y => ((zs x y).filter (pr3 x y)).map (el x y))) := by
  refine LcRun.imp (lc_run (elt := elt) (pos := pos) (c := ⟨wi, g, tAnyTs (Blk X scope) ifs, own.map (·.2)⟩) (cs := [⟨tAnyI (Blk X scope) tg2 it2, g2, tAnyTs (Blk X scope) ifs2, own2.map (·.2)⟩, ⟨tAnyI (Blk X scope) tg3 it3, g3, tAnyTs (Blk X scope) ifs3, own3.map (·.2)⟩]) (sub := own2.map (·.2)) (te := teL X scope elt)
    (body := fun acc env => bodyC (.ListComp elt [⟨tg, iter, ifs, 0⟩, ⟨tg2, it2, ifs2, 0⟩, ⟨tg3, it3, ifs3, 0⟩] scope pos) 1 it2 acc env) hc hN hi.pi ok rfl hv (fun it D env => by rfl) (fun s H C cl fp => (hg _ ⟨s, H, C, cl, fp, rfl⟩).pg) (fun s H C cl fp => anyTs_ok ⟨s, H, C, cl, fp, rfl⟩)
    (fun s H C cl fp D => body_clause (X := X.blk s H scope (compEnvC scope cl C X.env) fp) (sub := own3.map (·.2)) (e := (.ListComp elt [⟨tg, iter, ifs, 0⟩, ⟨tg2, it2, ifs2, 0⟩, ⟨tg3, it3, ifs3, 0⟩] scope pos)) (d := 1) (acc := .ref D) (c := ⟨tAnyI (Blk X scope) tg2 it2, g2, tAnyTs (Blk X scope) ifs2, own2.map (·.2)⟩) (cs := [⟨tAnyI (Blk X scope) tg3 it3, g3, tAnyTs (Blk X scope) ifs3, own3.map (·.2)⟩]) (te := teL X scope elt D) (body := bodyC (.ListComp elt [⟨tg, iter, ifs, 0⟩, ⟨tg2, it2, ifs2, 0⟩, ⟨tg3, it3, ifs3, 0⟩] scope pos) 2 it3 (.ref D) (compEnvC scope cl C X.env)) rfl (.inl ⟨_, _, _, _, rfl⟩) hc rfl (fun it => by rfl) hs2 (anyI_ok ⟨s, H, C, cl, fp, rfl⟩) (hg2 _ ⟨s, H, C, cl, fp, rfl⟩).pg (anyTs_ok ⟨s, H, C, cl, fp, rfl⟩) hv3
      (body_clause (X := X.blk s H scope (compEnvC scope cl C X.env) fp) (sub := []) (e := (.ListComp elt [⟨tg, iter, ifs, 0⟩, ⟨tg2, it2, ifs2, 0⟩, ⟨tg3, it3, ifs3, 0⟩] scope pos)) (d := 2) (acc := .ref D) (c := ⟨tAnyI (Blk X scope) tg3 it3, g3, tAnyTs (Blk X scope) ifs3, own3.map (·.2)⟩) (cs := []) (te := teL X scope elt D) (body := bodyE (do let _ ← call (.builtin "list.append") [.ref D, ← eval elt (compEnvC scope cl C X.env)])) rfl (.inl ⟨_, _, _, _, rfl⟩) hc rfl (fun it => by rfl) hs3 (anyI_ok ⟨s, H, C, cl, fp, rfl⟩) (hg3 _ ⟨s, H, C, cl, fp, rfl⟩).pg (anyTs_ok ⟨s, H, C, cl, fp, rfl⟩) (fun _ h => by cases h) (body_list (elt := elt) rfl (anyE_ok ⟨s, H, C, cl, fp, rfl⟩)))) hs) fun σ H Q ⟨st, k⟩ => ?_
  refine cnW_imp (pr := pr) (AC := accL X.K) (a0 := []) (out := fun x => ((ys x).filter (pr2 x)).flatMap fun y => ((zs x y).filter (pr3 x y)).map (el x y)) hi hG hg hsl (fun D0 x hx => ?_) (fun D Hv H _ => ⟨[], upd_same, .nil⟩) (by simpa [accL] using hz) st fun p H' hp e ⟨acc, hv, r⟩ => k p H' acc hp e hv ?_
  · obtain ⟨ρ', b1, b2, b3⟩ := hb x hx
    refine ⟨ρ', b1, b2, fun hp => ?_⟩
    refine tail_clause (b3 hp).1 hg2 hsl2 fun y hy => ?_
    obtain ⟨ρ2, c1, c2, c3⟩ := (b3 hp).2 y hy
    refine ⟨ρ2, c1, c2, fun hp2 => ?_⟩
    have e : ((zs x y).filter (pr3 x y)).map (el x y) = ((zs x y).filter (pr3 x y)).flatMap fun z => [el x y z] := by rw [List.map_eq_flatMap]
    show TailOk X B.L O _ D0 _ _ ρ2 (((zs x y).filter (pr3 x y)).map (el x y))
    rw [e]
    refine tail_clause (c3 hp2).1 hg3 hsl3 fun z hz => ?_
    obtain ⟨ρ3, d1, d2, d3⟩ := (c3 hp2).2 z hz
    exact ⟨ρ3, d1, d2, fun hp3 => tail_elt (d3 hp3)⟩
  · have q : ∀ m, vis B.F ((p, m) :: O) H' = vis B.F ((p, .lst []) :: O) H' := fun m => vis_keys rfl
    rw [q]
    have e := foldl_snoc ((xs.filter pr).flatMap fun x => ((ys x).filter (pr2 x)).flatMap fun y => ((zs x y).filter (pr3 x y)).map (el x y)) []
    rw [List.nil_append] at e
    rw [← e]; exact r
theorem en_lcr {gs : List Comprehension} {ds : List D} (h : LcRun X elt (⟨tg, iter, ifs, 0⟩ :: gs) iter scope pos (tN X.K B ρ O ds)) : EN X B ρ O (.ListComp elt (⟨tg, iter, ifs, 0⟩ :: gs) scope pos) ds := pe_lcr h
theorem j_setLcr {A : AE} {gs : List Comprehension} {ds : List D} {i : Nat} {y : Str} {py spos : Pos} (h : LcRun X elt (⟨tg, iter, ifs, 0⟩ :: gs) iter scope pos (tN X.K B ρ O ds)) (hN : X.N.Nodup) (hy : X.N[i]? = some y) (hyl : X.env.scope.names.lookup y = some .local)
    (hsw : swapsWith (.ListComp elt (⟨tg, iter, ifs, 0⟩ :: gs) scope pos) (some (.Name y py)) spos.line X.env = pure true) (hnx : A.nx (ρ.set i (some (.lst ds))) O) : J1 X B (.Assign [.Name y py] (.ListComp elt (⟨tg, iter, ifs, 0⟩ :: gs) scope pos) spos) ρ O A :=
  ps_imp (ps_setLcr h hN hy hyl hsw) fun Dn σ H ⟨st, p⟩ => ⟨st, fun q H1 vs hp e1 hv r => by
    have fp := st.m.newF hp
    have op := st.m.newO hp
    have r' : Rp X.K (vis B.F O H1) (.ref q) (.lst ds) := .lst (vis_some.mpr ⟨fp, op, hv⟩) (r.mono fun a o h => by
      obtain ⟨h1, h2, h3⟩ := vis_some.mp h
      rw [has_cons, Bool.or_eq_false_iff] at h2
      exact vis_some.mpr ⟨h1, h2.2, h3⟩)
    exact p.nx _ O _ H1 hnx ((st.same e1).set r') (vis_same e1)⟩
theorem jc_setLcr {α β : Type} {A : α → AE} {gs : List Comprehension} {es : List β} {F : β → D} {m : List β → Cmp α} {rest : List Stmt} (i : Nat) {y : Str} {py spos : Pos} (h : LcRun X elt (⟨tg, iter, ifs, 0⟩ :: gs) iter scope pos (tN X.K B ρ O (es.map F))) (hN : X.N.Nodup) (hy : X.N[i]? = some y) (hyl : X.env.scope.names.lookup y = some .local)
    (hsw : swapsWith (.ListComp elt (⟨tg, iter, ifs, 0⟩ :: gs) scope pos) (some (.Name y py)) spos.line X.env = pure true) (hr : ∀ es, JC X B rest (ρ.set i (some (.lst (es.map F)))) O A (m es)) :
    JC X B (.Assign [.Name y py] (.ListComp elt (⟨tg, iter, ifs, 0⟩ :: gs) scope pos) spos :: rest) ρ O A (.bnd es m) := fun ok => j_cons (j_setLcr h hN hy hyl hsw (hr _ ok))
/-! typed -/
theorem lcr_conv {gs : List Comprehension} {ds ds' : List D} (h : LcRun X elt gs iter scope pos (tN X.K B ρ O ds)) (e : ds = ds') : LcRun X elt gs iter scope pos (tN X.K B ρ O ds') := e ▸ h
theorem lcn2T {α β : Type} {xs : List α} {h : α → D} {pr : α → Bool} {ys : α → List β} {h2 : α → β → D} {pr2 : α → β → Bool} {δ : Type} {el : α → β → δ} {F : δ → D} (own own2 : List (Str × Nat)) {wi : TI} {G : Om → Prop} {g g2 : TG} {sl sl2 : List Nat} {f f2}
    (hc : X.calm = true) (hN : X.N.Nodup) (hi : EI X B ρ O tg iter wi G (xs.map h)) (hG : G O) (ok : BlkOk X.N X.env.scope scope own)
    (hg : ∀ X', Blk X scope X' → EB X' tg g sl f) (hsl : ∀ j ∈ sl, j ∈ own.map (·.2)) (hg2 : ∀ X', Blk X scope X' → EB X' tg2 g2 sl2 f2) (hsl2 : ∀ j ∈ sl2, j ∈ own2.map (·.2)) (hv : ∀ i ∈ own2.map (·.2), i ∈ own.map (·.2))
    (hb : ∀ x ∈ xs, ∃ ρ', f (h x) (wipeD ρ (own.map (·.2))) = some ρ' ∧ (∀ X' B', B'.L = B.L → Blk X scope X' → ETs X' B' ρ' O ifs (pr x)) ∧ (pr x = true → (∀ X' B', B'.L = B.L → Blk X scope X' → ∃ wi G, EI X' B' ρ' O tg2 it2 wi G ((ys x).map (h2 x)) ∧ G O) ∧
      ∀ y ∈ ys x, ∃ ρ2, f2 (h2 x y) (wipeD ρ' (own2.map (·.2))) = some ρ2 ∧ (∀ X' B', B'.L = B.L → Blk X scope X' → ETs X' B' ρ2 O ifs2 (pr2 x y)) ∧ (pr2 x y = true → ∀ X' B', B'.L = B.L → Blk X scope X' → EV X' B' ρ2 O elt (F (el x y)))))
    (hz : ((xs.filter pr).flatMap fun x => ((ys x).filter (pr2 x)).map (el x)).length ≤ sizeLine) (hs : ∀ x, foldedSetIterable iter X.env x = pure x := by intro _; rfl) (hs2 : ∀ env x, foldedSetIterable it2 env x = pure x := by intro _ _; rfl) :
    LcRun X elt [⟨tg, iter, ifs, 0⟩, ⟨tg2, it2, ifs2, 0⟩] iter scope pos (tN X.K B ρ O (((xs.filter pr).flatMap fun x => ((ys x).filter (pr2 x)).map (el x)).map F)) := by
  refine lcr_conv (lcn2 (el := fun x y => F (el x y)) (pos := pos) own own2 hc hN hi hG ok hg hsl hg2 hsl2 hv hb ?_ hs hs2) ?_
  · have q := hz
    rw [← List.length_map (f := F)] at q
    simp only [List.map_flatMap, List.map_map, Function.comp_def] at q
    exact q
  · simp only [List.map_flatMap, List.map_map, Function.comp_def]
theorem lcn3T {α β γ : Type} {xs : List α} {h : α → D} {pr : α → Bool} {ys : α → List β} {h2 : α → β → D} {pr2 : α → β → Bool} {zs : α → β → List γ} {h3 : α → β → γ → D} {pr3 : α → β → γ → Bool} {δ : Type} {el : α → β → γ → δ} {F : δ → D} (own own2 own3 : List (Str × Nat)) {wi : TI} {G : Om → Prop} {g g2 g3 : TG} {sl sl2 sl3 : List Nat} {f f2 f3}
    (hc : X.calm = true) (hN : X.N.Nodup) (hi : EI X B ρ O tg iter wi G (xs.map h)) (hG : G O) (ok : BlkOk X.N X.env.scope scope own)
    (hg : ∀ X', Blk X scope X' → EB X' tg g sl f) (hsl : ∀ j ∈ sl, j ∈ own.map (·.2)) (hg2 : ∀ X', Blk X scope X' → EB X' tg2 g2 sl2 f2) (hsl2 : ∀ j ∈ sl2, j ∈ own2.map (·.2)) (hg3 : ∀ X', Blk X scope X' → EB X' tg3 g3 sl3 f3) (hsl3 : ∀ j ∈ sl3, j ∈ own3.map (·.2)) (hv : ∀ i ∈ own2.map (·.2), i ∈ own.map (·.2)) (hv3 : ∀ i ∈ own3.map (·.2), i ∈ own2.map (·.2))
    (hb : ∀ x ∈ xs, ∃ ρ', f (h x) (wipeD ρ (own.map (·.2))) = some ρ' ∧ (∀ X' B', B'.L = B.L → Blk X scope X' → ETs X' B' ρ' O ifs (pr x)) ∧ (pr x = true → (∀ X' B', B'.L = B.L → Blk X scope X' → ∃ wi G, EI X' B' ρ' O tg2 it2 wi G ((ys x).map (h2 x)) ∧ G O) ∧
      ∀ y ∈ ys x, ∃ ρ2, f2 (h2 x y) (wipeD ρ' (own2.map (·.2))) = some ρ2 ∧ (∀ X' B', B'.L = B.L → Blk X scope X' → ETs X' B' ρ2 O ifs2 (pr2 x y)) ∧ (pr2 x y = true → (∀ X' B', B'.L = B.L → Blk X scope X' → ∃ wi G, EI X' B' ρ2 O tg3 it3 wi G ((zs x y).map (h3 x y)) ∧ G O) ∧
        ∀ z ∈ zs x y, ∃ ρ3, f3 (h3 x y z) (wipeD ρ2 (own3.map (·.2))) = some ρ3 ∧ (∀ X' B', B'.L = B.L → Blk X scope X' → ETs X' B' ρ3 O ifs3 (pr3 x y z)) ∧ (pr3 x y z = true → ∀ X' B', B'.L = B.L → Blk X scope X' → EV X' B' ρ3 O elt (F (el x y z))))))
    (hz : ((xs.filter pr).flatMap fun x => ((ys x).filter (pr2 x)).flatMap fun y => ((zs x y).filter (pr3 x y)).map (el x y)).length ≤ sizeLine) (hs : ∀ x, foldedSetIterable iter X.env x = pure x := by intro _; rfl) (hs2 : ∀ env x, foldedSetIterable it2 env x = pure x := by intro _ _; rfl) (hs3 : ∀ env x, foldedSetIterable it3 env x = pure x := by intro _ _; rfl) :
    LcRun X elt [⟨tg, iter, ifs, 0⟩, ⟨tg2, it2, ifs2, 0⟩, ⟨tg3, it3, ifs3, 0⟩] iter scope pos (tN X.K B ρ O (((xs.filter pr).flatMap fun x => ((ys x).filter (pr2 x)).flatMap fun y => ((zs x y).filter (pr3 x y)).map (el x y)).map F)) := by
  refine lcr_conv (lcn3 (el := fun x y z => F (el x y z)) (pos := pos) own own2 own3 hc hN hi hG ok hg hsl hg2 hsl2 hg3 hsl3 hv hv3 hb ?_ hs hs2 hs3) ?_
  · have q := hz
    rw [← List.length_map (f := F)] at q
    simp only [List.map_flatMap, List.map_map, Function.comp_def] at q
    exact q
  · simp only [List.map_flatMap, List.map_map, Function.comp_def]
end
end DL

set_option Elab.async false
set_option linter.all false
set_option maxRecDepth 100000
set_option maxHeartbeats 4000000
namespace DL
open PySem PySem.Spec PyProof.Rows L2
/-! ### frozen dicts whose keys are tuples of whole numbers -/
section
variable {X : Cx} {pins : List (Addr × Obj)} {σ : L2.St} {H : Hp} {s : Shared}
mutual
theorem rp_key (I : Inv X pins σ H s) : ∀ (k : NestedKey) (v : V) (u : Value), numK k = true → Rp X.K H v (dOf k) → RelV v u → NestedIs s.heap k u
  | .none, _, _, hn, _, _ => by cases hn
  | .num i, v, u, _, r, rv => by
    cases r
    obtain ⟨t, rfl⟩ := rv
    exact .int i t
  | .text x, _, _, hn, _, _ => by cases hn
  | .tup ks, v, u, hn, r, rv => by
    cases r with
    | @tup a vs _ hq rl =>
      have hu : u = .ref a := rv
      subst hu
      obtain ⟨its, rr, p, hz⟩ := I.tuple hq
      obtain ⟨o, ho, hc, n, hd⟩ := p
      exact .tup ho hc hd (by simpa using rp_keys I ks vs its hn rl rr)
theorem rp_keys (I : Inv X pins σ H s) : ∀ (ks : List NestedKey) (vs : List V) (us : List Value), numKs ks = true → RpL X.K H vs (dOfs ks) → Vals vs us → NestedAll s.heap ks us
  | [], _, _, _, r, rv => by cases r; cases rv; exact .nil
  | k :: ks, _, _, hn, r, rv => by
    rw [numKs, Bool.and_eq_true] at hn
    cases r with
    | cons h r =>
      cases rv with
      | cons hv rv => exact .cons (rp_key I k _ _ hn.1 h hv) (rp_keys I ks _ _ hn.2 r rv)
end
end
theorem dOfs_eq (ks : List NestedKey) : dOfs ks = ks.map dOf := by
  induction ks with
  | nil => rfl
  | cons k ks ih => rw [dOfs, ih]; rfl
mutual
theorem hash_num (w w' : World) : ∀ k : NestedKey, numK k = true → k.hash w = k.hash w'
  | .none, h => by cases h
  | .num i, _ => rfl
  | .text x, h => by cases h
  | .tup ks, h => by rw [NestedKey.hash, NestedKey.hash, hashes_num w w' ks h]
theorem hashes_num (w w' : World) : ∀ ks : List NestedKey, numKs ks = true → NestedKey.hashes w ks = NestedKey.hashes w' ks
  | [], _ => rfl
  | k :: ks, h => by
    rw [numKs, Bool.and_eq_true] at h
    rw [NestedKey.hashes, NestedKey.hashes, hash_num w w' k h.1, hashes_num w w' ks h.2]
end
/-- the entries as the library tells them -/
abbrev entsK (ks : List NestedKey) (as : List Addr) : List (NestedKey × Addr × Value) := (ks.zip as).map fun p => (p.1, p.2, Value.bool true)
theorem ents_keys {ks : List NestedKey} {as : List Addr} (h : as.length = ks.length) : (entsK ks as).map (·.1) = ks := by
  rw [List.map_map]
  show (ks.zip as).map (fun p => p.1) = ks
  rw [List.map_fst_zip (by omega)]
theorem dct_of {X : Cx} {pins : List (Addr × Obj)} {σ : L2.St} {H : Hp} {s : Shared} {a : Addr} {es : Array DictEntry} {ep : Nat} {bs : List V} {ks : List NestedKey} {as : List Addr} (I : Inv X pins σ H s) (h : H a = some (.ext fun h => h.DictRaw a es ep)) (k : DctOk es bs ks as) (r : RpL X.K H bs (dOfs ks)) :
    s.heap.DictOfH (nestedKind X.prog X.w) a (entsK ks as) := by
  obtain ⟨⟨o, ho, hc, hd⟩, _, _⟩ := I.hok a _ h
  refine ⟨o, es, ep, ho, hc, hd, ?_, fun x hx => ?_, by rw [ents_keys k.len]; exact k.nd⟩
  · rw [k.es X.w, List.map_map]; rfl
  · obtain ⟨p, hp, rfl⟩ := List.mem_map.mp hx
    obtain ⟨kk, b⟩ := p
    obtain ⟨i, hi⟩ := List.mem_iff_getElem?.mp hp
    rw [List.getElem?_zip_eq_some] at hi
    have hm := List.mem_of_getElem? hi.1
    have hb : bs[i]? = some (V.ref b) := by rw [k.bs, List.getElem?_map, hi.2]; rfl
    obtain ⟨d, hd', rv⟩ := r.get' hb
    rw [dOfs_eq, List.getElem?_map, hi.1] at hd'
    cases hd'
    exact ⟨rp_key I kk _ _ (k.num _ hm).1 rv rfl, (k.num _ hm).2⟩
theorem atKey_ents {ks : List NestedKey} {as : List Addr} (h : as.length = ks.length) (k : NestedKey) : (atKey (entsK ks as) k).isSome = decide (k ∈ ks) := by
  unfold atKey
  rw [Option.isSome_map]
  refine Bool.eq_iff_iff.mpr ⟨fun q => ?_, fun q => ?_⟩
  · obtain ⟨x, hx, e⟩ := List.find?_isSome.mp q
    have := List.mem_map_of_mem (f := (·.1)) hx
    rw [ents_keys h, of_decide_eq_true e] at this
    exact decide_eq_true this
  · have hm : k ∈ (entsK ks as).map (·.1) := by rw [ents_keys h]; exact of_decide_eq_true q
    obtain ⟨x, hx, e⟩ := List.mem_map.mp hm
    exact List.find?_isSome.mpr ⟨x, hx, decide_eq_true e⟩
/-- k in a frozen dict -/
def rInK (K : PySem.W.Frag) (neg : Bool) : R2 := fun x y H Q => ∃ k ks, numK k = true ∧ k.depth ≤ 8 ∧ (∃ l, k = .tup l) ∧ Rp K H x (dOf k) ∧ Rp K H y (.dct ks) ∧ Q (.bl (neg != decide (k ∈ ks))) H
theorem op_inK {X : Cx} (hu : X.A.units + 65 < cLine) : OpR X (compareOp .In) (rInK X.K false) := fun pins s σ H x y v u Q I rx ry ⟨k, ks, h1, h2, ⟨l, hl⟩, r1, r2, q⟩ => by
  subst hl
  cases r1 with
  | @tup b vs _ hq rl =>
    have hv : v = .ref b := rx
    subst hv
    cases r2 with
    | @dct a es ep bs _ as ha lo hk rk =>
      have hu' : u = .ref a := ry
      subst hu'
      have hd := dct_of I ha hk rk
      refine in_keyed (knd := nestedKind X.prog X.w) (k := .tup l) (kvs := pairsH (entsK ks as)) (show X.A.in1.units + 8 < cLine by show X.A.units + 1 + 8 < cLine; omega) ⟨rp_key I (.tup l) _ _ h1 (.tup hq rl) rfl, h2⟩ lo ⟨_, hd, rfl⟩ ?_
      rw [valueAt_pairsH, Option.isSome_map, atKey_ents hk.len]
      exact ⟨.bl (decide (NestedKey.tup l ∈ ks)), H, I.tok _, rfl, by simpa using q⟩
theorem op_notInK {X : Cx} (hu : X.A.units + 65 < cLine) : OpR X (compareOp .NotIn) (rInK X.K true) := fun pins s σ H x y v u Q I rx ry ⟨k, ks, h1, h2, ⟨l, hl⟩, r1, r2, q⟩ => by
  subst hl
  cases r1 with
  | @tup b vs _ hq rl =>
    have hv : v = .ref b := rx
    subst hv
    cases r2 with
    | @dct a es ep bs _ as ha lo hk rk =>
      have hu' : u = .ref a := ry
      subst hu'
      have hd := dct_of I ha hk rk
      refine notIn_keyed (knd := nestedKind X.prog X.w) (k := .tup l) (kvs := pairsH (entsK ks as)) (show X.A.in1.units + 8 < cLine by show X.A.units + 1 + 8 < cLine; omega) ⟨rp_key I (.tup l) _ _ h1 (.tup hq rl) rfl, h2⟩ lo ⟨_, hd, rfl⟩ ?_
      rw [valueAt_pairsH, Option.isSome_map, atKey_ents hk.len]
      exact ⟨.bl (!decide (NestedKey.tup l ∈ ks)), H, I.tok _, rfl, by simpa using q⟩
/-- a type whose values are such keys -/
structure KeyOk {α : Type} (E : α → D) (f : α → NestedKey) : Prop where
  eq : ∀ a, dOf (f a) = E a
  inj : ∀ a b, f a = f b → a = b
  num : ∀ a, numK (f a) = true
  dep : ∀ a, (f a).depth ≤ 8
  tup : ∀ a, ∃ l, f a = .tup l
section
variable {K : PySem.W.Frag} {B : Gd} {O : Om} {α : Type} {E : α → D} {f : α → NestedKey} [DecidableEq α]
theorem mem_key (hk : KeyOk E f) (x : α) (xs : List α) : decide (f x ∈ xs.map f) = decide (x ∈ xs) := by
  by_cases h : x ∈ xs
  · rw [decide_eq_true h, decide_eq_true (List.mem_map_of_mem h)]
  · rw [decide_eq_false h, decide_eq_false]
    intro q
    obtain ⟨y, hy, e⟩ := List.mem_map.mp q
    rw [hk.inj _ _ e] at hy
    exact h hy
theorem rd_inKD (hk : KeyOk E f) {x : α} {xs : List α} : RD K B O (rInK K false) (E x) (.dct (xs.map f)) (.bl (decide (x ∈ xs))) := fun v y H Q m r1 r2 k => by
  refine ⟨f x, xs.map f, hk.num x, hk.dep x, hk.tup x, by rw [hk.eq]; exact r1.mono vis_le, r2.mono vis_le, ?_⟩
  rw [mem_key hk]
  cases h : decide (x ∈ xs) <;> exact k _ H (Same.refl H) (by rw [h]; exact .bl _)
theorem rd_notinKD (hk : KeyOk E f) {x : α} {xs : List α} : RD K B O (rInK K true) (E x) (.dct (xs.map f)) (.bl (!decide (x ∈ xs))) := fun v y H Q m r1 r2 k => by
  refine ⟨f x, xs.map f, hk.num x, hk.dep x, hk.tup x, by rw [hk.eq]; exact r1.mono vis_le, r2.mono vis_le, ?_⟩
  rw [mem_key hk]
  cases h : decide (x ∈ xs) <;> exact k _ H (Same.refl H) (by rw [h]; exact .bl _)
end
/-! ### made by a comprehension -/
def stepK (ks : List NestedKey) (k : NestedKey) : List NestedKey := if k ∈ ks then ks else ks ++ [k]
def accK (K : PySem.W.Frag) : AccK (List NestedKey) NestedKey where
  P := fun D Hv H ks => ∃ es ep bs as, H D = some (.ext fun h => h.DictRaw D es ep) ∧ (D == sysModules) = false ∧ DctOk es bs ks as ∧ RpL K Hv bs (dOfs ks)
  size := List.length
  step := stepK
  mono := fun ⟨es, ep, bs, as, h, l, k, r⟩ e eh => ⟨es, ep, bs, as, eh.trans h, l, k, r.mono e⟩
  there := fun ⟨es, ep, bs, as, h, _⟩ => ⟨_, h⟩
  grow := fun a x => by unfold stepK; split <;> simp
theorem dict_ext_ok {X : Cx} {H : Hp} {h : Heap} {a : Addr} {es : Array DictEntry} {ep : Nat} (x : h.DictRaw a es ep) : ObjOk X.prog X.w H h a (.ext fun h => h.DictRaw a es ep) :=
  ⟨x, let ⟨o, ho, _⟩ := x; ⟨o, ho⟩, fun h1 h2 p e => p.at e⟩
/-- d[k] = True, by a block -/
theorem d_setK {X : Cx} {pins : List (Addr × Obj)} {σ : L2.St} {H : Hp} {s : Shared} {E : Value → Shared → Prop} {D : Addr} {y : V} {u : Value} {k : NestedKey} {ks : List NestedKey} {Q : Unit → Shared → Prop} (hu : X.A.units + 65 < cLine) (I : Inv X pins σ H s)
    {es : Array DictEntry} {ep : Nat} {bs : List V} {as : List Addr} (hD : H D = some (.ext fun h => h.DictRaw D es ep)) (dk : DctOk es bs ks as) (rl : RpL X.K H bs (dOfs ks)) (hn : numK k = true) (hd : k.depth ≤ 8) (ht : ∃ l, k = .tup l) (rk : Rp X.K H y (dOf k)) (rv : RelV y u) (hz : ks.length < sizeLine)
    (q : ∀ s' es' ep' bs' as', Inv X pins σ (upd H D (.ext fun h => h.DictRaw D es' ep')) s' → DctOk es' bs' (stepK ks k) as' → (∀ Hv, RpL X.K Hv bs (dOfs ks) → Rp X.K Hv y (dOf k) → RpL X.K Hv bs' (dOfs (stepK ks k))) → Q () s') :
    wpAny (model X.prog X.w) X.A (dictSet D u (.bool true)) Q E s := by
  obtain ⟨l, hl⟩ := ht
  have hy : ∃ b, y = .ref b := by
    subst hl
    cases rk with
    | tup _ _ => exact ⟨_, rfl⟩
  obtain ⟨b, rfl⟩ := hy
  have hu' : u = .ref b := rv
  subst hu'
  have dm := dct_of I hD dk rl
  have hlen : (entsK ks as).length = ks.length := by rw [← List.length_map (f := (·.1)), ents_keys dk.len]
  have hi : (nestedKind X.prog X.w).is s.heap k b := ⟨rp_key I k _ _ hn rk rfl, hd⟩
  refine wpAny_dictSet_heap (hsz := by rw [hlen]; omega) (knd := nestedKind X.prog X.w) (show X.A.units + 8 < cLine by omega) hi dm fun h' hm' hs => ?_
  have old : ∀ xs : List (NestedKey × Addr × Value), (∀ x ∈ xs, x.2.2 = .bool true) → xs.map (putAt k (.bool true)) = xs := fun xs hx => by
    refine (List.map_congr_left fun x hm => ?_).trans (List.map_id xs)
    unfold putAt
    split
    · have := hx x hm
      obtain ⟨a, c, v⟩ := x
      simp only at this
      subst this; rfl
    · rfl
  have est : storedH (entsK ks as) k b (.bool true) = if k ∈ ks then entsK ks as else entsK (ks ++ [k]) (as ++ [b]) := by
    unfold storedH
    rw [atKey_ents dk.len]
    by_cases hm : k ∈ ks
    · rw [decide_eq_true hm, if_pos rfl, if_pos hm]
      exact old _ fun x hx => by obtain ⟨p, _, rfl⟩ := List.mem_map.mp hx; rfl
    · rw [decide_eq_false hm, if_neg (by decide), if_neg hm]
      rw [entsK, entsK, List.zip_append dk.len.symm]
      simp
  obtain ⟨o, es', ep', ho, hc, hdat, he, _, hnd⟩ := hm'
  have raw : h'.DictRaw D es' ep' := ⟨o, ho, hc, hdat⟩
  have I' : Inv X pins σ (upd H D (.ext fun h => h.DictRaw D es' ep')) { s with heap := h', toks := s.toks + (nestedKind X.prog X.w).draws k } :=
    d_write I (by rw [hD]; exact True.intro) hs ⟨o, ho⟩ (dict_ext_ok raw)
  rw [est] at he
  by_cases hm : k ∈ ks
  · rw [if_pos hm] at he
    refine q _ es' ep' bs as I' ?_ fun Hv r _ => ?_
    · unfold stepK; rw [if_pos hm]
      refine ⟨dk.nd, dk.num, dk.bs, dk.len, fun w => ?_, dk.lim⟩
      rw [he, List.map_map]
      refine List.map_congr_left fun p hp => ?_
      have hmem := (List.of_mem_zip hp).1
      show (⟨p.1.hash X.w, _, _⟩ : DictEntry) = _
      rw [hash_num X.w w p.1 (dk.num _ hmem).1]
    · unfold stepK; rw [if_pos hm]; exact r
  · rw [if_neg hm] at he
    refine q _ es' ep' (bs ++ [.ref b]) (as ++ [b]) I' ?_ fun Hv r r1 => ?_
    · unfold stepK; rw [if_neg hm]
      refine ⟨?_, fun k' hk' => ?_, by rw [dk.bs]; simp, by simp [dk.len], fun w => ?_, by simp; omega⟩
      · rw [List.nodup_append]
        exact ⟨dk.nd, by simp, fun a ha b' hb' e => hm (by rw [List.mem_singleton] at hb'; rw [← hb', ← e]; exact ha)⟩
      · rcases List.mem_append.mp hk' with hk' | hk'
        · exact dk.num _ hk'
        · rw [List.mem_singleton.mp hk']; exact ⟨hn, hd⟩
      · rw [he, List.map_map]
        refine List.map_congr_left fun p hp => ?_
        have hmem := (List.of_mem_zip hp).1
        have hnum : numK p.1 = true := by
          rcases List.mem_append.mp hmem with h | h
          · exact (dk.num _ h).1
          · rw [List.mem_singleton.mp h]; exact hn
        show (⟨p.1.hash X.w, _, _⟩ : DictEntry) = _
        rw [hash_num X.w w p.1 hnum]
    · unfold stepK
      rw [if_neg hm]
      rw [dOfs_eq] at r ⊢
      rw [List.map_append]
      exact r.append (.cons r1 .nil)
/-- the emission of a dict's comprehension -/
abbrev emitD (kx vx : Expr) (D : Addr) (env : Env) : Sem Unit := do
  let kv ← eval kx env
  let vv ← holding [kv] (eval vx env)
  standAt { kx.pos with endLine := vx.pos.endLine, endCol := vx.pos.endCol }
  holding [kv, vv] (dictSet D kv vv)
abbrev teK (X : Cx) (scope : Scope) (kx vx : Expr) (D0 : Addr) : TB := fun σ H Nx => tAnyE (Blk X scope) kx σ H fun y H7 => tAnyE (Blk X scope) vx σ H7 fun z H8 => z = .bl true ∧ ∃ es ep bs as ks k, H8 D0 = some (.ext fun h => h.DictRaw D0 es ep) ∧ DctOk es bs ks as ∧ RpL X.K H8 bs (dOfs ks) ∧
  numK k = true ∧ k.depth ≤ 8 ∧ (∃ l, k = .tup l) ∧ Rp X.K H8 y (dOf k) ∧ ks.length < sizeLine ∧ ∀ es' ep' bs' as', DctOk es' bs' (stepK ks k) as' → (∀ Hv, RpL X.K Hv bs (dOfs ks) → Rp X.K Hv y (dOf k) → RpL X.K Hv bs' (dOfs (stepK ks k))) → Nx (upd H8 D0 (.ext fun h => h.DictRaw D0 es' ep'))
theorem body_dict {X Y : Cx} {scope : Scope} {kx vx : Expr} {D : Addr} (hY : Blk X scope Y) (hu : X.A.units + 65 < cLine) : BodyOk Y [] (bodyE (emitD kx vx D Y.env)) (teK X scope kx vx D) := ⟨fun pins s σ H Nx I q k R E hk => by
  have hxe : Y.xe = fun _ _ => False := by obtain ⟨_, _, _, _, _, rfl⟩ := hY; rfl
  have hK : Y.K = X.K := by obtain ⟨_, _, _, _, _, rfl⟩ := hY; rfl
  have hA : Y.A = X.A := by obtain ⟨_, _, _, _, _, rfl⟩ := hY; rfl
  have re := (anyE_ok hY).run _ s σ H _ I q
  rw [hxe] at re
  unfold bodyE emitD
  refine wpAny_bind (wpAny_bind (thnF re fun kv s1 ⟨y, H1, I1, r1, q1⟩ => ?_))
  have re2 := (anyE_ok hY).run _ s1 σ H1 _ I1 q1
  rw [hxe] at re2
  refine wpAny_bind (wpAny_holding (thnF re2 fun vv s2 ⟨z, H2, I2, r2, hz, es, ep, bs, as, ks, kk, hD, dk, rl, hn, hd, ht, rk, hlt, nx⟩ => ?_))
  subst hz
  have hv : vv = .bool true := r2
  subst hv
  refine wpAny_bind (wpAny_standAt (wpAny_holding ?_))
  refine d_setK (by rw [hA]; exact hu) I2 hD dk (by rw [hK]; exact rl) hn hd ht (by rw [hK]; exact rk) r1 hlt fun s' es' ep' bs' as' I' dk' tr => hk _ _ _ I' .refl (nx es' ep' bs' as' dk' (by rw [← hK]; exact tr))⟩
section
variable {X : Cx} {B : Gd} {ρ ρ' : List (Option D)} {O : Om} {scope : Scope} {kx vx iter tg it2 tg2 : Expr} {ifs ifs2 : List Expr} {pos : Pos} {D0 : Addr} {k : NestedKey} {d : D}
theorem tail_key (he : ∀ X' B', B'.L = B.L → Blk X scope X' → EV X' B' ρ O kx d) (hv : ∀ X' B', B'.L = B.L → Blk X scope X' → EV X' B' ρ O vx (.bl true)) (ek : dOf k = d) (hn : numK k = true) (hd : k.depth ≤ 8) (ht : ∃ l, k = .tup l) :
    TailOk X B.L O (accK X.K) D0 [] (teK X scope kx vx D0) ρ [k] := fun B0 σ H ks Nx eL hdd st ⟨es, ep, bs, as, hD, lo, dk, rl⟩ hz nx => by
  have hK : ∀ X', Blk X scope X' → X'.K = X.K := fun X' ⟨s, H, C, cl, fp, e⟩ => by rw [e]
  refine ⟨X.K, B0, ρ, O, d, fun X' hX' => ⟨hK X' hX', he X' B0 eL hX'⟩, st, fun y H4 e4 r4 => ⟨X.K, B0, ρ, O, .bl true, fun X' hX' => ⟨hK X' hX', hv X' B0 eL hX'⟩, st.same e4, fun z H5 e5 r5 => ?_⟩⟩
  cases r5
  have hD5 := e5 _ _ (e4 _ _ hD)
  refine ⟨rfl, es, ep, bs, as, ks, k, hD5, dk, (rl.mono (vis_same (e4.trans e5))).mono vis_le, hn, hd, ht, by rw [ek]; exact (r4.mono (vis_same e5)).mono vis_le, ?_, fun es' ep' bs' as' dk' tr => ?_⟩
  · have hz' : ks.length + 1 ≤ sizeLine := hz
    omega
  · have up : vis B0.F O (upd H5 D0 (.ext fun h => h.DictRaw D0 es' ep')) = vis B0.F O H5 := by
      funext b
      by_cases q : b = D0
      · subst q; unfold vis; rw [hdd.F]; simp
      · unfold vis; rw [upd_ne q]
    refine nx _ (((But.same e4).trans (.same e5)).trans .upd) ⟨es', ep', bs', as', upd_same, lo, dk', ?_⟩
    rw [up]
    exact tr _ (rl.mono (vis_same (e4.trans e5))) (by rw [ek]; exact r4.mono (vis_same e5))
/-- what the block leaves, as a datum -/
theorem dct_rp {K : PySem.W.Frag} {B : Gd} {O : Om} {H H0 : Hp} {p : Addr} {ks : List NestedKey} {m : M} (st : MOk K B O H0) (hp : H0 p = none) (h : (accK K).P p (vis B.F ((p, m) :: O) H) H ks) : Rp K (vis B.F O H) (.ref p) (.dct ks) := by
  obtain ⟨es, ep, bs, as, hD, lo, dk, rl⟩ := h
  refine .dct (vis_some.mpr ⟨st.newF hp, st.newO hp, hD⟩) lo dk (rl.mono fun a o h => ?_)
  obtain ⟨h1, h2, h3⟩ := vis_some.mp h
  rw [has_cons, Bool.or_eq_false_iff] at h2
  exact vis_some.mpr ⟨h1, h2.2, h3⟩
theorem pe_dcn {sub : List Nat} {c : Clz} {cs : List Clz} {gs : List Comprehension} {own : List (Str × Nat)} {body : Value → Env → Sem PySem.Fin → Sem PySem.Fin} {te : Addr → TB} (hc : X.calm = true) (hN : X.N.Nodup) (hi : PI X tg iter c.wi) (ok : BlkOk X.N X.env.scope scope own) (hown : c.vs = own.map (·.2)) (hv : ∀ i ∈ sub, i ∈ c.vs)
    (ht : ∀ it D env, compTurn (.DictComp kx vx (⟨tg, iter, ifs, 0⟩ :: gs) scope pos) 0 it (.ref D) env = turnS (.DictComp kx vx (⟨tg, iter, ifs, 0⟩ :: gs) scope pos) 0 tg iter ifs (body (.ref D) env) it (.ref D) env)
    (hg : ∀ (s : Shared) (H : Hp) (C : Addr) (cl : List (Str × Addr)) (fp : List Addr), PG (X.blk s H scope (compEnvC scope cl C X.env) fp) tg c.g) (hts : ∀ (s : Shared) (H : Hp) (C : Addr) (cl : List (Str × Addr)) (fp : List Addr), PTs (X.blk s H scope (compEnvC scope cl C X.env) fp) ifs c.tt)
    (hb : ∀ (s : Shared) (H : Hp) (C : Addr) (cl : List (Str × Addr)) (fp : List Addr) (D : Addr), BodyOk (X.blk s H scope (compEnvC scope cl C X.env) fp) sub (body (.ref D) (compEnvC scope cl C X.env)) (tCl cs (te D))) (hs : ∀ x, foldedSetIterable iter X.env x = pure x) :
    PE X (.DictComp kx vx (⟨tg, iter, ifs, 0⟩ :: gs) scope pos) (tCn c cs te fun D => .ext fun h => h.DictRaw D #[] 0) := by
  refine ⟨fun pins s σ H Q I h => ?_⟩
  rw [arm_eval_DictComp]
  refine cn_core (ho := fun D => .ext fun h => h.DictRaw D #[] 0) (ob := { cls := .type "dict", data := .dict #[] }) (.inr ⟨_, _, _, _, _, rfl⟩) hc hN I rfl hi ok hown hv (fun {A E Q s} q => wpAny_newObj_type q) (fun H h _ => dict_ext_ok ⟨_, Heap.get?_push_size _ rfl, ⟨rfl, rfl, rfl⟩, rfl⟩) ht hg hts hb hs h fun D C s' m H' I' q hn f => ⟨m, hn, fun h'' sb => ?_⟩
  obtain ⟨f0, f1, f2, f3, f4, f5⟩ := f
  exact ⟨.ref D, H', I'.turned (t' := s'.toks) (fun b o hb e => (sb.2 b hb).trans e) f0 f1 f3 f4 f5, rfl, q⟩
theorem dct_nil : DctOk #[] [] [] [] := ⟨List.nodup_nil, fun _ h => (by cases h), rfl, rfl, fun _ => rfl, Nat.zero_le _⟩
/-- {k: True for ..} -/
theorem ev_dc1 {α : Type} {xs : List α} {h : α → D} {pr : α → Bool} {ke : α → D} {kk : α → NestedKey} (own : List (Str × Nat)) {wi : TI} {G : Om → Prop} {g : TG} {sl : List Nat} {f}
    (hu : X.A.units + 65 < cLine) (hc : X.calm = true) (hN : X.N.Nodup) (hi : EI X B ρ O tg iter wi G (xs.map h)) (hG : G O) (ok : BlkOk X.N X.env.scope scope own)
    (hg : ∀ X', Blk X scope X' → EB X' tg g sl f) (hsl : ∀ j ∈ sl, j ∈ own.map (·.2))
    (hk : ∀ x, dOf (kk x) = ke x ∧ numK (kk x) = true ∧ (kk x).depth ≤ 8 ∧ ∃ l, kk x = .tup l)
    (hb : ∀ x ∈ xs, ∃ ρ', f (h x) (wipeD ρ (own.map (·.2))) = some ρ' ∧ (∀ X' B', B'.L = B.L → Blk X scope X' → ETs X' B' ρ' O ifs (pr x)) ∧ (pr x = true → (∀ X' B', B'.L = B.L → Blk X scope X' → EV X' B' ρ' O kx (ke x)) ∧ ∀ X' B', B'.L = B.L → Blk X scope X' → EV X' B' ρ' O vx (.bl true)))
    (hz : (xs.filter pr).length ≤ sizeLine) (hs : ∀ x, foldedSetIterable iter X.env x = pure x := by intro _; rfl) :
    EV X B ρ O (.DictComp kx vx [⟨tg, iter, ifs, 0⟩] scope pos) (.dct (((xs.filter pr).map kk).foldl stepK [])) := by
  have ef : (xs.filter pr).flatMap (fun x => [kk x]) = (xs.filter pr).map kk := by rw [List.map_eq_flatMap]
  refine pe_imp (pe_dcn (c := ⟨wi, g, tAnyTs (Blk X scope) ifs, own.map (·.2)⟩) (cs := []) (sub := []) (te := teK X scope kx vx) (body := fun acc env => match acc with | .ref D => bodyE (emitD kx vx D env) | _ => id) hc hN hi.pi ok rfl (fun _ h => by cases h) (fun it D env => by rfl)
    (fun s H C cl fp => (hg _ ⟨s, H, C, cl, fp, rfl⟩).pg) (fun s H C cl fp => anyTs_ok ⟨s, H, C, cl, fp, rfl⟩) (fun s H C cl fp D => body_dict ⟨s, H, C, cl, fp, rfl⟩ hu) hs) fun σ H Q ⟨st, k⟩ => ?_
  refine cnW_imp (pr := pr) (AC := accK X.K) (a0 := []) (out := fun x => [kk x]) hi hG hg hsl (fun D0 x hx => ?_) (fun D Hv H lo => ⟨#[], 0, [], [], upd_same, lo, dct_nil, .nil⟩) (by rw [ef]; simpa [accK] using hz) st fun p H' hp e hP => k _ H' e ?_
  · obtain ⟨ρ', b1, b2, b3⟩ := hb x hx
    exact ⟨ρ', b1, b2, fun hp => tail_key (b3 hp).1 (b3 hp).2 (hk x).1 (hk x).2.1 (hk x).2.2.1 (hk x).2.2.2⟩
  · rw [ef] at hP
    exact dct_rp st.m hp hP
theorem ev_dc2 {α β : Type} {xs : List α} {h : α → D} {pr : α → Bool} {ys : α → List β} {h2 : α → β → D} {pr2 : α → β → Bool} {ke : α → β → D} {kk : α → β → NestedKey} (own own2 : List (Str × Nat)) {wi : TI} {G : Om → Prop} {g g2 : TG} {sl sl2 : List Nat} {f f2}
    (hu : X.A.units + 65 < cLine) (hc : X.calm = true) (hN : X.N.Nodup) (hi : EI X B ρ O tg iter wi G (xs.map h)) (hG : G O) (ok : BlkOk X.N X.env.scope scope own)
    (hg : ∀ X', Blk X scope X' → EB X' tg g sl f) (hsl : ∀ j ∈ sl, j ∈ own.map (·.2)) (hg2 : ∀ X', Blk X scope X' → EB X' tg2 g2 sl2 f2) (hsl2 : ∀ j ∈ sl2, j ∈ own2.map (·.2)) (hv : ∀ i ∈ own2.map (·.2), i ∈ own.map (·.2))
    (hk : ∀ x y, dOf (kk x y) = ke x y ∧ numK (kk x y) = true ∧ (kk x y).depth ≤ 8 ∧ ∃ l, kk x y = .tup l)
    (hb : ∀ x ∈ xs, ∃ ρ', f (h x) (wipeD ρ (own.map (·.2))) = some ρ' ∧ (∀ X' B', B'.L = B.L → Blk X scope X' → ETs X' B' ρ' O ifs (pr x)) ∧ (pr x = true → (∀ X' B', B'.L = B.L → Blk X scope X' → ∃ wi G, EI X' B' ρ' O tg2 it2 wi G ((ys x).map (h2 x)) ∧ G O) ∧
      ∀ y ∈ ys x, ∃ ρ2, f2 (h2 x y) (wipeD ρ' (own2.map (·.2))) = some ρ2 ∧ (∀ X' B', B'.L = B.L → Blk X scope X' → ETs X' B' ρ2 O ifs2 (pr2 x y)) ∧ (pr2 x y = true → (∀ X' B', B'.L = B.L → Blk X scope X' → EV X' B' ρ2 O kx (ke x y)) ∧ ∀ X' B', B'.L = B.L → Blk X scope X' → EV X' B' ρ2 O vx (.bl true))))
    (hz : ((xs.filter pr).flatMap fun x => ((ys x).filter (pr2 x)).map (kk x)).length ≤ sizeLine) (hs : ∀ x, foldedSetIterable iter X.env x = pure x := by intro _; rfl) (hs2 : ∀ env x, foldedSetIterable it2 env x = pure x := by intro _ _; rfl) :
    EV X B ρ O (.DictComp kx vx [⟨tg, iter, ifs, 0⟩, ⟨tg2, it2, ifs2, 0⟩] scope pos) (.dct (((xs.filter pr).flatMap fun x => ((ys x).filter (pr2 x)).map (kk x)).foldl stepK [])) := by
  refine pe_imp (pe_dcn (c := ⟨wi, g, tAnyTs (Blk X scope) ifs, own.map (·.2)⟩) (cs := [⟨tAnyI (Blk X scope) tg2 it2, g2, tAnyTs (Blk X scope) ifs2, own2.map (·.2)⟩]) (sub := own2.map (·.2)) (te := teK X scope kx vx)
    (body := fun acc env => bodyC (.DictComp kx vx [⟨tg, iter, ifs, 0⟩, ⟨tg2, it2, ifs2, 0⟩] scope pos) 1 it2 acc env) hc hN hi.pi ok rfl hv (fun it D env => by rfl)
    (fun s H C cl fp => (hg _ ⟨s, H, C, cl, fp, rfl⟩).pg) (fun s H C cl fp => anyTs_ok ⟨s, H, C, cl, fp, rfl⟩)
    (fun s H C cl fp D => body_clause (X := X.blk s H scope (compEnvC scope cl C X.env) fp) (sub := []) (e := .DictComp kx vx [⟨tg, iter, ifs, 0⟩, ⟨tg2, it2, ifs2, 0⟩] scope pos) (d := 1) (acc := .ref D) (c := ⟨tAnyI (Blk X scope) tg2 it2, g2, tAnyTs (Blk X scope) ifs2, own2.map (·.2)⟩) (cs := []) (te := teK X scope kx vx D) (body := bodyE (emitD kx vx D (compEnvC scope cl C X.env)))
      rfl (.inr ⟨_, _, _, _, _, rfl⟩) hc rfl (fun it => by rfl) hs2 (anyI_ok ⟨s, H, C, cl, fp, rfl⟩) (hg2 _ ⟨s, H, C, cl, fp, rfl⟩).pg (anyTs_ok ⟨s, H, C, cl, fp, rfl⟩) (fun _ h => by cases h) (body_dict ⟨s, H, C, cl, fp, rfl⟩ hu)) hs) fun σ H Q ⟨st, k⟩ => ?_
  refine cnW_imp (pr := pr) (AC := accK X.K) (a0 := []) (out := fun x => ((ys x).filter (pr2 x)).map (kk x)) hi hG hg hsl (fun D0 x hx => ?_) (fun D Hv H lo => ⟨#[], 0, [], [], upd_same, lo, dct_nil, .nil⟩) (by simpa [accK] using hz) st fun p H' hp e hP => k _ H' e (dct_rp st.m hp hP)
  obtain ⟨ρ', b1, b2, b3⟩ := hb x hx
  refine ⟨ρ', b1, b2, fun hp => ?_⟩
  have e : ((ys x).filter (pr2 x)).map (kk x) = ((ys x).filter (pr2 x)).flatMap fun y => [kk x y] := by rw [List.map_eq_flatMap]
  show TailOk X B.L O _ D0 _ _ ρ' (((ys x).filter (pr2 x)).map (kk x))
  rw [e]
  refine tail_clause (b3 hp).1 hg2 hsl2 fun y hy => ?_
  obtain ⟨ρ2, c1, c2, c3⟩ := (b3 hp).2 y hy
  exact ⟨ρ2, c1, c2, fun hp2 => tail_key (c3 hp2).1 (c3 hp2).2 (hk x y).1 (hk x y).2.1 (hk x y).2.2.1 (hk x y).2.2.2⟩
end
/-! typed -/
def stepT {α : Type} [DecidableEq α] (xs : List α) (x : α) : List α := if x ∈ xs then xs else xs ++ [x]
/-- the values without repetition, the first of each -/
def onceL {α : Type} [DecidableEq α] (xs : List α) : List α := xs.foldl stepT []
theorem once_map {α : Type} [DecidableEq α] {E : α → D} {f : α → NestedKey} (hk : KeyOk E f) (xs : List α) : (xs.map f).foldl stepK [] = (onceL xs).map f := by
  have : ∀ (xs acc : List α), (xs.map f).foldl stepK (acc.map f) = (xs.foldl stepT acc).map f := by
    intro xs
    induction xs with
    | nil => intro acc; rfl
    | cons x xs ih =>
      intro acc
      rw [List.map_cons, List.foldl_cons, List.foldl_cons]
      have e : stepK (acc.map f) (f x) = (stepT acc x).map f := by
        unfold stepK stepT
        have := mem_key hk x acc
        by_cases h : x ∈ acc
        · rw [if_pos h, if_pos (List.mem_map_of_mem h)]
        · rw [if_neg h, if_neg]
          · simp
          · intro q
            rw [decide_eq_true q, decide_eq_false h] at this
            cases this
      rw [e]; exact ih _
  exact this xs []
/-! the keys as a list -/
theorem kdl_keys_raw {prog : Program} {w : World} {d r : Addr} {es : Array DictEntry} {ep : Nat} : PySem.W.KdlSrc prog w "dict_keys" r d es.size (fun i v => ∃ e, es[i]? = some e ∧ e.key = v) (fun h => PySem.W.KdlKeysView h r d ∧ h.DictRaw d es ep) where
  type := fun _ hm => hm.1.typeIs
  there := fun _ hm => ⟨let ⟨_, ho, _⟩ := hm.1; Heap.lt_size ho, let ⟨_, ho, _⟩ := hm.2; Heap.lt_size ho⟩
  keep := fun _ _ hm hk => ⟨let ⟨o, ho, x⟩ := hm.1; ⟨o, hk r (.inl rfl) o ho, x⟩, hm.2.at fun o e => hk d (.inr rfl) o e⟩
  notList := by decide
  notTuple := by decide
  hint := fun _ _ _ _ hm hq => PySem.W.kdl_hint_keys hm.1.typeIs hq
  iter := fun _ s hh hm => ⟨_, _, (fun _ _ hq => wpAny_pyIter_keys_raw hm.1 hm.2 hq), (Walks.rawKeys hh _ d (Nat.ne_of_lt (let ⟨_, ho, _⟩ := hm.2; Heap.lt_size ho)) es ep).mono_item (fun i v hi ⟨h, e⟩ => ⟨es[i], by simp [h], e.symm⟩), ⟨⟨_, Heap.get?_push_size _ rfl, rfl, rfl⟩, hm.2.at fun o e => Heap.get?_push_of_some _ e⟩⟩
def tKeysM (K : PySem.W.Frag) (td : TE) : TE := fun σ H Q => td σ H fun x H1 => ∃ d es ep bs ks as, x = .ref d ∧ H1 d = some (.ext fun h => h.DictRaw d es ep) ∧ (d == sysModules) = false ∧ DctOk es bs ks as ∧ ∀ p, H1 p = none → Q (.ref p) (upd H1 p (.ext fun h => PySem.W.KdlKeysView h p d))
theorem pe_keysM {X : Cx} {e : Expr} {td : TE} {apos cpos : Pos} (he : PE X e td) (hbase : attributeBase e "keys" X.env (eval e X.env) = eval e X.env := by rfl) (hline : (apos.endLine == cpos.line) = true := by rfl) : PE X (.Call (.Attribute e "keys" apos) [] [] cpos) (tKeysM X.K td) := by
  refine ⟨fun pins s σ H Q I h => ?_⟩
  refine wpAny_Call_method (T := "dict") (id := "dict.keys") hbase rfl hline F.plainAttrs_dict F.slot_dict_keys F.type_dict_keys (thn (he.run pins s σ H _ I h) fun u s1 ⟨x, H1, I1, rx, d, es, ep, bs, ks, as, ex, hd, lo, dk, q⟩ => ?_)
  subst ex
  have hu : u = .ref d := rx
  subst hu
  obtain ⟨raw, _, _⟩ := I1.hok d _ hd
  refine ⟨raw.typeIs, fun a e => by cases e; obtain ⟨o, ho, hc, _⟩ := raw; exact ⟨o, ho, hc.2.1⟩, ?_⟩
  have fin : EP X pins σ Q (.ref s1.heap.objs.size) { s1 with heap := s1.heap.push { cls := .type "dict_keys", data := .fields #[.ref d] } } :=
    ⟨.ref s1.heap.objs.size, _, I1.laid (t' := s1.toks) (fun b o e => Heap.get?_push_of_some _ e) (Nat.le_refl _) (show ObjOk X.prog X.w _ _ _ (.ext fun h => PySem.W.KdlKeysView h s1.heap.objs.size d) from ⟨⟨_, Heap.get?_push_size _ rfl, rfl, rfl⟩, ⟨_, Heap.get?_push_size _ rfl⟩, fun h1 h2 ⟨o, ho, r⟩ e => ⟨o, e _ ho, r⟩⟩), rfl, q _ (I1.hok.fresh (Nat.le_refl _))⟩
  show wpAny _ _ (callWith cpos (.builtin "dict.keys") [.ref d] [] []) _ X.xe s1
  exact method_meetsIn F.slot_dict_keys F.entry_dict_keys rfl (PySem.evalArgs_none ⟨rfl, raw.typeIs, F.args_dict_keys_1 _, _, meets_dict_keys_raw d lo, ⟨⟨es, ep, raw⟩, fin⟩⟩)
theorem call_list_keys {X : Cx} (hc : X.calm = true) : CallR X (.type "list") (fun xs H Q => ∃ p d es ep bs ks as, xs = [.ref p] ∧ H p = some (.ext fun h => PySem.W.KdlKeysView h p d) ∧ H d = some (.ext fun h => h.DictRaw d es ep) ∧ DctOk es bs ks as ∧ ∀ l, H l = none → Q (.ref l) (upd H l (.lst bs))) := by
  intro pins s σ H xs us Q I r h
  obtain ⟨p, d, es, ep, bs, ks, as, rfl, hp, hd, dk, q⟩ := h
  obtain ⟨u, rfl, rx⟩ := vals1 r
  cases rx
  obtain ⟨kv, _, _⟩ := I.hok p _ hp
  obtain ⟨raw, _, _⟩ := I.hok d _ hd
  have hlen : es.size = ks.length := by
    rw [← Array.length_toList, dk.es X.w, List.length_map, List.length_zip, dk.len]; omega
  refine PySem.W.kdl_call kdl_keys_raw (I.ok.hd hc) ⟨kv, raw⟩ (by rw [hlen]; exact dk.lim) fun h' tk acc' c' kp e it => ?_
  have hvr : ∀ as : List Addr, Vals (as.map V.ref) (as.map Value.ref) := fun as => by
    induction as with
    | nil => exact .nil
    | cons a as ih => exact .cons rfl ih
  have hacc : acc'.toList = as.map Value.ref := by
    refine List.ext_getElem? fun j => ?_
    have hs := it.1
    by_cases hj : j < es.size
    · obtain ⟨e1, q1, q2⟩ := it.2 j _ (Array.getElem?_eq_getElem (by omega : j < acc'.size))
      rw [← Array.getElem?_toList, dk.es X.w, List.getElem?_map] at q1
      obtain ⟨pr, hpr, rfl⟩ := Option.map_eq_some_iff.mp q1
      obtain ⟨k1, a1⟩ := pr
      rw [List.getElem?_zip_eq_some] at hpr
      rw [Array.getElem?_toList, Array.getElem?_eq_getElem (by omega : j < acc'.size), List.getElem?_map, hpr.2, ← q2]; rfl
    · rw [List.getElem?_eq_none (by rw [Array.length_toList]; omega), List.getElem?_eq_none (by rw [List.length_map, dk.len]; omega)]
  have hv : Vals bs acc'.toList := by rw [hacc, dk.bs]; exact hvr as
  refine ⟨.ref s.heap.objs.size, _, I.laid (t' := tk) kp (Nat.le_refl _) (show ObjOk X.prog X.w _ h' _ (.lst bs) from ⟨by rw [dk.bs, List.length_map, dk.len]; exact dk.lim, acc'.toList, c', hv, by rw [Array.toArray_toList]; exact e⟩), rfl, q _ (I.hok.fresh (Nat.le_refl _))⟩
/-- list(d.keys()) -/
theorem en_keys {X : Cx} {B : Gd} {ρ : List (Option D)} {O : Om} {α : Type} {E : α → D} {f : α → NestedKey} {xs : List α} {e : Expr} {p apos cpos pos : Pos} (hk : KeyOk E f) (hc : X.calm = true) (hg : Gl X "list") (hm : X.mg "list" = none) (hv : bootBuiltins "list" = some (.type "list")) (he : EV X B ρ O e (.dct (xs.map f)))
    (hbase : attributeBase e "keys" X.env (eval e X.env) = eval e X.env := by rfl) (hline : (apos.endLine == cpos.line) = true := by rfl) (hse : starEach [.Call (.Attribute e "keys" apos) [] [] cpos] X.env = (false, eval (.Call (.Attribute e "keys" apos) [] [] cpos) X.env) :: starEach [] X.env := by rfl) (hpl : (backTo pos (starEach [] X.env)).any (·.1) = false := by rfl) :
    EN X B ρ O (.Call (.Name "list" p) [.Call (.Attribute e "keys" apos) [] [] cpos] [] pos) (xs.map E) :=
  pe_imp (pe_callTy (call_list_keys hc) hg hm hv (pa_cons (pe_keysM he hbase hline) pa_nil hse) (by decide) (by decide) hse hpl) fun σ H Q ⟨st, k⟩ => by
    refine ⟨st, fun v H1 e1 r1 => ?_⟩
    cases r1 with
    | @dct a es ep bs _ as ha lo dk rl =>
      refine ⟨a, es, ep, bs, _, as, rfl, vis_le _ _ ha, lo, dk, fun p hp => ?_⟩
      have hp' : H p = none := e1.free hp
      have ne : a ≠ p := fun z => by subst z; rw [vis_le _ _ ha] at hp; cases hp
      refine ⟨p, a, es, ep, bs, _, as, rfl, upd_same, by rw [upd_ne ne]; exact vis_le _ _ ha, dk, fun l hl => ?_⟩
      have sm : Same H1 (upd H1 p (.ext fun h => PySem.W.KdlKeysView h p a)) := same_new hp
      have s2 : Same H (upd H1 p (.ext fun h => PySem.W.KdlKeysView h p a)) := e1.trans sm
      have hd : (xs.map f).map dOf = xs.map E := by rw [List.map_map]; exact List.map_congr_left fun x _ => hk.eq x
      have rl2 : RpL X.K (vis B.F O H1) bs (xs.map E) := by rw [← hd, ← dOfs_eq]; exact rl
      exact new_same (st.m.same s2) (rl2.mono (vis_same sm)) (fun p2 H' vs hp2 e2 hv2 r2 => k p2 H' vs (s2.free hp2) (s2.trans e2) hv2 r2) l hl
end DL

set_option Elab.async false
set_option linter.all false
set_option maxRecDepth 100000
set_option maxHeartbeats 4000000
namespace DL
open PySem PySem.Spec PyProof.Rows L2
/-! ### keys of the program's dicts -/
def kRow (r : Row) : NestedKey := .tup [.num r.1, .num r.2.1, .num r.2.2]
def kRR (p : Row × Row) : NestedKey := .tup [kRow p.1, kRow p.2]
def kUI (xs : List Int) : NestedKey := .tup (xs.map .num)
theorem key_row : KeyOk dRow kRow where
  eq := fun _ => rfl
  inj := fun a b h => by
    obtain ⟨a1, a2, a3⟩ := a
    obtain ⟨b1, b2, b3⟩ := b
    unfold kRow at h
    injection h with h
    injection h with h1 h
    injection h with h2 h
    injection h with h3 h
    injection h1 with h1
    injection h2 with h2
    injection h3 with h3
    simp only at h1 h2 h3
    rw [h1, h2, h3]
  num := fun _ => rfl
  dep := fun _ => (by decide : 1 ≤ 8)
  tup := fun _ => ⟨_, rfl⟩
theorem key_rr : KeyOk (dP2 dRow dRow) kRR where
  eq := fun _ => rfl
  inj := fun a b h => by
    obtain ⟨a1, a2⟩ := a
    obtain ⟨b1, b2⟩ := b
    unfold kRR at h
    injection h with h
    injection h with h1 h
    injection h with h2 h
    have q1 : a1 = b1 := key_row.inj _ _ h1
    have q2 : a2 = b2 := key_row.inj _ _ h2
    rw [q1, q2]
  num := fun _ => rfl
  dep := fun _ => (by decide : 2 ≤ 8)
  tup := fun _ => ⟨_, rfl⟩
theorem numKs_map (xs : List Int) : numKs (xs.map .num) = true := by
  induction xs with
  | nil => rfl
  | cons x xs ih => rw [List.map_cons, numKs, ih]; rfl
theorem depthAll_map (xs : List Int) : NestedKey.depthAll (xs.map .num) = 0 := by
  induction xs with
  | nil => rfl
  | cons x xs ih => rw [List.map_cons, NestedKey.depthAll, ih]; rfl
theorem key_ui : KeyOk (dU D.int) kUI where
  eq := fun xs => by
    show D.tup (dOfs _) = D.tup _
    rw [dOfs_eq, List.map_map]; rfl
  inj := fun a b h => by
    unfold kUI at h
    injection h with h
    have : ∀ a b : List Int, a.map NestedKey.num = b.map NestedKey.num → a = b := fun a => by
      induction a with
      | nil => intro b h; cases b with
        | nil => rfl
        | cons _ _ => cases h
      | cons x a ih => intro b h; cases b with
        | nil => cases h
        | cons y b =>
          rw [List.map_cons, List.map_cons] at h
          injection h with h1 h2
          injection h1 with h1
          rw [h1, ih b h2]
    exact this a b h
  num := numKs_map
  dep := fun xs => by show NestedKey.depthAll (xs.map .num) + 1 ≤ 8; rw [depthAll_map]; decide
  tup := fun _ => ⟨_, rfl⟩
abbrev dK {α : Type} (f : α → NestedKey) (xs : List α) : D := .dct (xs.map f)
section
variable {X : Cx} {B : Gd} {ρ ρ' : List (Option D)} {O : Om} {A : AE} {e : Expr} {es : List Expr} {pos : Pos}
/-! ### a list's items unpacked -/
def bLst (g : List D → List (Option D) → Option (List (Option D))) : D → List (Option D) → Option (List (Option D)) := fun d ρ => match d with | .lst ds => g ds ρ | _ => none
theorem eb_lst {k : Nat} {t : TGs} {f} {n : Nat} {sl : List Nat} (hc : X.calm = true) (h : EBs X es t sl f) (hl : ∀ ds ρ ρ', f ds ρ = some ρ' → ds.length = n) (hn : (assignEach es X.env).length = n := by rfl) (hst : (assignEach es X.env).findIdx? (·.1) = none := by rfl) :
    EB X (.Tuple es k pos) (gUnl X.K n t) sl (bLst f) :=
  ⟨pg_unl hc h.pg hn hst, fun B O d ρ ρ' v σ H Q e s r k => by
    cases d with
    | lst ds =>
      cases r with
      | lst hq r => exact ⟨_, _, rfl, .inl (.inl (vis_le _ _ hq)), by rw [r.length]; exact hl _ _ _ e, h.is B O ds ρ ρ' _ σ H Q e s r k⟩
    | _ => cases e⟩
abbrev dL3 {α : Type} (F : α → D) (p : α × α × α) : D := .lst [F p.1, F p.2.1, F p.2.2]
theorem lst3 {α : Type} [Inhabited α] {xs : List α} (h : xs.length = 3) : xs = [ixL xs 0, ixL xs 1, ixL xs 2] := by
  match xs, h with
  | [a, b, c], _ => rfl
theorem ev_lst3 {α : Type} [Inhabited α] {F : α → D} {xs : List α} (he : EV X B ρ O e (dL F xs)) (h : xs.length = 3) : EV X B ρ O e (dL3 F (ixL xs 0, ixL xs 1, ixL xs 2)) := ev_conv he (by
  have := congrArg (fun l => D.lst (l.map F)) (lst3 h)
  exact this)
/-- list(range(n)) -/
theorem en_range1 {n : Int} {na : Expr} {p p1 pos2 : Pos} (hc : X.calm = true) (hg : Gl X "list") (hm : X.mg "list" = none) (hgr : Gl X "range") (hmr : X.mg "range" = none) (ha : EV X B ρ O na (.int n)) (hn : 0 ≤ n ∧ n ≤ 1000000)
    (h1 : starEach [na] X.env = (false, eval na X.env) :: starEach [] X.env := by rfl) (h2 : starEach [.Call (.Name "range" p1) [na] [] pos2] X.env = (false, eval (.Call (.Name "range" p1) [na] [] pos2) X.env) :: starEach [] X.env := by rfl) :
    EN X B ρ O (.Call (.Name "list" p) [.Call (.Name "range" p1) [na] [] pos2] [] pos) ((rangeL 0 n).map D.int) :=
  pe_imp (pe_listRg hc hg hm (prg_1 hgr hmr ha h1) h2) fun σ H Q ⟨st, k⟩ => ⟨st, fun v H1 e1 r1 => by
    cases r1
    refine ⟨n, rfl, ⟨by omega, by omega, by omega, by omega, by omega⟩, ?_⟩
    refine new_same (st.m.same e1) ?_ (fun p2 H' vs hp2 e2 hv2 r2 => k p2 H' vs (e1.free hp2) (e1.trans e2) hv2 r2)
    have e : rgV 0 n = (rangeL 0 n).map V.int := by unfold rgV rangeL; rw [List.map_map]; rfl
    rw [e]
    exact RpL.ofInts _⟩
variable {scope : Scope} {kx vx iter tg it2 tg2 : Expr} {ifs ifs2 : List Expr}
theorem ev_dc1T {α : Type} {xs : List α} {h : α → D} {pr : α → Bool} {δ : Type} [DecidableEq δ] {F : δ → D} {kf : δ → NestedKey} {el : α → δ} (own : List (Str × Nat)) {wi : TI} {G : Om → Prop} {g : TG} {sl : List Nat} {f}
    (hu : X.A.units + 65 < cLine) (hc : X.calm = true) (hN : X.N.Nodup) (hi : EI X B ρ O tg iter wi G (xs.map h)) (hG : G O) (ok : BlkOk X.N X.env.scope scope own)
    (hg : ∀ X', Blk X scope X' → EB X' tg g sl f) (hsl : ∀ j ∈ sl, j ∈ own.map (·.2))
    (hk : KeyOk F kf)
    (hb : ∀ x ∈ xs, ∃ ρ', f (h x) (wipeD ρ (own.map (·.2))) = some ρ' ∧ (∀ X' B', B'.L = B.L → Blk X scope X' → ETs X' B' ρ' O ifs (pr x)) ∧ (pr x = true → (∀ X' B', B'.L = B.L → Blk X scope X' → EV X' B' ρ' O kx (F (el x))) ∧ ∀ X' B', B'.L = B.L → Blk X scope X' → EV X' B' ρ' O vx (.bl true)))
    (hz : (xs.filter pr).length ≤ sizeLine) (hs : ∀ x, foldedSetIterable iter X.env x = pure x := by intro _; rfl) :
    EV X B ρ O (.DictComp kx vx [⟨tg, iter, ifs, 0⟩] scope pos) (dK kf (onceL ((xs.filter pr).map el))) :=
  ev_conv (ev_dc1 (ke := fun x => F (el x)) (kk := fun x => kf (el x)) own hu hc hN hi hG ok hg hsl (fun x => ⟨hk.eq _, hk.num _, hk.dep _, hk.tup _⟩) hb hz hs) (congrArg D.dct (by rw [← once_map hk, List.map_map]; rfl))
theorem ev_dc2T {α β : Type} {xs : List α} {h : α → D} {pr : α → Bool} {ys : α → List β} {h2 : α → β → D} {pr2 : α → β → Bool} {δ : Type} [DecidableEq δ] {F : δ → D} {kf : δ → NestedKey} {el : α → β → δ} (own own2 : List (Str × Nat)) {wi : TI} {G : Om → Prop} {g g2 : TG} {sl sl2 : List Nat} {f f2}
    (hu : X.A.units + 65 < cLine) (hc : X.calm = true) (hN : X.N.Nodup) (hi : EI X B ρ O tg iter wi G (xs.map h)) (hG : G O) (ok : BlkOk X.N X.env.scope scope own)
    (hg : ∀ X', Blk X scope X' → EB X' tg g sl f) (hsl : ∀ j ∈ sl, j ∈ own.map (·.2)) (hg2 : ∀ X', Blk X scope X' → EB X' tg2 g2 sl2 f2) (hsl2 : ∀ j ∈ sl2, j ∈ own2.map (·.2)) (hv : ∀ i ∈ own2.map (·.2), i ∈ own.map (·.2))
    (hk : KeyOk F kf)
    (hb : ∀ x ∈ xs, ∃ ρ', f (h x) (wipeD ρ (own.map (·.2))) = some ρ' ∧ (∀ X' B', B'.L = B.L → Blk X scope X' → ETs X' B' ρ' O ifs (pr x)) ∧ (pr x = true → (∀ X' B', B'.L = B.L → Blk X scope X' → ∃ wi G, EI X' B' ρ' O tg2 it2 wi G ((ys x).map (h2 x)) ∧ G O) ∧
      ∀ y ∈ ys x, ∃ ρ2, f2 (h2 x y) (wipeD ρ' (own2.map (·.2))) = some ρ2 ∧ (∀ X' B', B'.L = B.L → Blk X scope X' → ETs X' B' ρ2 O ifs2 (pr2 x y)) ∧ (pr2 x y = true → (∀ X' B', B'.L = B.L → Blk X scope X' → EV X' B' ρ2 O kx (F (el x y))) ∧ ∀ X' B', B'.L = B.L → Blk X scope X' → EV X' B' ρ2 O vx (.bl true))))
    (hz : ((xs.filter pr).flatMap fun x => ((ys x).filter (pr2 x)).map (el x)).length ≤ sizeLine) (hs : ∀ x, foldedSetIterable iter X.env x = pure x := by intro _; rfl) (hs2 : ∀ env x, foldedSetIterable it2 env x = pure x := by intro _ _; rfl) :
    EV X B ρ O (.DictComp kx vx [⟨tg, iter, ifs, 0⟩, ⟨tg2, it2, ifs2, 0⟩] scope pos) (dK kf (onceL ((xs.filter pr).flatMap fun x => ((ys x).filter (pr2 x)).map (el x)))) :=
  ev_conv (ev_dc2 (ke := fun x y => F (el x y)) (kk := fun x y => kf (el x y)) own own2 hu hc hN hi hG ok hg hsl hg2 hsl2 hv (fun x y => ⟨hk.eq _, hk.num _, hk.dep _, hk.tup _⟩) hb (by have q := hz; rw [← List.length_map (f := kf)] at q; simp only [List.map_flatMap, List.map_map, Function.comp_def] at q; exact q) hs hs2) (congrArg D.dct (by rw [← once_map hk]; simp only [List.map_flatMap, List.map_map, Function.comp_def]))
/-- several tests of a clause -/
theorem ets_cons {c c2 : Expr} {cs : List Expr} {b1 b2 : Bool} (h : ET X B ρ O c b1) (h2 : b1 = true → ETs X B ρ O (c2 :: cs) b2) : ETs X B ρ O (c :: c2 :: cs) (b1 && b2) := ⟨fun pins s σ H Q I ⟨st, k⟩ => by
  rw [List.forIn_cons]
  simp only [if_true]
  refine wpAny_bind (wpAny_bind (thn (h.run pins s σ H (fun b H' => b = b1 ∧ Same H H') I ⟨st, fun H' e => ⟨rfl, e⟩⟩) fun b s1 ⟨H1, I1, hb, e1⟩ => ?_))
  subst hb
  refine wpAny_pure ?_
  cases b with
  | true => exact (h2 rfl).run pins s1 σ H1 Q I1 ⟨st.same e1, fun H' e => k H' (e1.trans e)⟩
  | false =>
    have skip : ∀ (l : List Expr) (s : Shared), Inv X pins σ H1 s → wpAny (model X.prog X.w) X.A (forIn l false fun c r => if r = true then do let ok ← isTrue c X.env (eval c X.env); pure (ForInStep.yield ok) else pure (ForInStep.yield r)) (TP X pins σ Q) X.xe s := by
      intro l
      induction l with
      | nil => intro s I; exact wpAny_pure ⟨H1, I, k H1 e1⟩
      | cons c l ih =>
        intro s I
        rw [List.forIn_cons]
        simp only [Bool.false_eq_true, if_false]
        exact wpAny_bind (wpAny_pure (ih s I))
    exact skip _ s1 I1⟩
end
end DL

set_option Elab.async false
set_option linter.all false
set_option maxRecDepth 100000
set_option maxHeartbeats 4000000
namespace DL
open PySem PySem.Spec PyProof.Rows L2 TL
/-! ### comparisons by an own method -/
section
variable {X : Cx} {B : Gd} {ρ : List (Option D)} {O : Om} {d : D} {C f : Addr} {ds ds' : List D} {k : Nat} {a b : Expr} {pos : Pos}
def rOwnC (X : Cx) (C : Addr) (sp : Sp) (E : XK) : R2 := fun x y H Q => ∃ p q, x = .ref p ∧ y = .ref q ∧ StX.InsC X H p C ∧ StX.InsC X H q C ∧ sp [.ref p, .ref q] H Q E
theorem op_cmpO {op : CmpOp} {CX : CXT} {sp : Sp} {E : XK} (hop : ∀ a b, compareOp op a b = richCompare op a b) (hs : PySem.W.findIn X.K (.ref C) (cmpInfo op).2.1 = some (some (.ref f))) (hf : PySem.W.isFn X.K (.ref f) = true) (F : FnR X.prog X.w X.K X.mg X.base CX k f sp) (hr : Room k X.A) (hx : Passes CX X E) : OpR X (compareOp op) (rOwnC X C sp E) := by
  intro pins s σ H x y v u Q I rx ry h
  obtain ⟨p, q, rfl, rfl, h1, h2, h3⟩ := h
  cases rx
  cases ry
  obtain ⟨ox, od, J, _⟩ := StX.insC_at I h1
  obtain ⟨ox2, od2, J2, _⟩ := StX.insC_at I h2
  obtain ⟨m, hF⟩ := I.fr
  rw [hop]
  refine PySem.W.cmp_K (op := op) (tb := .ref C) hr.units0 hF I.ok.mod.kin J J2.type (by unfold PySem.W.notFirst; rw [show ((Value.ref C) == Value.ref C) = true from beq_self_eq_true _]; rfl) hs hf ?_
  refine wpAny_mono (wpAny_call (run_fnR (us := [.ref p, .ref q]) (vs := [.ref p, .ref q]) F hr hx I (.cons rfl (.cons rfl .nil)) h3)) (fun w s' z => ?_) fun _ _ x => x
  obtain ⟨z', H', I', rz, qz⟩ := z
  exact SlX.cmpback rz ⟨z', H', I', rz, qz⟩
theorem ev_cmpO {op : CmpOp} {Ar : Om → List D → D → Prop} {ns ns' : List Str} (hop : ∀ a b, compareOp op a b = richCompare op a b) (ha : EV X B ρ O a (.obj C ns ds)) (hb : EV X B ρ O b (.obj C ns' ds')) (hs : PySem.W.findIn X.K (.ref C) (cmpInfo op).2.1 = some (some (.ref f))) (hf : PySem.W.isFn X.K (.ref f) = true)
    (F : Fok X.prog X.w X.K X.mg X.base CX0 k f (spP X.K Ar)) (hr : Room k X.A) (h : Ar (B.L ++ O) [.obj C ns ds, .obj C ns' ds'] d) (hm : behindInMarks op b = false) : EV X B ρ O (.Compare a [op] [b] pos) d :=
  pe_imp (pe_cmpR (op_cmpO (E := E0) hop hs hf F.raw hr pass0) ha hb hm) fun σ H Q ⟨st, k⟩ => ⟨st, fun v H1 e1 r1 => ⟨st.same e1, fun u H2 e2 r2 => by
    have r1' := r1.mono (vis_same e2)
    cases r1' with
    | obj h1 h2 h3 =>
      cases r2 with
      | obj g1 g2 g3 =>
        exact ⟨_, _, rfl, rfl, .inr ⟨_, _, vis_le _ _ h1⟩, .inr ⟨_, _, vis_le _ _ g1⟩, spP_use ((st.same e1).same e2).m (.cons (Rp.obj h1 h2 h3) (.cons (Rp.obj g1 g2 g3) .nil)) h fun w H3 e3 r3 => k w H3 ((e1.trans e2).trans e3) r3⟩⟩⟩
theorem ev_globI {x : Str} {n : Int} (hg : Gl X x) (hm : ∃ tk, X.mg x = some (.int n tk)) (hd : (x == ("__debug__" : Str)) = false := by decide) : EV X B ρ O (.Name x pos) (.int n) := by
  obtain ⟨_, hm⟩ := hm
  exact ev_glob (v := .int n) hg hm ⟨_, rfl⟩ (fun _ => .int _) hd
theorem et_lstT {α : Type} {E : α → D} {xs : List α} {e : Expr} (h : EV X B ρ O e d) (w : Vw (B.L ++ O) d (xs.map E)) (he : ∀ whole, isTrue e X.env whole = (do let v ← whole; standAt e.pos; holding [v] (truthy v)) := by intro _; rfl) : ET X B ρ O e (!xs.isEmpty) :=
  et_conv (et_lst h w he) (by rw [List.isEmpty_map])
theorem rd_isB {K : PySem.W.Frag} {a b : Bool} : RD K B O rIsB (.bl a) (.bl b) (.bl (decide (a = b))) := fun x y H Q m r1 r2 k => by
  cases r1; cases r2; exact ⟨a, b, rfl, rfl, k _ H (Same.refl H) (.bl _)⟩
theorem rd_isnotB {K : PySem.W.Frag} {a b : Bool} : RD K B O rNotB (.bl a) (.bl b) (.bl (!decide (a = b))) := fun x y H Q m r1 r2 k => by
  cases r1; cases r2; exact ⟨a, b, rfl, rfl, k _ H (Same.refl H) (.bl _)⟩
end
end DL

set_option Elab.async false
set_option linter.all false
set_option maxRecDepth 100000
set_option maxHeartbeats 4000000
namespace DL
open PySem PySem.Spec PyProof.Rows L2
/-! ### dicts that grow -/
/-- d[k] = True -/
theorem d_setKi {X : Cx} {pins : List (Addr × Obj)} {σ : L2.St} {H : Hp} {s : Shared} {E : Value → Shared → Prop} {D : Addr} {y : V} {u : Value} {k : NestedKey} {ks : List NestedKey} {Q : Unit → Shared → Prop} (hu : X.A.units + 65 < cLine) (I : Inv X pins σ H s)
    {es : Array DictEntry} {ep : Nat} {bs : List V} {as : List Addr} (hD : H D = some (.ext fun h => h.DictRaw D es ep)) (dk : DctOk es bs ks as) (rl : RpL X.K H bs (dOfs ks)) (hn : numK k = true) (hd : k.depth ≤ 8) (ht : ∃ l, k = .tup l) (rk : Rp X.K H y (dOf k)) (rv : RelV y u) (hz : ks.length < sizeLine)
    (q : ∀ s' es' ep' bs' as', Inv X pins σ (upd H D (.ext fun h => h.DictRaw D es' ep')) s' → DctOk es' bs' (stepK ks k) as' → (∀ Hv, RpL X.K Hv bs (dOfs ks) → Rp X.K Hv y (dOf k) → RpL X.K Hv bs' (dOfs (stepK ks k))) → Q () s') :
    wpAny (model X.prog X.w) X.A (setItem (.ref D) u (.bool true)) Q E s := by
  obtain ⟨l, hl⟩ := ht
  have hy : ∃ b, y = .ref b := by
    subst hl
    cases rk with
    | tup _ _ => exact ⟨_, rfl⟩
  obtain ⟨b, rfl⟩ := hy
  have hu' : u = .ref b := rv
  subst hu'
  have dm := dct_of I hD dk rl
  have hlen : (entsK ks as).length = ks.length := by rw [← List.length_map (f := (·.1)), ents_keys dk.len]
  have hi : (nestedKind X.prog X.w).is s.heap k b := ⟨rp_key I k _ _ hn rk rfl, hd⟩
  refine wpAny_setItem_heap (hsz := by rw [hlen]; omega) (knd := nestedKind X.prog X.w) (show X.A.in1.units + 8 < cLine by show X.A.units + 1 + 8 < cLine; omega) hi dm fun h' hm' hs => ?_
  have old : ∀ xs : List (NestedKey × Addr × Value), (∀ x ∈ xs, x.2.2 = .bool true) → xs.map (putAt k (.bool true)) = xs := fun xs hx => by
    refine (List.map_congr_left fun x hm => ?_).trans (List.map_id xs)
    unfold putAt
    split
    · have := hx x hm
      obtain ⟨a, c, v⟩ := x
      simp only at this
      subst this; rfl
    · rfl
  have est : storedH (entsK ks as) k b (.bool true) = if k ∈ ks then entsK ks as else entsK (ks ++ [k]) (as ++ [b]) := by
    unfold storedH
    rw [atKey_ents dk.len]
    by_cases hm : k ∈ ks
    · rw [decide_eq_true hm, if_pos rfl, if_pos hm]
      exact old _ fun x hx => by obtain ⟨p, _, rfl⟩ := List.mem_map.mp hx; rfl
    · rw [decide_eq_false hm, if_neg (by decide), if_neg hm]
      rw [entsK, entsK, List.zip_append dk.len.symm]
      simp
  obtain ⟨o, es', ep', ho, hc, hdat, he, _, hnd⟩ := hm'
  have raw : h'.DictRaw D es' ep' := ⟨o, ho, hc, hdat⟩
  have I' : Inv X pins σ (upd H D (.ext fun h => h.DictRaw D es' ep')) { s with heap := h', toks := s.toks + (nestedKind X.prog X.w).draws k } :=
    d_write I (by rw [hD]; exact True.intro) hs ⟨o, ho⟩ (dict_ext_ok raw)
  rw [est] at he
  by_cases hm : k ∈ ks
  · rw [if_pos hm] at he
    refine q _ es' ep' bs as I' ?_ fun Hv r _ => ?_
    · unfold stepK; rw [if_pos hm]
      refine ⟨dk.nd, dk.num, dk.bs, dk.len, fun w => ?_, dk.lim⟩
      rw [he, List.map_map]
      refine List.map_congr_left fun p hp => ?_
      have hmem := (List.of_mem_zip hp).1
      show (⟨p.1.hash X.w, _, _⟩ : DictEntry) = _
      rw [hash_num X.w w p.1 (dk.num _ hmem).1]
    · unfold stepK; rw [if_pos hm]; exact r
  · rw [if_neg hm] at he
    refine q _ es' ep' (bs ++ [.ref b]) (as ++ [b]) I' ?_ fun Hv r r1 => ?_
    · unfold stepK; rw [if_neg hm]
      refine ⟨?_, fun k' hk' => ?_, by rw [dk.bs]; simp, by simp [dk.len], fun w => ?_, by simp; omega⟩
      · rw [List.nodup_append]
        exact ⟨dk.nd, by simp, fun a ha b' hb' e => hm (by rw [List.mem_singleton] at hb'; rw [← hb', ← e]; exact ha)⟩
      · rcases List.mem_append.mp hk' with hk' | hk'
        · exact dk.num _ hk'
        · rw [List.mem_singleton.mp hk']; exact ⟨hn, hd⟩
      · rw [he, List.map_map]
        refine List.map_congr_left fun p hp => ?_
        have hmem := (List.of_mem_zip hp).1
        have hnum : numK p.1 = true := by
          rcases List.mem_append.mp hmem with h | h
          · exact (dk.num _ h).1
          · rw [List.mem_singleton.mp h]; exact hn
        show (⟨p.1.hash X.w, _, _⟩ : DictEntry) = _
        rw [hash_num X.w w p.1 hnum]
    · unfold stepK
      rw [if_neg hm]
      rw [dOfs_eq] at r ⊢
      rw [List.map_append]
      exact r.append (.cons r1 .nil)

def rSetK (K : PySem.W.Frag) : TSet := fun o i v H Q => ∃ D es ep bs as ks k, o = .ref D ∧ H D = some (.ext fun h => h.DictRaw D es ep) ∧ DctOk es bs ks as ∧ RpL K H bs (dOfs ks) ∧ numK k = true ∧ k.depth ≤ 8 ∧ (∃ l, k = .tup l) ∧ Rp K H i (dOf k) ∧ v = .bl true ∧ ks.length < sizeLine ∧
  ∀ es' ep' bs' as', DctOk es' bs' (stepK ks k) as' → (∀ Hv, RpL K Hv bs (dOfs ks) → Rp K Hv i (dOf k) → RpL K Hv bs' (dOfs (stepK ks k))) → Q (upd H D (.ext fun h => h.DictRaw D es' ep'))
theorem set_dct {X : Cx} (hu : X.A.units + 65 < cLine) : PSet X (rSetK X.K) := by
  intro pins s σ H o i v ov iv u Q I ro ri rv ⟨D, es, ep, bs, as, ks, k, ho, hD, dk, rl, hn, hd, ht, rk, hv, hz, q⟩
  subst ho hv
  have e1 : ov = .ref D := ro
  have e2 : u = .bool true := rv
  subst e1 e2
  exact d_setKi hu I hD dk rl hn hd ht rk ri hz fun s' es' ep' bs' as' I' dk' tr => ⟨_, I', q es' ep' bs' as' dk' tr⟩
section
variable {X : Cx} {B : Gd} {A : AE} {ρ ρ' : List (Option D)} {O O' : Om} {rest ss : List Stmt} {o c e : Expr} {x : Str} {pos pos' pos2 : Pos}
/-- d[k] = True -/
theorem j_setKey {p : Addr} {k : NestedKey} {ks : List NestedKey} (hu : X.A.units + 65 < cLine) (ho : EV X B ρ O o (.rf p)) (hi : EV X B ρ O c (dOf k)) (he : EV X B ρ O e (.bl true)) (hm : Put O p (.dct ks) (.dct (stepK ks k)) O') (hn : numK k = true) (hd : k.depth ≤ 8) (ht : ∃ l, k = .tup l) (hz : ks.length < sizeLine) (h : A.nx ρ O')
    (ha : ∀ v, assign (.Subscript o c pos') X.env v = (do
      let ov ← holding [v] (eval o X.env)
      let iv ← holding [v, ov] (eval c X.env)
      standAt pos'
      holding [v, ov, iv] (setItem ov iv v)
      release [v, ov, iv] []) := by intro _; rfl)
    (hs : swapsWithSole [.Subscript o c pos'] e pos.line X.env = pure false := by rfl) (hw : swappedStores [.Subscript o c pos'] e X.env = pure none := by rfl)
    (h1 : (assignEach [.Subscript o c pos'] X.env).map (·.2) = [assign (.Subscript o c pos') X.env] := by rfl) : J1 X B (.Assign [.Subscript o c pos'] e pos) ρ O A :=
  ps_imp (ps_asg he (pg_sub ho hi (set_dct hu) ha) hs hw h1) fun Dn σ H ⟨st, pp⟩ => ⟨st, fun v H1 e1 r1 => ⟨st.same e1, fun u H2 e2 r2 => ⟨(st.same e1).same e2, fun w H3 e3 r3 => by
    cases r2
    cases r1
    have s3 := ((st.same e1).same e2).same e3
    obtain ⟨es, ep, bs, as, h2, lo, dk, r4⟩ := s3.m.mem _ _ hm.mem
    refine ⟨p, es, ep, bs, as, ks, k, rfl, h2, dk, r4.mono vis_le, hn, hd, ht, r3.mono vis_le, rfl, hz, fun es' ep' bs' as' dk' tr => ?_⟩
    obtain ⟨s4, ev⟩ := s3.putP (o := .ext fun h => h.DictRaw p es' ep') hm ⟨es', ep', bs', as', upd_same, lo, dk', tr _ r4 r3⟩
    refine pp.nx ρ _ σ _ h s4 ?_
    rw [ev]
    exact vis_same ((e1.trans e2).trans e3)⟩⟩⟩
/-- {}, to grow -/
def tN0 (K : PySem.W.Frag) (B : Gd) (ρ : List (Option D)) (O : Om) : TE := fun σ H Q => StOk K B ρ O σ H ∧ ∀ p H' es ep, H p = none → Same H H' → (p == sysModules) = false → es = #[] → H' p = some (.ext fun h => h.DictRaw p es ep) → Q (.ref p) H'
theorem e_dict0 : PE X (.Dict [] [] pos) (tN0 X.K B ρ O) := ⟨fun pins s σ H Q I ⟨st, h⟩ =>
  wpAny_Dict_empty ⟨.ref s.heap.objs.size, _, I.laid (a := s.heap.objs.size) (o := .ext fun h => h.DictRaw s.heap.objs.size #[] 0) (t' := s.toks) (fun _ _ q => Heap.get?_push_of_some _ q) (Nat.le_refl _) (dict_ext_ok ⟨_, Heap.get?_push_size _ rfl, ⟨rfl, rfl, rfl⟩, rfl⟩), rfl,
    h _ _ _ _ (I.hok.fresh (Nat.le_refl _)) (same_new (I.hok.fresh (Nat.le_refl _))) (beq_eq_false_iff_ne.mpr (Ne.symm (Nat.ne_of_lt I.big))) rfl upd_same⟩⟩
theorem j_setD0 {i : Nat} (hN : X.N.Nodup) (hi : X.N[i]? = some x) (hx : Loc X.env.scope x) (hs : swapsWith (.Dict [] [] pos2) (some (.Name x pos')) pos.line X.env = pure false) (hf : X.fn x = true ∨ X.env.scope.names.lookup x = some .local)
    (h : ∀ p, has O p = false → A.nx (ρ.set i (some (.rf p))) ((p, .dct []) :: O)) : J1 X B (.Assign [.Name x pos'] (.Dict [] [] pos2) pos) ρ O A :=
  ps_imp (ps_set hN hi hx (e_dict0 (B := B) (ρ := ρ) (O := O)) hs hf) fun Dn σ H ⟨st, p⟩ => ⟨st, fun q H1 es ep hp e1 lo hes hv => by
    subst hes
    have op := st.m.newO hp
    have vs1 : Same (vis B.F O H) (vis B.F ((q, .dct []) :: O) H1) := fun a o h => by
      obtain ⟨h1, h2, h3⟩ := vis_some.mp h
      have ne : a ≠ q := ne_of_none h3 hp
      exact vis_some.mpr ⟨h1, by rw [has_cons, h2, Bool.or_false]; exact beq_eq_false_iff_ne.mpr (Ne.symm ne), e1 _ _ h3⟩
    refine p.nx _ _ _ H1 (h q op) ⟨⟨fun a o hb => ?_, fun a m hm => ?_, ?_, fun a m hm => (st.m.lent a m hm).mono vs1 fun o q => e1 _ _ q⟩, ?_⟩ vs1
    · have := st.m.base a o hb
      have ne : a ≠ q := ne_of_none this.1 hp
      exact ⟨e1 _ _ this.1, by rw [has_cons, this.2, Bool.or_false]; exact beq_eq_false_iff_ne.mpr (Ne.symm ne)⟩
    · rcases List.mem_cons.mp hm with z | z
      · cases z; exact ⟨#[], ep, [], [], hv, lo, dct_nil, .nil⟩
      · exact (st.m.mem a m z).mono vs1 fun o q => e1 _ _ q
    · rw [List.map_cons, List.nodup_cons]
      refine ⟨fun z => ?_, st.m.nd⟩
      obtain ⟨⟨a, m⟩, hm, ea⟩ := List.mem_map.mp z
      have : has O q = true := has_mem.mpr ⟨m, by have z : a = q := ea; rw [← z]; exact hm⟩
      rw [op] at this; cases this
    · exact (st.env.mono vs1).set (.rf q)⟩
theorem StOk.frzD {K : PySem.W.Frag} {σ : L2.St} {H : Hp} {q : Addr} {ks : List NestedKey} (s : StOk K B ρ O σ H) (h : Drp O q (.dct ks) O') (i : Nat) (hi : ρ[i]? = some (some (.rf q))) : StOk K B (ρ.set i (some (.dct ks))) O' σ H := by
  have s' := s.sub (fun q hq => h.sub.subset hq) (s.m.nd.sublist (h.sub.map _))
  refine ⟨s'.m, ?_⟩
  obtain ⟨v, e1, r1⟩ := s.env.2 i _ hi
  cases r1
  obtain ⟨es, ep, bs, as, h1, lo, dk, h2⟩ := s.m.mem _ _ h.mem
  have hq : has O q = true := has_mem.mpr ⟨_, h.mem⟩
  obtain ⟨fq, _, _⟩ := vis_some.mp (s.m.visM hq h1)
  have r : Rp K (vis B.F O' H) (.ref q) (.dct ks) := .dct (vis_some.mpr ⟨fq, h.no s.m.nd, h1⟩) lo dk (h2.mono (vis_sub fun q hq => h.sub.subset hq))
  have := s'.env.set (i := i) r
  rwa [show σ.set i (some (V.ref q)) = σ from by
    apply List.ext_getElem?
    intro j
    by_cases hj : i = j
    · subst hj
      rw [e1]
      have hl := (List.getElem?_eq_some_iff.mp e1).1
      rw [List.getElem?_set_self hl]
    · rw [List.getElem?_set_ne hj]] at this
/-- the dict in slot i is a value from here on -/
theorem jc_frzD {q : Addr} {ks : List NestedKey} {α : Type} {A : α → AE} {m : Cmp α} (i : Nat) (hd : Drp O q (.dct ks) O') (hi : ρ[i]? = some (some (.rf q))) (h : JC X B ss (ρ.set i (some (.dct ks))) O' A m) : JC X B ss ρ O A m :=
  jc_conv (fun K σ H s => ⟨s.frzD hd i hi, vis_sub fun q hq => hd.sub.subset hq⟩) h
theorem step_map {β : Type} [DecidableEq β] {E : β → D} {f : β → NestedKey} (hk : KeyOk E f) (acc : List β) (x : β) : stepK (acc.map f) (f x) = (stepT acc x).map f := by
  unfold stepK stepT
  have := mem_key hk x acc
  by_cases h : x ∈ acc
  · rw [if_pos h, if_pos (List.mem_map_of_mem h)]
  · rw [if_neg h, if_neg]
    · simp
    · intro q
      rw [decide_eq_true q, decide_eq_false h] at this
      cases this
theorem jc_setD0 (i : Nat) {α β : Type} {f : β → NestedKey} {A : α → AE} {m : List β → Cmp α} (nd : X.N.Nodup) (h : ∀ q y, has O q = false → JC X B rest (ρ.set i (some (.rf q))) ((q, .dct (y.map f)) :: O) A (m y)) (hi : X.N[i]? = some x := by rfl) (hx : Loc X.env.scope x := by first | exact .inl rfl | exact .inr rfl)
    (hs : swapsWith (.Dict [] [] pos2) (some (.Name x pos')) pos.line X.env = pure false := by rfl) (hf : X.fn x = true ∨ X.env.scope.names.lookup x = some .local := by first | exact .inr rfl | exact .inl rfl) : JC X B (.Assign [.Name x pos'] (.Dict [] [] pos2) pos :: rest) ρ O A (.bnd ([] : List β) m) := fun ok =>
  j_cons (j_setD0 nd hi hx hs hf fun q hq => h q [] hq ok)
theorem jc_setKey {q : Addr} {α β : Type} [DecidableEq β] {E : β → D} {f : β → NestedKey} {v : β} {xs : List β} {A : α → AE} {m : List β → Cmp α} {O2 : List β → Om} (hu : X.A.units + 65 < cLine) (hk : KeyOk E f) (ho : EV X B ρ O o (.rf q)) (hi : EV X B ρ O c (E v)) (he : EV X B ρ O e (.bl true)) (hp : ∀ ys : List β, Put O q (.dct (xs.map f)) (.dct (ys.map f)) (O2 ys)) (hz : xs.length < sizeLine) (h : ∀ ys, JC X B rest ρ (O2 ys) A (m ys))
    (ha : ∀ v, assign (.Subscript o c pos') X.env v = (do
      let ov ← holding [v] (eval o X.env)
      let iv ← holding [v, ov] (eval c X.env)
      standAt pos'
      holding [v, ov, iv] (setItem ov iv v)
      release [v, ov, iv] []) := by intro _; rfl)
    (hs : swapsWithSole [.Subscript o c pos'] e pos.line X.env = pure false := by rfl) (hw : swappedStores [.Subscript o c pos'] e X.env = pure none := by rfl)
    (h1 : (assignEach [.Subscript o c pos'] X.env).map (·.2) = [assign (.Subscript o c pos') X.env] := by rfl) :
    JC X B (.Assign [.Subscript o c pos'] e pos :: rest) ρ O A (.bnd (stepT xs v) m) := fun ok =>
  j_cons (j_setKey hu ho (by rw [hk.eq]; exact hi) he (by rw [step_map hk]; exact hp _) (hk.num v) (hk.dep v) (hk.tup v) (by rw [List.length_map]; exact hz) (h _ ok) ha hs hw h1)
end
section
variable {K : PySem.W.Frag} {B : Gd} {O : Om} {α : Type} {E : α → D} {f : α → NestedKey} [DecidableEq α]
theorem rd_inKE {x : α} {xs : List α} {inst : Decidable (x ∈ xs)} (hk : KeyOk E f) : RD K B O (rInK K false) (E x) (dK f xs) (.bl (@decide (x ∈ xs) inst)) := by
  have e : inst = List.instDecidableMemOfLawfulBEq x xs := Subsingleton.elim _ _
  rw [e]; exact rd_inKD hk
theorem rd_notinKE {x : α} {xs : List α} {inst : Decidable (x ∈ xs)} (hk : KeyOk E f) : RD K B O (rInK K true) (E x) (dK f xs) (.bl (!@decide (x ∈ xs) inst)) := by
  have e : inst = List.instDecidableMemOfLawfulBEq x xs := Subsingleton.elim _ _
  rw [e]; exact rd_notinKD hk
end
end DL

set_option Elab.async false
set_option linter.all false
set_option maxRecDepth 100000
set_option maxHeartbeats 4000000
namespace DL
open PySem PySem.Spec PyProof.Rows L2
/-! ### a new list, or None -/
def spO (K : PySem.W.Frag) (Ar : Om → List D → Option (List D) → Prop) : Sp := fun vs H Q _ => ∃ (F : Addr → Bool) (L : Om) (ds : List D) (eo : Option (List D)), Bor K F L [] H ∧ RpL K (vis F [] H) vs ds ∧ Ar L ds eo ∧
  (eo = none → ∀ H', Same H H' → Q .non H') ∧ ∀ es, eo = some es → ∀ p H' ws, H p = none → Same H H' → H' p = some (.lst ws) → RpL K (vis F [(p, .lst es)] H') ws es → Q (.ref p) H'
abbrev rtO {α : Type} (e : α → D) : Option (List α) → D → Om → Prop := fun r d O => match r with
  | none => d = .non
  | some xs => ∃ p, d = .rf p ∧ O = [(p, .lst (xs.map e))]
def rtOD (eo : Option (List D)) (d : D) (O : Om) : Prop := match eo with
  | none => d = .non
  | some es => ∃ p, d = .rf p ∧ O = [(p, M.lst es)]
theorem fn_newO {P : Program} {w : World} {K : PySem.W.Frag} {mg : Str → Option Value} {base : Heap} {Ar : Om → List D → Option (List D) → Prop} {x qual : Str} {st : Stmt} {f : Addr} {fd : FuncData} {N ps : List Str} {k : Nat} (F : Fun K x qual st f fd) (S : FnScope N ps (defScope st)) (len : ∀ L ds d, Ar L ds d → ds.length = ps.length)
    (h : ∀ (cdv : Value) (A : Around) (outer : List Env) (s : Shared) (H : Hp) (E : XK) (B : Gd) (ds : List D) (eo : Option (List D)), Room k (A.deeper (envOfC qual (defScope st) s.heap.objs.size f cdv)) → Ar B.L ds eo →
      J (cxOf CX0 P w K mg base N qual (defScope st) f cdv A outer s H E).nox B (defBody st) (startD N ds) [] { nx := fun _ O' => rtOD eo .non O', rt := fun d' O' => rtOD eo d' O' }) : FnOk P w K mg base CX0 (k + 1) f fd ps (spO K Ar) := by
  refine F.ok S (fun vs H Q E q => ?_) (fun cdv A outer s H vs Q E hr q => ?_)
  · obtain ⟨F', L, ds, d, _, r, ha, _⟩ := q
    rw [r.length]; exact len L ds d ha
  · obtain ⟨F', L, ds, eo, bo, r, ha, k0, kk⟩ := q
    refine ⟨_, h cdv A outer s H E ⟨F', H, fun c d _ H => E c d H, L, bo.ok, bo.lF⟩ ds eo hr ha, ⟨⟨fun a o e => ⟨e, rfl⟩, (fun a m hm => nomatch hm), (by simp), bo.lent⟩, start_env r⟩, ?_, ?_, fun _ _ _ _ z => z.elim, fun _ _ _ _ z => z.elim, fun _ _ _ _ _ _ _ _ _ z => z.elim⟩
    · intro ρ O σ H' z s' _
      cases eo with
      | none => exact k0 rfl H' (fun a o q => (s'.m.base a o q).1)
      | some es => obtain ⟨p, hp, _⟩ := z; cases hp
    · intro d' O' v H' z m r'
      cases eo with
      | none =>
        replace z : d' = .non := z
        subst z; cases r'
        exact k0 rfl H' (fun a o q => (m.base a o q).1)
      | some es =>
        obtain ⟨p, rfl, rfl⟩ := z
        cases r'
        obtain ⟨ws, h1, h2⟩ := m.mem p _ List.mem_cons_self
        refine kk es rfl p H' ws ?_ (fun a o q => (m.base a o q).1) h1 h2
        cases q : H p with
        | none => rfl
        | some o =>
          have := (m.base p o q).2
          simp [has] at this
section
variable {X : Cx} {B : Gd} {ρ ρ' : List (Option D)} {O O' : Om} {a b c e o : Expr} {es : List Expr} {d : D} {ds : List D} {pos pos' p : Pos} {rest : List Stmt} {x : Str} {k : Nat} {α β : Type} {A : α → AE}
theorem j_outO {ss : List Stmt} {v : Option (List β)} {E : β → D} (h : J X B ss ρ O (aR (rtO E) v)) : J X B ss ρ O { nx := fun _ O' => rtOD (v.map (List.map E)) .non O', rt := fun d' O' => rtOD (v.map (List.map E)) d' O' } := by
  cases v with
  | none => exact h
  | some xs => exact h
/-- an expression that gives a new list or None -/
structure ENO (X : Cx) (B : Gd) (ρ : List (Option D)) (O : Om) (e : Expr) (eo : Option (List D)) : Prop where
  no : eo = none → EV X B ρ O e .non
  so : ∀ es, eo = some es → EN X B ρ O e es
theorem eo_call {Ar : Om → List D → Option (List D) → Prop} {eo : Option (List D)} (c : Cal X.prog X.w X.K X.mg X.base CX0 k x (spO X.K Ar)) (hr : Room k X.A) (hg : Gl X x) (ha : EA X B ρ O (e :: es) ds) (h : Ar (B.L ++ O) ds eo) (hdb : (x == ("__debug__" : Str)) = false := by decide)
    (he : starEach (e :: es) X.env = (false, eval e X.env) :: starEach es X.env := by rfl) (hpl : (backTo pos (starEach es X.env)).any (·.1) = false := by rfl) : ENO X B ρ O (.Call (.Name x p) (e :: es) [] pos) eo := by
  obtain ⟨f, F, hm⟩ := c.ex
  refine ⟨fun q => ?_, fun fs q => ?_⟩
  · subst q
    exact pe_imp (pe_callR (E := E0) F.raw hr hg hm F.kp pass0 ha hdb he hpl) fun σ H Q ⟨st, k⟩ => ⟨st, fun vs H1 e1 r1 => ⟨frF B O, B.L ++ O, ds, none, bor_of (st.same e1).m, by rw [vis_fr]; exact r1, h, fun _ H2 e2 => k .non H2 (e1.trans e2) .non, fun es he => nomatch he⟩⟩
  · subst q
    exact pe_imp (pe_callR (E := E0) F.raw hr hg hm F.kp pass0 ha hdb he hpl) fun σ H Q ⟨st, k⟩ => ⟨st, fun vs H1 e1 r1 => ⟨frF B O, B.L ++ O, ds, some fs, bor_of (st.same e1).m, by rw [vis_fr]; exact r1, h, (fun he => nomatch he), fun es' he p H2 ws hp e2 hv r2 => (by
      cases he
      exact k p H2 ws (e1.free hp) (e1.trans e2) hv (by rw [vis_fr1] at r2; exact r2))⟩⟩
theorem ev_ofO {E : β → D} {v : Option (List β)} (h : ENO X B ρ O e (v.map (List.map E))) : EV X B ρ O e (dO (dL E) v) := by
  cases v with
  | none => exact h.no rfl
  | some xs => exact ev_new (h.so _ rfl)
def Cmp.bndO {β α : Type} (v : Option β) (m0 : Unit → Cmp α) (m1 : β → Cmp α) : Cmp α := match v with
  | none => m0 ()
  | some x => m1 x
theorem jc_setO (i : Nat) {v : Option (List β)} {E : β → D} {m0 : Unit → Cmp α} {m1 : List β → Cmp α} (nd : X.N.Nodup) (he : ENO X B ρ O e (v.map (List.map E))) (h0 : ∀ u, JC X B rest (ρ.set i (some .non)) O A (m0 u))
    (h1 : ∀ q xs, has O q = false → JC X B rest (ρ.set i (some (.rf q))) ((q, .lst (xs.map E)) :: O) A (m1 xs)) (hi : X.N[i]? = some x := by rfl) (hx : Loc X.env.scope x := by first | exact .inl rfl | exact .inr rfl) (hs : swapsWith e (some (.Name x pos')) pos.line X.env = pure false := by rfl)
    (hf : X.fn x = true ∨ X.env.scope.names.lookup x = some .local := by first | exact .inr rfl | exact .inl rfl) : JC X B (.Assign [.Name x pos'] e pos :: rest) ρ O A (.bndO v m0 m1) := fun ok => by
  cases v with
  | none => exact j_cons (sset i nd (he.no rfl) (h0 () ok) hi hx hs hf)
  | some xs => exact j_cons (ssetN i nd (he.so _ rfl) (fun q hq => h1 q xs hq ok) hi hx hs hf)
end
instance {S L R : Type} [Inhabited S] : Inhabited (Ctl S L R) := ⟨.nx default⟩
section
variable {Q : α → Prop}
theorem sat_bndO {v : Option β} {m0 : Unit → Cmp α} {m1 : β → Cmp α} (h0 : v = none → (m0 ()).sat Q) (h1 : ∀ x, v = some x → (m1 x).sat Q) : (Cmp.bndO v m0 m1).sat Q := by
  cases v with
  | none => exact h0 rfl
  | some x => exact h1 x rfl
end
end DL

set_option Elab.async false
set_option linter.all false
set_option maxRecDepth 100000
set_option maxHeartbeats 4000000
namespace DL
open PySem PySem.Spec PyProof.Rows L2
/-! ### f-strings with a width; ints of many digits -/
def lim43 : Nat := 10 ^ 4300
structure NoD (K : PySem.W.Frag) : Prop where
  no : PySem.W.nsIn K cStatics "sys.int_max_str_digits" = some none
theorem NoD.heap {X : Cx} {pins : List (Addr × Obj)} {σ : L2.St} {H : Hp} {s : Shared} (d : NoD X.K) (I : Inv X pins σ H s) : s.heap.NoDigits :=
  let ⟨mc, hns, _⟩ := I.nolimit; ⟨mc, hns, PySem.W.ns_none_of I.kIn hns d.no⟩
section
open PySem.Builtin PySem.Builtin.Str PySem.Builtin.Int
variable {prog : Program} {w : World} {A : Around} {E : Value → Shared → Prop} {s : Shared} {a : Int} {t : Tok}
theorem call_repr_big {Q : Value → Shared → Prop} (hn : s.heap.NoDigits) (hl : a.natAbs < 10 ^ 4300) (h1 : Q (.str (toString a) s.toks) { s with toks := s.toks + 1 }) :
    wpAny (model prog w) A (call (.builtin "int.__repr__") [.int a t]) Q E s := by
  refine wpAny_call_entry F.slot_int_repr (typeIs_int s a t) F.entry_int_repr ?_ (F.args_int_repr_1 _)
  unfold Builtin.«int.__repr__»
  show wpAny _ _ (do let r ← Builtin.overDigitLimit? a; _) _ _ s
  exact wpAny_bind (overDigitLimit_any hn (fun hlt => wpAny_bind (wpAny_mkStr (wpAny_pure ⟨_, rfl, h1⟩) (int_text_fits10 hlt))) (fun hge => absurd hl (Nat.not_lt.mpr hge)))
theorem strOf_big {Q : Value → Shared → Prop} (hn : s.heap.NoDigits) (hl : a.natAbs < 10 ^ 4300) (h1 : Q (.str (toString a) s.toks) { s with toks := s.toks + 1 }) :
    wpAny (model prog w) A (PySem.Builtin.Str.strOf (.int a t)) Q E s := by
  unfold PySem.Builtin.Str.strOf
  rw [show isExactStr (.int a t) = false from rfl]
  try (have hv : [Value.int a t].any Value.onHeap = false := rfl; simp only [cRoomFor, hv, Bool.false_eq_true, if_false, pure_bind])
  refine wpAny_bind (m := callSpecial? (.int a t) (Str.ofString "__str__")) (wpAny_callSpecial?_slot (name := Str.ofString "__str__") (typeIs_int s a t) F.slot_int_str ?_)
  refine wpAny_call_entry F.slot_int_str (typeIs_int s a t) entry_object_str ?_ (args_object_str _)
  unfold Builtin.«object.__str__»
  refine wpAny_bind (m := slotArgs "__str__" 0 _) (wpAny_pure ?_)
  try (have hv : [Value.int a t].any Value.onHeap = false := rfl; simp only [cRoomFor, hv, Bool.false_eq_true, if_false, pure_bind])
  refine wpAny_bind (m := callSpecialIfBound? (.int a t) (Str.ofString "__repr__")) (wpAny_callSpecialIfBound?_slot (name := Str.ofString "__repr__") (typeIs_int s a t) F.slot_int_repr
    (call_repr_big hn hl ?_))
  exact wpAny_pure ⟨_, rfl, wpAny_pure h1⟩
theorem str_of_big {Q : Value → Shared → Prop} (hn : s.heap.NoDigits) (hl : a.natAbs < 10 ^ 4300) (h1 : Q (.str (toString a) s.toks) { s with toks := s.toks + 1 }) :
    wpAny (model prog w) A (call (.type "str") [.int a t]) Q E s :=
  callType_new F.called_str (by decide) (F.typeCall_str_1 _) (F.newCall_str_1 _) (fun obj => F.args_object_init_2 obj _) F.entry_str_new
    (meets_str_new (S := fun A R s => s.heap.NoDigits ∧ R (.ok (.ret (.str (toString a) s.toks))) { s with toks := s.toks + 1 })
      fun _ _ _ _ _ hq => strOf_big hq.1 hl hq.2)
    ⟨hn, typeIs_str _ _ _, h1⟩
end
section
variable {X : Cx} {B : Gd} {ρ : List (Option D)} {O : Om} {e sp : Expr} {es : List Expr} {d : D} {pos p : Pos} {x y z : Str}
theorem call_str_big (d : NoD X.K) : CallR X (.type "str") (fun xs H Q => ∃ i, xs = [.int i] ∧ i.natAbs < lim43 ∧ Q (.str (toString i)) H) := by
  intro pins s σ H xs us Q I r h
  obtain ⟨i, rfl, hz, q⟩ := h
  obtain ⟨u, rfl, t, rfl⟩ := vals1 r
  exact str_of_big (d.heap I) hz ⟨.str _, H, I.tok _, ⟨_, rfl⟩, q⟩
theorem rc_strB {i : Int} {K : PySem.W.Frag} (hz : i.natAbs < lim43) : RC K B O (fun xs H Q => ∃ i, xs = [.int i] ∧ i.natAbs < lim43 ∧ Q (.str (toString i)) H) [.int i] (.str (toString i)) := fun xs H Q m r k => by
  cases r with
  | cons h r => cases r; cases h; exact ⟨i, rfl, hz, k _ H (Same.refl H) (.str _)⟩
/-- {e:sp}, an int -/
theorem ev_fmtI {n : Int} (dd : NoD X.K) (he : EV X B ρ O e (.int n)) (hs : EV X B ρ O sp (.str z)) (hok : intSpecOk z = true) (hz : z.length ≤ sizeLine) (hn : n.natAbs < lim43) : EV X B ρ O (.FormattedValue e (-1) (some sp) pos) (.str (intSpecTextOf z n)) :=
  ⟨fun pins s σ H Q I ⟨st, k⟩ => wpAny_FormattedValue_spec (thn (he.run pins s σ H (fun v H1 => v = .int n ∧ Same H H1) I ⟨st, fun v H1 e1 r1 => by cases r1; exact ⟨rfl, e1⟩⟩) fun v s1 ⟨x, H1, I1, r1, ex, e1⟩ =>
    thn (hs.run pins s1 σ H1 (fun v H2 => v = .str z ∧ Same H1 H2) I1 ⟨st.same e1, fun v H2 e2 r2 => by cases r2; exact ⟨rfl, e2⟩⟩) fun u s2 ⟨y, H2, I2, r2, ey, e2⟩ => by
      subst ex ey
      obtain ⟨t, rfl⟩ := r1
      obtain ⟨t2, rfl⟩ := r2
      exact ⟨z, t2, rfl, formatField_int_specOf (dd.heap I2) hn hok (fun W _ _ => ⟨.str _, H2, I2.tok _, ⟨_, rfl⟩, k _ H2 (e1.trans e2) (.str _)⟩) hz⟩)⟩
/-- .., a text -/
theorem ev_fmtS (g : ∀ t u, Meets (Builtin.«str.__format__» ⟨[.str x t, .str z u], []⟩) (fun _ R s => ∀ t' k, R (.ok (.ret (.str y t'))) { s with toks := k })) (hne : (z.length == 0) = false) (hz : z.length ≤ sizeLine) (he : EV X B ρ O e (.str x)) (hs : EV X B ρ O sp (.str z)) :
    EV X B ρ O (.FormattedValue e (-1) (some sp) pos) (.str y) :=
  ⟨fun pins s σ H Q I ⟨st, k⟩ => wpAny_FormattedValue_spec (thn (he.run pins s σ H (fun v H1 => v = .str x ∧ Same H H1) I ⟨st, fun v H1 e1 r1 => by cases r1; exact ⟨rfl, e1⟩⟩) fun v s1 ⟨x', H1, I1, r1, ex, e1⟩ =>
    thn (hs.run pins s1 σ H1 (fun v H2 => v = .str z ∧ Same H1 H2) I1 ⟨st.same e1, fun v H2 e2 r2 => by cases r2; exact ⟨rfl, e2⟩⟩) fun u s2 ⟨y', H2, I2, r2, ey, e2⟩ => by
      subst ex ey
      obtain ⟨t, rfl⟩ := r1
      obtain ⟨t2, rfl⟩ := r2
      exact ⟨z, t2, rfl, PySem.W.KXf.field_str rfl rfl hne hz (g t) fun t' k' => ⟨.str y, H2, I2.tok _, ⟨t', rfl⟩, k _ H2 (e1.trans e2) (.str _)⟩⟩)⟩
def catS (ys : List Str) : Str := ys.foldl (· ++ ·) Str.empty
/-- the parts of an f-string -/
def EJ (X : Cx) (B : Gd) (ρ : List (Option D)) (O : Om) (es : List Expr) (ys : List Str) : Prop := ∃ ts, PJ X es ts ∧ ∀ (acc : Str) σ H (Q : Str → Hp → Prop), StOk X.K B ρ O σ H → acc.length + (ys.map (·.length)).sum ≤ sizeLine → (∀ H', Same H H' → Q (ys.foldl (· ++ ·) acc) H') → tJs ts acc σ H Q
theorem ej_nil : EJ X B ρ O [] [] := ⟨[], .nil, fun acc σ H Q _ _ k => k H (Same.refl H)⟩
theorem ej_cons {ys : List Str} (he : EV X B ρ O e (.str y)) (r : EJ X B ρ O es ys) : EJ X B ρ O (e :: es) (y :: ys) := by
  obtain ⟨ts, pj, h⟩ := r
  refine ⟨_ :: ts, .cons he pj, fun acc σ H Q st hz k => ⟨st, fun v H1 e1 r1 => ?_⟩⟩
  cases r1
  simp only [List.map_cons, List.sum_cons] at hz
  have hl : (acc ++ y).length = acc.length + y.length := by show (acc.cps ++ y.cps).size = _; exact Array.size_append
  exact ⟨y, rfl, by rw [hl]; omega, h (acc ++ y) σ H1 Q (st.same e1) (by rw [hl]; omega) fun H2 e2 => k H2 (e1.trans e2)⟩
theorem ev_joined {v1 v2 : Expr} {rest : List Expr} {ys : List Str} (h : EJ X B ρ O (v1 :: v2 :: rest) ys) (hz : (ys.map (·.length)).sum ≤ sizeLine) : EV X B ρ O (.JoinedStr (v1 :: v2 :: rest) pos) (.str (catS ys)) := by
  obtain ⟨ts, pj, h⟩ := h
  exact pe_imp (pe_joined pj) fun σ H Q ⟨st, k⟩ => h Str.empty σ H _ st (by show 0 + _ ≤ _; omega) fun H1 e1 => k _ H1 e1 (.str _)
theorem ev_joined1 (he : EV X B ρ O e d) : EV X B ρ O (.JoinedStr [e] pos) d := pe_joined1 he
end
section
open PySem.W
theorem fmt_a : ∀ t u, Meets (Builtin.«str.__format__» ⟨[.str (Str.ofString "a") t, .str (Str.ofString ">8") u], []⟩) (fun _ R s => ∀ t' k, R (.ok (.ret (.str (Str.ofString "       a") t'))) { s with toks := k }) := by
  intro t; kxf_run_s
theorem fmt_b : ∀ t u, Meets (Builtin.«str.__format__» ⟨[.str (Str.ofString "b") t, .str (Str.ofString ">8") u], []⟩) (fun _ R s => ∀ t' k, R (.ok (.ret (.str (Str.ofString "       b") t'))) { s with toks := k }) := by
  intro t; kxf_run_s
theorem fmt_c : ∀ t u, Meets (Builtin.«str.__format__» ⟨[.str (Str.ofString "c") t, .str (Str.ofString ">8") u], []⟩) (fun _ R s => ∀ t' k, R (.ok (.ret (.str (Str.ofString "       c") t'))) { s with toks := k }) := by
  intro t; kxf_run_s
end
end DL

set_option Elab.async false
set_option linter.all false
set_option maxRecDepth 100000
set_option maxHeartbeats 4000000
namespace DL
open PySem PySem.Spec PyProof.Rows L2
/-! ### def __init__(self, *names) -/
section
variable {P : Program} {w : World} {K : PySem.W.Frag} {mg : Str → Option Value} {base : Heap}
theorem body_initX {C0 : Addr} {Ar : Om → List D → OutI → Prop} {qual : Str} {st : Stmt} {f : Addr} {N : List Str} {k : Nat}
    (h : ∀ (cdv : Value) (A : Around) (outer : List Env) (s : Shared) (H : Hp) (E : XK) (B : Gd) (x : Addr) (ds : List D) (out : OutI), Room k (A.deeper (envOfC qual (defScope st) s.heap.objs.size f cdv)) → Takes (cxOf (L2.CX P w) P w K mg base N qual (defScope st) f cdv A outer s H E) B.W →
      PassesOwn (model P w) (cxOf (L2.CX P w) P w K mg base N qual (defScope st) f cdv A outer s H E).A (cxOf (L2.CX P w) P w K mg base N qual (defScope st) f cdv A outer s H E).env (cxOf (L2.CX P w) P w K mg base N qual (defScope st) f cdv A outer s H E).xe → Ar B.L ds out →
      J (cxOf (L2.CX P w) P w K mg base N qual (defScope st) f cdv A outer s H E) B (defBody st) (startD N (.rf x :: ds)) [(x, .ins C0 [] [])] (match out with
        | .val ns fs => { nx := fun _ O' => ∃ fs' O1, O' = O1 ++ [(x, .ins C0 ns fs')] ∧ FrzL O1 fs' fs, rt := fun _ _ => False }
        | .exn C n d => aX C n d)) (cdv : Value) (A : Around) (outer : List Env) (s : Shared) (H : Hp) (vs : List V) (Q : VK) (E : XK) (hr : Room k (A.deeper (envOfC qual (defScope st) s.heap.objs.size f cdv))) (q : spXI K C0 Ar vs H Q E) :
    ∃ t, PSs (cxOf (L2.CX P w) P w K mg base N qual (defScope st) f cdv A outer s H E) (defBody st) t ∧ t { nx := fun _ H' => Q .non H', rt := Q } (start N vs) H := by
  obtain ⟨F', L, x, dx, us, ds, out, rfl, bo, fx, hx, r, ha, kk⟩ := q
  let Hb : Hp := fun a => if a = x then none else H a
  have hbx : ∀ a o, Hb a = some o → a ≠ x ∧ H a = some o := fun a o e => by
    have e' : (if a = x then none else H a) = some o := e
    by_cases q : a = x
    · rw [if_pos q] at e'; cases e'
    · rw [if_neg q] at e'; exact ⟨q, e'⟩
  have hF' : ∀ a, F' a = true → ∃ o, Hb a = some o := fun a h => by
    obtain ⟨o, e⟩ := bo.ok a h
    have ne : a ≠ x := fun z => by rw [z, fx] at h; cases h
    exact ⟨o, by show (if a = x then none else H a) = _; rw [if_neg ne]; exact e⟩
  have hS : ∀ {ρ O σ H'}, StOk K ⟨F', Hb, fun c d _ H => E c d H, L, hF', bo.lF⟩ ρ O σ H' → ∀ a o, a ≠ x → H a = some o → H' a = some o := fun s' a o na q => (s'.m.base a o (by show (if a = x then none else H a) = _; rw [if_neg na]; exact q)).1
  refine ⟨_, h cdv A outer s H E ⟨F', Hb, fun c d _ H => E c d H, L, hF', bo.lF⟩ x ds out hr (takes_of rfl rfl rfl rfl) (passes_of rfl) ha, ⟨⟨fun a o e => ?_, fun a m hm => ?_, by simp, bo.lent⟩, start_env (.cons (.rf x) r)⟩, ?_⟩
  · obtain ⟨n, e⟩ := hbx a o e
    refine ⟨e, ?_⟩
    show (x == a || false) = false
    rw [Bool.or_false]
    exact beq_eq_false_iff_ne.mpr (Ne.symm n)
  · cases List.mem_singleton.mp hm
    exact ⟨dx, [], hx, rfl, .nil⟩
  · cases out with
    | exn C n d =>
      refine ⟨fun _ _ _ _ z => z.elim, fun _ _ _ _ z => z.elim, fun _ _ _ _ z => z.elim, fun _ _ _ _ z => z.elim, ?_⟩
      rintro C' n' d' ρ O σ H' ex v ⟨rfl, rfl, rfl⟩ s' _ hex _ r'
      exact kk.2 ex v H' (hS s') hex (flat_rp kk.1 r')
    | val ns fs =>
      refine ⟨?_, fun _ _ _ _ z => z.elim, fun _ _ _ _ z => z.elim, fun _ _ _ _ z => z.elim, fun _ _ _ _ _ _ _ _ _ z => z.elim⟩
      rintro ρ O' σ H' ⟨fs', O1, rfl, fz⟩ s' _
      obtain ⟨dx', fv, h1, h2, h3⟩ := s'.m.mem x _ (List.mem_append_right _ List.mem_cons_self)
      have nd := s'.m.nd
      rw [List.map_append, List.nodup_append] at nd
      have nx : ∀ p m, (p, m) ∈ O1 → p ≠ x := fun p m hp => nd.2.2 p (List.mem_map_of_mem (f := (·.1)) hp) x (by simp)
      have e1 : Same (vis F' (O1 ++ [(x, .ins C0 ns fs')]) H') (vis F' [(x, .ins C0 [] [])] H') := fun a o q => by
        obtain ⟨q1, q2, q3⟩ := vis_some.mp q
        refine vis_some.mpr ⟨q1, ?_, q3⟩
        unfold has at q2 ⊢
        rw [List.any_append, Bool.or_eq_false_iff] at q2
        exact q2.2
      refine kk H' dx' fv (hS s') h1 h2 (RpL.frz e1 (fun p m hp => ?_) fz h3)
      refine (s'.m.mem p m (List.mem_append_left _ hp)).mono (Same.refl _) fun o q => ?_
      have q' := s'.m.visM (has_mem.mpr ⟨m, List.mem_append_left _ hp⟩) q
      obtain ⟨g1, _, g3⟩ := vis_some.mp q'
      refine vis_some.mpr ⟨g1, ?_, g3⟩
      show (x == p || false) = false
      rw [Bool.or_false]
      exact beq_eq_false_iff_ne.mpr (Ne.symm (nx p m hp))
/-- a promise of def __init__(self, *names), told of the names -/
theorem star_init {C0 : Addr} {Ar : Om → List D → OutI → Prop} {x qual pv : Str} {st : Stmt} {f : Addr} {fd : FuncData} {N : List Str} {k : Nat} (F : Fun K x qual st f fd) (S : FnScope N ["self", pv] (defScope st))
    (hb : ∀ us rest : List Value, us.length = ["self"].length → bindArgs fd ⟨us ++ rest, []⟩ = (newTuple rest >>= fun t => pure ((["self"] : List Str).zip us ++ [(pv, t)])))
    (h : ∀ (cdv : Value) (A : Around) (outer : List Env) (s : Shared) (H : Hp) (vs : List V) (Q : VK) (E : XK), Room k (A.deeper (envOfC qual (defScope st) s.heap.objs.size f cdv)) → spXI K C0 Ar vs H Q E →
      ∃ t, PSs (cxOf (L2.CX P w) P w K mg base N qual (defScope st) f cdv A outer s H E) (defBody st) t ∧ t { nx := fun _ H' => Q .non H', rt := Q } (start N vs) H) :
    FnR P w K mg base (L2.CX P w) (k + 1) f (spXI K C0 fun L es out => es.length ≤ sizeLine ∧ Ar L [.tup es] out) := by
  obtain ⟨oc, od, kV, doc, pm, an, cdv, ct, osl, rfl, lk, hcd⟩ := F.ex
  refine (StX.fn_star (ps := ["self"]) lk hcd S StX.cxUp hb (h cdv)).imp fun vs H Q E ⟨F', L, x, dx, us, es, out, ev, bo, fx, hx, r, ha, kk⟩ => ?_
  subst ev
  refine ⟨[.ref x], us, rfl, rfl, by rw [r.length]; exact ha.1, fun p hp => ?_⟩
  have fp : F' p = false := by
    cases q : F' p with
    | false => rfl
    | true => obtain ⟨o, e⟩ := bo.ok p q; rw [hp] at e; cases e
  have px : p ≠ x := fun z => by rw [z, hx] at hp; cases hp
  have s1 : Same H (upd H p (.tup us)) := same_new hp
  have hv : vis F' [(x, M.ins C0 [] [])] (upd H p (.tup us)) p = some (.tup us) := vis_some.mpr ⟨fp, by
    show (x == p || false) = false
    rw [Bool.or_false]; exact beq_eq_false_iff_ne.mpr (Ne.symm px), upd_same⟩
  refine ⟨F', L, x, dx, [.ref p], [.tup es], out, rfl, ⟨fun a q => ?_, bo.lF, fun a m q => (bo.lent a m q).mono (vis_same s1) fun o e => s1 _ _ e⟩, fx, s1 _ _ hx, .cons (.tup (.inl (.inl hv)) (r.mono (vis_same s1))) .nil, ha.2, ?_⟩
  · obtain ⟨o, e⟩ := bo.ok a q
    exact ⟨o, s1 _ _ e⟩
  · cases out with
    | val ns fs => exact fun H' dx' fv g1 g2 g3 g4 => kk H' dx' fv (fun a o na e => g1 a o na (s1 _ _ e)) g2 g3 g4
    | exn C n d => exact ⟨kk.1, fun ex v H' g1 g2 g3 => kk.2 ex v H' (fun a o na e => g1 a o na (s1 _ _ e)) g2 g3⟩
theorem calm_fnR {k : Nat} {f : Addr} {sp : Sp} (F : FnR P w K mg base (L2.CX P w) k f sp) (h : ∀ vs H Q E E', sp vs H Q E → sp vs H Q E') : FnR P w K mg base CX0 k f sp :=
  fun A outer s H us vs Q E hr e0 r hs => codeAny_mono (F A outer s H us vs Q E0 hr e0 r (h _ _ _ _ _ hs)) fun r s' q => by
    cases r with
    | ok fl =>
      cases fl with
      | ret u => exact q
      | next => exact q
      | brk => exact q
      | cont => exact q
    | error e =>
      obtain ⟨_, _, _, _, _, _, _, _, _, _, _, _, z⟩ := q
      exact z.elim
theorem starI {k : Nat} {f C0 : Addr} {Ar : Om → List D → OutI → Prop} (F : FnR P w K mg base (L2.CX P w) k f (spXI K C0 Ar)) : FnR P w K mg base CX0 k f (spI K C0 fun L ds ns fs => Ar L ds (.val ns fs)) :=
  calm_fnR (F.imp fun vs H Q E ⟨F', L, x, dx, us, ds, ns, fs, a, b, c, e, g, h, i⟩ => ⟨F', L, x, dx, us, ds, .val ns fs, a, b, c, e, g, h, i⟩) fun _ _ _ _ _ z => z
theorem starR {k : Nat} {f C0 C : Addr} {n : Str} {Ar : Om → List D → OutI → Prop} (F : FnR P w K mg base (L2.CX P w) k f (spXI K C0 Ar)) : FnR P w K mg base (L2.CX P w) k f (spRI K C0 C n fun L ds d => Ar L ds (.exn C n d) ∧ FlatD d) :=
  F.imp fun vs H Q E ⟨F', L, x, dx, us, ds, d, a, b, c, e, g, h, i⟩ => ⟨F', L, x, dx, us, ds, .exn C n d, a, b, c, e, g, h.1, h.2, i⟩
end
section
variable {X : Cx} {B : Gd} {ρ : List (Option D)} {O : Om} {d : D} {C C0 f : Addr} {ds fs : List D} {k : Nat} {n x : Str} {e : Expr} {es : List Expr} {ns : List Str} {pos p : Pos}
/-- C(a, ..), by a star init -/
theorem ev_makeS {Ar : Om → List D → List Str → List D → Prop} (Mk : Mk X.K C f) (F : FnR X.prog X.w X.K X.mg X.base CX0 k f (spI X.K C Ar)) (hr : Room (k + 1) X.A) (hg : Gl X x) (hm : X.mg x = some (.ref C)) (ha : EA X B ρ O (e :: es) ds) (h : Ar (B.L ++ O) ds ns fs) (hdb : (x == ("__debug__" : Str)) = false := by decide)
    (he : starEach (e :: es) X.env = (false, eval e X.env) :: starEach es X.env := by rfl) (hpl : (backTo pos (starEach es X.env)).any (·.1) = false := by rfl) : EV X B ρ O (.Call (.Name x p) (e :: es) [] pos) (.obj C ns fs) :=
  pe_imp (StX.pe_makeR (E := E0) Mk F hr hg hm pass0 ha hdb he hpl) fun σ H Q ⟨st, k⟩ => ⟨st, fun vs H1 e1 r1 y dy hy hdy ne => made_use (st.same e1).m r1 h (fun v H2 e2 r2 => k v H2 (e1.trans e2) r2) y dy hy hdy ne⟩
theorem er_makeS {Ar : Om → List D → D → Prop} (Mk : Mk X.K C0 f) (F : FnR X.prog X.w X.K X.mg X.base (L2.CX X.prog X.w) k f (spRI X.K C0 C n Ar)) (hr : Room (k + 1) X.A) (tk : Takes X B.W) (hg : Gl X x) (hm : X.mg x = some (.ref C0)) (ha : EA X B ρ O (e :: es) ds) (h : Ar (B.L ++ O) ds d) (hdb : (x == ("__debug__" : Str)) = false := by decide)
    (he : starEach (e :: es) X.env = (false, eval e X.env) :: starEach es X.env := by rfl) (hpl : (backTo pos (starEach es X.env)).any (·.1) = false := by rfl) : ER X B ρ O (.Call (.Name x p) (e :: es) [] pos) C n d :=
  pe_imp (pe_makeRS (E := WE B.W) Mk F hr hg hm (fun σ => passAt tk σ) ha hdb he hpl) fun σ H Q ⟨st, k⟩ => ⟨st, fun vs H1 e1 r1 y dy hy hdy ne => madeR_use (st.same e1).m r1 h (fun dx v H2 e2 hx r2 => k dx v H2 (e1.trans e2) hx r2) y dy hy hdy ne⟩
/-- C(), by a star init -/
theorem ev_makeS0 {Ar : Om → List D → List Str → List D → Prop} (Mk : Mk X.K C f) (F : FnR X.prog X.w X.K X.mg X.base CX0 k f (spI X.K C Ar)) (hr : Room (k + 1) X.A) (hg : Gl X x) (hm : X.mg x = some (.ref C)) (h : Ar (B.L ++ O) [] ns fs) (hdb : (x == ("__debug__" : Str)) = false := by decide) :
    EV X B ρ O (.Call (.Name x p) [] [] pos) (.obj C ns fs) :=
  ⟨fun pins s σ H Q I ⟨st, k⟩ => by
    refine wpAny_Call_Name_kw (ld_glob I hg hm ?_ hdb)
    refine PySem.W.callWith_K0 I.kIn Mk.kp (StX.run_makeR (us := []) (vs := []) Mk F hr pass0 I .nil fun y dy hy hdy ne => ?_)
    exact made_use st.m .nil h (fun v H2 e2 r2 => k v H2 e2 r2) y dy hy hdy ne⟩
theorem er_makeS0 {Ar : Om → List D → D → Prop} (Mk : Mk X.K C0 f) (F : FnR X.prog X.w X.K X.mg X.base (L2.CX X.prog X.w) k f (spRI X.K C0 C n Ar)) (hr : Room (k + 1) X.A) (tk : Takes X B.W) (hg : Gl X x) (hm : X.mg x = some (.ref C0)) (h : Ar (B.L ++ O) [] d) (hdb : (x == ("__debug__" : Str)) = false := by decide) :
    ER X B ρ O (.Call (.Name x p) [] [] pos) C n d :=
  ⟨fun pins s σ H Q I ⟨st, k⟩ => by
    refine wpAny_Call_Name_kw (ld_glob I hg hm ?_ hdb)
    refine PySem.W.callWith_K0 I.kIn Mk.kp (run_makeRS (us := []) (vs := []) Mk F hr (passAt tk σ) I .nil ?_)
    exact fun y dy hy hdy ne => madeR_use st.m .nil h (fun dx v H2 e2 hx r2 => k dx v H2 e2 hx r2) y dy hy hdy ne⟩
end
/-! ### errors whose field is a text -/
section
variable {X : Cx} {B : Gd} {ρ : List (Option D)} {O : Om} {rest : List Stmt}
def onErrS {R : Type} [Inhabited R] (i : Nat) (er : Exn) (f : Str → Cmp R) : Cmp R := if er.c = i then (match er.d with | .str z => f z | _ => .bad) else .bad
theorem onErrS_ok {R : Type} [Inhabited R] {i : Nat} {er : Exn} {f : Str → Cmp R} (h : (onErrS i er f).ok) : ∃ z, er = ⟨i, .str z⟩ ∧ (f z).ok ∧ onErrS i er f = f z := by
  obtain ⟨c, d⟩ := er
  unfold onErrS at h
  by_cases hc : c = i
  · subst hc
    simp only [if_true] at h
    cases d with
    | str z => exact ⟨z, rfl, h, by unfold onErrS; simp⟩
    | _ => exact h.elim
  · simp only [hc, if_false] at h
    exact h.elim
theorem jc_onErrS {R : Type} [Inhabited R] {A : R → AE} {er : Exn} {f : Str → Cmp R} {j : Nat} (h : ∀ z, er = ⟨j, .str z⟩ → JC X B rest ρ O A (f z)) : JC X B rest ρ O A (onErrS j er f) := fun ok => by
  obtain ⟨z, e, o, q⟩ := onErrS_ok ok
  rw [q]; exact h z e o
end
/-! ### written tuples of texts -/
def KTupS (K : PySem.W.Frag) (a : Addr) (xs : List Str) : Prop := ∃ (o : Obj) (its : Array Value) (n : Nat), K.lookup a = some o ∧ o.cls = .type "tuple" ∧ o.data = .seq its n ∧ its.size ≤ sizeLine ∧ Vals (xs.map V.str) its.toList
theorem rp_ktup {K : PySem.W.Frag} {H : Hp} {a : Addr} {xs : List Str} (h : KTupS K a xs) : Rp K H (.ref a) (dU D.str xs) := .tup (.inr h) (RpL.ofStrs xs)
end DL

set_option Elab.async false
set_option linter.all false
set_option maxRecDepth 100000
set_option maxHeartbeats 4000000
namespace DL
open PySem PySem.Spec PyProof.Rows L2
/-! ### super().__init__(e) ahead of a def's body -/
/-- what super() finds for an instance of C within a method of D0 -/
structure SupC (P : Program) (K : PySem.W.Frag) (mg : Str → Option Value) (C D0 f2 : Addr) : Prop where
  clC : ∃ cd, PySem.W.clsIn K C = some cd
  clD : ∃ cd, PySem.W.clsIn K D0 = some cd
  sub : PySem.W.mroIn K C (.ref D0) = some true
  sup : PySem.W.ks_superIn K C D0 "__init__" = some (some (.ref f2))
  fn : PySem.W.typeIn K (.ref f2) = some (.type "function")
  fi : PySem.W.fnIn K f2 = true
  stat : PySem.W.nsIn K cStatics "thirdparty.any" = some none
  gS : mg "super" = none
  top : (P.main.scope.names.lookup ("super" : Str)).isSome = false
/-- a def that keeps its class in a cell -/
structure FunS (P : Program) (K : PySem.W.Frag) (x qual : Str) (st : Stmt) (f : Addr) (fd : FuncData) (D0 cc cda : Addr) : Prop where
  ex : ∃ (oc : Value) (od : Option Addr) (kV doc pm : Value) (an : Option Addr) (ct : Value) (osl : Array (Option Value)) (ccl cl : Value) (cdd cld : Option Addr) (ccs csl : Array (Option Value)) (fs : Array Value) (file : Str) (tf : Tok),
    fd = PySem.W.fnX x qual (defArgs st) (defBody st) (defScope st) [("__class__", cc)] .none kV doc pm an (.ref cda) ct ∧ K.lookup f = some ⟨oc, od, .func fd, osl⟩ ∧ PySem.W.codeIn K (.ref cda) qual = true ∧
    K.lookup cda = some ⟨ccl, cdd, .fields fs, ccs⟩ ∧ fs[2]? = some (.str file tf) ∧ ((P.main.file : Str) == file) = true ∧ K.lookup cc = some ⟨cl, cld, .cell (some (.ref D0)), csl⟩
  kp : PySem.W.keepIn K (.ref f) = true
structure ScopeS (N P : List Str) (sc : Scope) : Prop where
  kind : sc.kind = .function
  co : sc.isCoroutine = false
  gen : sc.isGenerator = false
  nd : N.Nodup
  pre : N.take P.length = P
  par : ∀ x ∈ P, sc.names.lookup x = some .local
  nocell : ∀ y ∈ sc.names, y.2 ≠ .cell
  free : ∀ y ∈ sc.names, y.2 = .free → y.1 = ("__class__" : Str)
  lkS : sc.names.lookup ("super" : Str) = some .globalImplicit
  lkC : sc.names.lookup ("__class__" : Str) = some .free
abbrev envS (qual : Str) (sc : Scope) (L f : Addr) (cda cc : Addr) : Env := PySem.W.envX qual sc L f (.ref cda) [("__class__", cc)]
def cxOfS (CX : CXT) (P : Program) (w : World) (K : PySem.W.Frag) (mg : Str → Option Value) (base : Heap) (N : List Str) (qual : Str) (scope : Scope) (f cda cc : Addr) (A : Around) (outer : List Env) (s : Shared) (H : Hp) (E : XK) : Cx where
  prog := P
  w := w
  K := K
  mg := mg
  base := base
  A := A.deeper (envS qual scope s.heap.objs.size f cda cc)
  N := N
  s_0 := s
  H_0 := H
  env := envS qual scope s.heap.objs.size f cda cc
  outer := outer
  stack := envS qual scope s.heap.objs.size f cda cc :: outer
  ex := []
  calm := true
  fn := fun _ => false
  pn := []
  xe := fun e s' => wpAny (model P w) (A.deeper (envS qual scope s.heap.objs.size f cda cc)) (leaving (envS qual scope s.heap.objs.size f cda cc) e) (fun _ s'' => CX outer H s E e s'') (fun e' s'' => CX outer H s E e' s'') s'
theorem lookup_zip {x : Str} {v : Value} : ∀ {ps : List Str} {us : List Value} {i : Nat}, ps.Nodup → ps[i]? = some x → us[i]? = some v → (ps.zip us).reverse.lookup x = some v := by
  intro ps us i nd h1 h2
  have key : ∀ (l : List (Str × Value)), (l.map (·.1)).Nodup → (x, v) ∈ l → l.lookup x = some v := by
    intro l
    induction l with
    | nil => intro _ h; cases h
    | cons q l ih =>
      intro nd h
      rw [List.map_cons, List.nodup_cons] at nd
      rcases List.mem_cons.mp h with e | e
      · subst e; simp [List.lookup]
      · obtain ⟨k, u⟩ := q
        have ne : (x == k) = false := beq_eq_false_iff_ne.mpr fun z => nd.1 (by subst z; exact List.mem_map_of_mem (f := (·.1)) e)
        rw [List.lookup_cons, ne]
        exact ih nd.2 e
  refine key _ ?_ ?_
  · rw [List.map_reverse]
    refine List.pairwise_reverse.mpr (List.Pairwise.imp (fun h => Ne.symm h) (?_ : ((ps.zip us).map (·.1)).Nodup))
    have : ∀ (ps : List Str) (us : List Value), ps.Nodup → ((ps.zip us).map (·.1)).Nodup := by
      intro ps
      induction ps with
      | nil => intro us _; simp
      | cons p ps ih =>
        intro us nd
        cases us with
        | nil => simp
        | cons u us =>
          rw [List.nodup_cons] at nd
          rw [List.zip_cons_cons, List.map_cons, List.nodup_cons]
          refine ⟨fun z => nd.1 ?_, ih us nd.2⟩
          obtain ⟨⟨a, b⟩, h, e⟩ := List.mem_map.mp z
          have e' : a = p := e
          subst e'
          exact (List.of_mem_zip h).1
    exact this ps us nd
  · rw [List.mem_reverse]
    have : (ps.zip us)[i]? = some (x, v) := by
      rw [List.getElem?_zip_eq_some]; exact ⟨h1, h2⟩
    exact List.mem_of_getElem? this
theorem inv_startS {CX : CXT} {P : Program} {w : World} {K : PySem.W.Frag} {mg : Str → Option Value} {base : Heap} {N ps : List Str} {qual : Str} {scope : Scope} {f cda cc : Addr} {A : Around} {outer : List Env} {s : Shared} {h1 : Heap} {tk : Nat} {H : Hp} {E : XK} {us : List Value} {vs : List V} {cl : Value} {cld : Option Addr} {cv : Option Value} {csl : Array (Option Value)}
    (S : ScopeS N ps scope) (hd : A.handled = none) (e0 : Env0 P w K mg base A outer s H) (hl : vs.length = ps.length) (r : Vals vs us) (hcc : K.lookup cc = some ⟨cl, cld, .cell cv, csl⟩)
    (hns : h1.Ns s.heap.objs.size (fun x => (ps.zip us).reverse.lookup x)) (hk : ∀ b o, s.heap.get? b = some o → h1.get? b = some o) :
    Inv (cxOfS CX P w K mg base N qual scope f cda cc A outer s H E) [] (start N vs) H { s with heap := h1, toks := tk } := by
  have hpl : ps.length ≤ N.length := by have := congrArg List.length S.pre; rw [List.length_take] at this; omega
  have noA : ∀ b : Addr, b ∉ (cxOfS CX P w K mg base N qual scope f cda cc A outer s H E).ex := fun b z => absurd (show b ∈ ([] : List Addr) from z) (by simp)
  have cell1 : ∀ y c, (cxOfS CX P w K mg base N qual scope f cda cc A outer s H E).env.cells.lookup y = some c → y = ("__class__" : Str) ∧ c = cc := fun y c h => by
    have h' : List.lookup y [(("__class__" : Str), cc)] = some c := h
    rw [List.lookup_cons] at h'
    by_cases q : y = ("__class__" : Str)
    · subst q; rw [beq_self_eq_true] at h'; cases h'; exact ⟨rfl, rfl⟩
    · rw [beq_eq_false_iff_ne.mpr q] at h'; cases h'
  have hccb : base.get? cc = some ⟨cl, cld, .cell cv, csl⟩ := e0.mod.kin _ _ hcc
  refine ⟨⟨e0.mod, S.kind, rfl, rfl, Nat.le_refl _, fun y z c h1 h2 => ?_, fun y hy => ?_, fun y c h _ => (by cases h), fun _ => hd, Around.frames_deeper e0.frames, .inr ⟨rfl, rfl⟩, fun b z => absurd z (noA b), e0.bs, e0.bsz, fun b _ _ => noA b, fun b z => absurd z (noA b), e0.funs, e0.frf⟩,
    rfl, e0.bare, Un.kept hk, ⟨_, hns, fun i y v h1 h2 h3 => ?_⟩, fun y c h => ?_, e0.hok.fresh (Nat.le_refl _), fun y c h => ?_, fun p hp => absurd (show p ∈ ([] : List (Addr × Obj)) from hp) (by simp), e0.hok.kept hk, ?_⟩
  · rw [(cell1 _ _ h1).1, (cell1 _ _ h2).1]
  · have hy : scope.names.lookup y = some .cell ∨ scope.names.lookup y = some .free := hy
    rcases hy with hy | hy
    · exact absurd rfl (S.nocell _ (PySem.mem_of_lookup hy))
    · have := S.free _ (PySem.mem_of_lookup hy) rfl
      have e : y = ("__class__" : Str) := this
      subst e
      exact ⟨cc, rfl⟩
  · have hi : i < vs.length := by
      unfold L2.start at h2
      by_cases hi : i < vs.length
      · exact hi
      · rw [List.getElem?_append_right (by simpa using hi)] at h2
        rw [List.getElem?_replicate] at h2
        split at h2 <;> cases h2
    have ha : vs[i]? = some v := by
      unfold L2.start at h2
      rw [List.getElem?_append_left (by simpa using hi), List.getElem?_map] at h2
      cases e : vs[i]? with
      | none => rw [e] at h2; cases h2
      | some a => rw [e] at h2; cases h2; rfl
    obtain ⟨u, hu, rv⟩ := r.get ha
    have hp : ps[i]? = some y := by
      rw [← S.pre, List.getElem?_take_of_lt (by omega)]; exact h1
    have ndP : ps.Nodup := by rw [← S.pre]; exact S.nd.sublist (List.take_sublist _ _)
    exact ⟨u, rv, .inl ⟨S.par y (List.mem_of_getElem? hp), lookup_zip ndP hp hu⟩⟩
  · obtain ⟨e1, e2⟩ := cell1 _ _ h
    subst e2
    exact ⟨cv, _, hk _ _ (e0.bs _ _ hccb).1, rfl⟩
  · obtain ⟨e1, e2⟩ := cell1 _ _ h
    subst e2
    exact (e0.bs _ _ hccb).2
  · unfold L2.start
    show _ = N.length
    rw [List.length_append, List.length_map, List.length_replicate]
    omega
end DL
namespace DL
open PySem PySem.Spec PyProof.Rows L2 PySem.W PySem.Calls
theorem run_super {X : Cx} {CX : CXT} {pins : List (Addr × Obj)} {σ : L2.St} {H : Hp} {s : Shared} {k : Nat} {C D0 f2 f cda cc x dx L : Addr} {fv : List (Str × V)} {qual nm : Str} {st : Stmt} {fd : FuncData} {e : Expr} {q1 q2 q3 q5 q6 : Pos} {ar : Arg} {body : List Stmt} {ta : TA} {sp : Sp} {E : XK} {Qd : VK}
    (I : Inv X pins σ H s) (hE : X.env = envS qual (defScope st) L f cda cc) (U : SupC X.prog X.K X.mg C D0 f2) (F : FunS X.prog X.K nm qual st f fd D0 cc cda) (F2 : FnR X.prog X.w X.K X.mg X.base CX k f2 sp) (hr : Room k X.A) (hx : Passes CX X E)
    (lkS : (defScope st).names.lookup ("super" : Str) = some .globalImplicit) (lkC : (defScope st).names.lookup ("__class__" : Str) = some .free) (har : ((defArgs st).posonlyargs ++ (defArgs st).args).head? = some ar) (hse : ar.arg = ("self" : Str)) (lkF : (defScope st).names.lookup ("self" : Str) = some .local) (hkind : (defScope st).kind = .function)
    (h0 : X.N[0]? = some ("self" : Str)) (hσ : σ[0]? = some (some (.ref x))) (ho : H x = some (.ins C dx fv)) (ha : PA X [e] ta)
    (hpl : PySem.ErX.PlainM (.Call (.Name "super" q1) [] [] q2) "__init__" q3 q5 [e]) (hi : interactive X.env = false) (hs : swapsWith (.Call (.Attribute (.Call (.Name "super" q1) [] [] q2) "__init__" q3) [e] [] q5) none q6.line X.env = pure false) (hst : starEach [e] X.env = (false, eval e X.env) :: starEach [] X.env) (hplain : (backTo q5 (starEach [] X.env)).any (·.1) = false)
    (hq : ta σ H fun vs H1 => sp (.ref x :: vs) H1 Qd E) :
    _root_.PySem.wpAt (model X.prog X.w) X.A (.func body X.env) (exec (.Expr (.Call (.Attribute (.Call (.Name "super" q1) [] [] q2) "__init__" q3) [e] [] q5) q6) X.env) (fun fl s' => fl = .next ∧ ∃ v H', Inv X pins σ H' s' ∧ Qd v H') X.xe s := by
  obtain ⟨oc, od, kV, doc, pm, an, ct, osl, ccl, cl, cdd, cld, ccs, csl, fs, file, tf, rfl, lk, hcd, hcda, hfs, hfile, hcell⟩ := F.ex
  obtain ⟨cd, hC⟩ := U.clC
  obtain ⟨cdD, hD⟩ := U.clD
  obtain ⟨pl, hpl⟩ := hpl
  obtain ⟨mA, O, _, _, _, _⟩ := ins_get I.hok ho
  obtain ⟨od2, J, _⟩ := O.look
  have KX : X.K.In s.heap := I.kIn
  obtain ⟨oD, hD1, hD2⟩ : ∃ oD, s.heap.get? D0 = some oD ∧ oD.data = .cls cdD := by
    unfold clsIn at hD
    split at hD
    · rename_i c d cd' sl ho
      cases hD
      exact ⟨_, KX _ _ ho, rfl⟩
    · cases hD
  have hE1 : X.env.func = some f := by rw [hE]
  have hE2 : X.env.code = .ref cda := by rw [hE]
  have hE3 : X.env.cells.lookup ("__class__" : Str) = some cc := by rw [hE]; rfl
  have hE4 : X.env.kindOf ("super" : Str) = some .globalImplicit := by rw [hE]; exact lkS
  have hE5 : X.env.kindOf ("__class__" : Str) = some .free := by rw [hE]; exact lkC
  have hE6 : X.env.kindOf ("self" : Str) = some .local := by rw [hE]; exact lkF
  have MO := I.ok.mod
  have kb : ∀ b o, X.base.get? b = some o → s.heap.get? b = some o := fun b o e => (I.bs b o e).1
  obtain ⟨mb, hb1, hb2⟩ := MO.blt
  have hself : ∃ m, s.heap.Ns X.env.locals m ∧ m ("self" : Str) = some (.ref x) := by
    obtain ⟨m, hm, hl⟩ := I.loc
    obtain ⟨u, ru, lo⟩ := hl 0 _ _ h0 hσ (.inl (by rw [hE]; exact lkF))
    cases ru
    rcases lo with ⟨_, e⟩ | ⟨e | e, _⟩
    · exact ⟨m, hm, e⟩
    · rw [hE6] at e; cases e
    · rw [hE6] at e; cases e
  obtain ⟨m, hm, hmx⟩ := hself
  refine ks_wpAt_Expr_any (_root_.PySem.wpAt_mono (Q := fun _ s' => ∃ v H', Inv X pins σ H' s' ∧ Qd v H') (E := X.xe) ?_ (fun _ _ z => ⟨rfl, z⟩) (fun _ _ z => z)) hi hs
  refine ks_wpAt_MethodCall (he := hpl _) ?_
  refine ks_wpAt_super_base hE4 hE5 rfl hE1 (KX _ _ lk) rfl har hE2 (KX _ _ hcda) rfl hfs hfile U.top ?_
  refine ks_loadName_global I.ok.kind hE4 (loadGlobal_builtin (by rw [I.ok.glob]; exact MO.glob.keeps kb) U.gS (by rw [I.ok.blt]; exact hb1.keeps kb) ((hb2 _ (by decide +kernel)).trans (show bootBuiltins "super" = some (.type "super") by decide +kernel)) ⟨rfl, ?_⟩)
  refine wpAny_loadName_free I.ok.kind hE5 hE3 ⟨_, KX _ _ hcell, rfl⟩ ?_
  rw [hse]
  refine wpAny_loadName_local I.ok.kind hE6 hm hmx ?_
  refine ks_wpAny_isType_cls hD1 hD2 ⟨rfl, ?_⟩
  refine ks_wpAny_call_super hD1 hD2 J.at_ J.cls (fun c e => ?_) (looks_mroIn KX U.sub) (fun h' hso hk' => ?_)
  · have := J.no
    unfold notCls at this
    rw [e] at this
    exact Bool.noConfusion this
  have I1 : Inv X pins σ H { s with heap := h' } := I.kept (t' := s.toks) hk'
  obtain ⟨of, hof, hofc⟩ : ∃ of, h'.get? f2 = some of ∧ of.cls = .type "function" := by
    have ht' : (X.K.lookup f2).map (·.cls) = some (.type "function") := U.fn
    cases z : X.K.lookup f2 with
    | none => rw [z] at ht'; cases ht'
    | some of => rw [z] at ht'; exact ⟨of, I1.kIn _ _ z, Option.some.inj ht'⟩
  have hsup := U.sup
  unfold ks_superIn at hsup
  rw [hC] at hsup
  refine ks_wpAny_getMethod_super hso (looks_opaque I1.kIn U.stat) (l₀ := cd.mro) (fun A Q E s k q => wpAny_bind ((looks_clsIn I1.kIn hC) A _ E s k (wpAny_pure q))) rfl I1.kIn hsup hof hofc (ks_ne KX J hC) rfl ?_
  have I2 := ClX.met_new (g := f2) (C := x) I1
  refine ClX.callwith_cm (e := e) (es := []) I2 (ClX.base_none I1 (Nat.le_refl _)) U.fi (thn (ha.run q5 _ _ σ H _ I2 hq) fun us s3 ⟨vs, H2, I3, rv, q2⟩ => ⟨⟨ClX.pin_at I3, I3.kIn⟩, ?_⟩) hst hplain
  exact wpAny_mono (ClX.run_cm F2 hr hx I3 rv q2) (fun u s4 ⟨v, H', I4, _, q4⟩ => ⟨v, H', I4, q4⟩) fun _ _ z => z
abbrev superSt (e : Expr) (q1 q2 q3 q5 q6 : Pos) : Stmt := .Expr (.Call (.Attribute (.Call (.Name "super" q1) [] [] q2) "__init__" q3) [e] [] q5) q6
theorem fn_ofS {CX : CXT} {P : Program} {w : World} {K : PySem.W.Frag} {mg : Str → Option Value} {base : Heap} {k : Nat} {f D0 cc cda : Addr} {nm qual : Str} {st : Stmt} {fd : FuncData} {N ps : List Str} {sp : Sp} {e : Expr} {q1 q2 q3 q5 q6 : Pos} {rest : List Stmt} {ar : Arg}
    (F : FunS P K nm qual st f fd D0 cc cda) (S : ScopeS N ps (defScope st)) (hbd : defBody st = superSt e q1 q2 q3 q5 q6 :: rest) (har : ((defArgs st).posonlyargs ++ (defArgs st).args).head? = some ar) (hse : ar.arg = ("self" : Str)) (h0 : N[0]? = some ("self" : Str)) (lkF : (defScope st).names.lookup ("self" : Str) = some .local)
    (hpl : PySem.ErX.PlainM (.Call (.Name "super" q1) [] [] q2) "__init__" q3 q5 [e]) (hi : ∀ env : Env, env.scope = defScope st → interactive env = false) (hs : ∀ env : Env, env.scope = defScope st → swapsWith (.Call (.Attribute (.Call (.Name "super" q1) [] [] q2) "__init__" q3) [e] [] q5) none q6.line env = pure false) (hst : ∀ env : Env, env.scope = defScope st → starEach [e] env = (false, eval e env) :: starEach [] env) (hplain : ∀ env : Env, (backTo q5 (starEach [] env)).any (·.1) = false)
    (len : ∀ vs H Q E, sp vs H Q E → vs.length = ps.length)
    (hbody : ∀ (A : Around) (outer : List Env) (s : Shared) (H : Hp) (vs : List V) (Q : VK) (E : XK), Room k (A.deeper (envS qual (defScope st) s.heap.objs.size f cda cc)) → sp vs H Q E →
      ∃ (C f2 x dx : Addr) (fv : List (Str × V)) (ta : TA) (sp2 : Sp) (E2 : XK) (Qd : VK), SupC P K mg C D0 f2 ∧ FnR P w K mg base CX k f2 sp2 ∧ Passes CX (cxOfS CX P w K mg base N qual (defScope st) f cda cc A outer s H E) E2 ∧ vs[0]? = some (.ref x) ∧ H x = some (.ins C dx fv) ∧
        PA (cxOfS CX P w K mg base N qual (defScope st) f cda cc A outer s H E) [e] ta ∧ (ta (L2.start N vs) H fun us H1 => sp2 (.ref x :: us) H1 Qd E2) ∧
        ∀ v H', Qd v H' → ∃ t, PSs (cxOfS CX P w K mg base N qual (defScope st) f cda cc A outer s H E) rest t ∧ t { nx := fun _ H' => Q .non H', rt := Q } (L2.start N vs) H') :
    FnOk P w K mg base CX (k + 1) f fd ps sp := by
  refine ⟨len, fun A outer s H args us vs Q E hr e0 hb r hsp => ?_⟩
  have hl := len _ _ _ _ hsp
  have KX : K.In s.heap := e0.mod.kin.keeps fun b o e => (e0.bs b o e).1
  have lim : s.heap.NoLimit := e0.mod.nolimit.keeps fun b o e => (e0.bs b o e).1
  obtain ⟨C, f2, x, dx, fv, ta, sp2, E2, Qd, U, F2, hx, hv0, ho, ha, hq, hrest⟩ := hbody A outer s H vs Q E (hr.deeper _) hsp
  have Fx := F.ex
  obtain ⟨oc, od, kV, doc, pm, an, ct, osl, ccl, cl, cdd, cld, ccs, csl, fs, file, tf, efd, lk, hcd, hcda, hfs, hfile, hcell⟩ := Fx
  have hbd' : fd.body = .stmts (superSt e q1 q2 q3 q5 q6 :: rest) := by rw [efd, ← hbd]
  have hsc : fd.scope = defScope st := by rw [efd]
  have henv : callEnv fd s.heap.objs.size f = envS qual (defScope st) s.heap.objs.size f cda cc := by subst efd; rfl
  refine ks_codeAny_call_defAt (fd := fd) (body := superSt e q1 q2 q3 q5 q6 :: rest) (binds := ps.zip us) hr.depth (KX _ _ lk) rfl lim (by subst efd; exact codeRec_of KX hcd) hbd' hb (fun y hy => S.nocell y (by rw [← hsc]; exact hy)) (fun y hy => by rw [hsc]; exact S.par y.1 (List.of_mem_zip hy).1) (fun h₁ hns hk => ?_) (by rw [hsc]; exact S.co) (by rw [hsc]; exact S.gen) (by rw [hsc]; exact S.kind)
  rw [henv]
  have I := inv_startS (CX := CX) (cda := cda) (qual := qual) (f := f) (E := E) (tk := s.toks + (ps.zip us).length) S hr.hd e0 hl r hcell hns hk
  have hσ : (L2.start N vs)[0]? = some (some (.ref x)) := by
    unfold L2.start
    have h0l : 0 < vs.length := (List.getElem?_eq_some_iff.mp hv0).1
    rw [List.getElem?_append_left (by simpa using h0l), List.getElem?_map, hv0]; rfl
  have hsup := run_super (X := cxOfS CX P w K mg base N qual (defScope st) f cda cc A outer s H E) (body := superSt e q1 q2 q3 q5 q6 :: rest) I rfl U F F2 (hr.deeper _) hx S.lkS S.lkC har hse lkF S.kind h0 hσ ho ha hpl (hi _ rfl) (hs _ rfl) (hst _ rfl) (hplain _) hq
  refine ks_wpAt_execs_cons (_root_.PySem.wpAt_mono hsup (fun fl s' z => ?_) (fun _ _ z => z))
  obtain ⟨rfl, v, H', I', hq'⟩ := z
  obtain ⟨t, ht, hqt⟩ := hrest v H' hq'
  refine _root_.PySem.wpAt_of_wpAny (wpAny_mono (ht.run [] s' (L2.start N vs) H' _ I' hqt) (fun fl s' hs => ?_) fun e s' hs => hs)
  have fin : ∀ {σ' : L2.St} {H' : Hp} {v : V} {u : Value}, Inv (cxOfS CX P w K mg base N qual (defScope st) f cda cc A outer s H E) [] σ' H' s' → RelV v u → Q v H' → CE outer P w H s Q u s' :=
    fun {σ' H' v u} J rv q => ⟨v, H', J.os, J.bare, J.base, J.hok, rv, q⟩
  cases fl with
  | ret u =>
    obtain ⟨v, σ', H', J, rv, q⟩ := hs
    exact fin J rv q
  | next =>
    obtain ⟨σ', H', J, q⟩ := hs
    exact fin (v := V.non) (u := Value.none) J rfl q
  | brk =>
    obtain ⟨_, _, _, q⟩ := hs
    exact False.elim q
  | cont =>
    obtain ⟨_, _, _, q⟩ := hs
    exact False.elim q
/-- an __init__ that says super().__init__(e) first (calm) -/
theorem fn_initS {P : Program} {w : World} {K : PySem.W.Frag} {mg : Str → Option Value} {base : Heap} {k : Nat} {f D0 C f2 cc cda : Addr} {nm qual : Str} {st : Stmt} {fd : FuncData} {N ps : List Str} {e : Expr} {q1 q2 q3 q5 q6 : Pos} {rest : List Stmt} {ar : Arg} {Ar Ar2 : Om → List D → List Str → List D → Prop}
    (F : FunS P K nm qual st f fd D0 cc cda) (S : ScopeS N ps (defScope st)) (U : SupC P K mg C D0 f2) (F2 : Fok P w K mg base CX0 k f2 (spI K C Ar2)) (len : ∀ L ds ns fs, Ar L ds ns fs → ds.length + 1 = ps.length)
    (h : ∀ (A : Around) (outer : List Env) (s : Shared) (H : Hp) (E : XK) (B : Gd) (x : Addr) (ds : List D) (ns : List Str) (fs : List D), Room k (A.deeper (envS qual (defScope st) s.heap.objs.size f cda cc)) → Ar B.L ds ns fs →
      ∃ (d0 : D) (ns0 : List Str) (fs0 : List D), EA (cxOfS CX0 P w K mg base N qual (defScope st) f cda cc A outer s H E) B (startD N (.rf x :: ds)) [(x, .ins C [] [])] [e] [d0] ∧ Ar2 B.L [d0] ns0 fs0 ∧
        J (cxOfS CX0 P w K mg base N qual (defScope st) f cda cc A outer s H E).nox B rest (startD N (.rf x :: ds)) [(x, .ins C ns0 fs0)] { nx := fun _ O' => ∃ fs' O1, O' = O1 ++ [(x, .ins C ns fs')] ∧ FrzL O1 fs' fs, rt := fun _ _ => False })
    (hbd : defBody st = superSt e q1 q2 q3 q5 q6 :: rest := by rfl) (har : ((defArgs st).posonlyargs ++ (defArgs st).args).head? = some ar := by rfl) (hse : ar.arg = ("self" : Str) := by rfl) (h0 : N[0]? = some ("self" : Str) := by rfl) (lkF : (defScope st).names.lookup ("self" : Str) = some .local := by rfl)
    (hpl : PySem.ErX.PlainM (.Call (.Name "super" q1) [] [] q2) "__init__" q3 q5 [e] := by exact ⟨_, fun _ => rfl⟩) (hi : ∀ env : Env, env.scope = defScope st → interactive env = false := by intro env h; unfold interactive; rw [h]; rfl) (hs : ∀ env : Env, env.scope = defScope st → swapsWith (.Call (.Attribute (.Call (.Name "super" q1) [] [] q2) "__init__" q3) [e] [] q5) none q6.line env = pure false := by intro env h; rfl)
    (hst : ∀ env : Env, env.scope = defScope st → starEach [e] env = (false, eval e env) :: starEach [] env := by intro env h; rfl) (hplain : ∀ env : Env, (backTo q5 (starEach [] env)).any (·.1) = false := by intro env; rfl) : FnOk P w K mg base CX0 (k + 1) f fd ps (spI K C Ar) := by
  refine fn_ofS F S hbd har hse h0 lkF hpl hi hs hst hplain (fun vs H Q E q => ?_) (fun A outer s H vs Q E hr q => ?_)
  · obtain ⟨F', L, x, dx, us, ds, ns, fs, rfl, _, _, _, r, ha, _⟩ := q
    rw [List.length_cons, r.length]; exact len L ds ns fs ha
  · obtain ⟨F', L, x, dx, us, ds, ns, fs, rfl, bo, fx, hx, r, ha, kk⟩ := q
    let Hb : Hp := fun a => if a = x then none else H a
    have hbx : ∀ a o, Hb a = some o → a ≠ x ∧ H a = some o := fun a o e => by
      have e' : (if a = x then none else H a) = some o := e
      by_cases q : a = x
      · rw [if_pos q] at e'; cases e'
      · rw [if_neg q] at e'; exact ⟨q, e'⟩
    have hF' : ∀ a, F' a = true → ∃ o, Hb a = some o := fun a h => by
      obtain ⟨o, e⟩ := bo.ok a h
      have ne : a ≠ x := fun z => by rw [z, fx] at h; cases h
      exact ⟨o, by show (if a = x then none else H a) = _; rw [if_neg ne]; exact e⟩
    obtain ⟨d0, ns0, fs0, hea, ha2, hj⟩ := h A outer s H E ⟨F', Hb, fun c d _ H => E c d H, L, hF', bo.lF⟩ x ds ns fs hr ha
    have hst0 : ∀ {m0 : M} {H1 : Hp}, (∀ a o, a ≠ x → H a = some o → H1 a = some o) → MRp K (vis F' [(x, .ins C [] [])] H1) H1 x m0 → StOk K ⟨F', Hb, fun c d _ H => E c d H, L, hF', bo.lF⟩ (startD N (.rf x :: ds)) [(x, m0)] (L2.start N (.ref x :: us)) H1 := fun {m0 H1} hk hm => by
      have hv : ∀ (m1 m2 : M) (H2 : Hp), vis F' [(x, m1)] H2 = vis F' [(x, m2)] H2 := fun m1 m2 H2 => vis_keys rfl
      have sv : Same (vis F' [(x, M.ins C [] [])] H) (vis F' [(x, m0)] H1) := fun a o q => by
        obtain ⟨q1, q2, q3⟩ := vis_some.mp q
        have na : a ≠ x := fun z => by subst z; simp [has] at q2
        exact vis_some.mpr ⟨q1, q2, hk a o na q3⟩
      refine ⟨⟨fun a o e => ?_, fun a m hm' => ?_, by simp, fun a m hm' => ?_⟩, start_env (.cons (.rf x) (r.mono sv))⟩
      · obtain ⟨n, e⟩ := hbx a o e
        refine ⟨hk a o n e, ?_⟩
        show (x == a || false) = false
        rw [Bool.or_false]
        exact beq_eq_false_iff_ne.mpr (Ne.symm n)
      · cases List.mem_singleton.mp hm'
        rw [hv m0 (.ins C [] []) H1]; exact hm
      · have nx : a ≠ x := fun z => by have := bo.lF a m hm'; rw [z, fx] at this; cases this
        exact (bo.lent a m hm').mono sv fun o q => hk a o nx q
    refine ⟨C, f2, x, dx, [], _, spI K C Ar2, E0, fun v H' => ∃ dx' fv, (∀ a o, a ≠ x → H a = some o → H' a = some o) ∧ H' x = some (.ins C dx' fv) ∧ fv.map (·.1) = ns0 ∧ RpL K (vis F' [(x, .ins C [] [])] H') (fv.map (·.2)) fs0, U, F2.raw, pass0, rfl, hx, hea, ⟨hst0 (fun a o _ q => q) ⟨dx, [], hx, rfl, .nil⟩, fun vs H1 e1 r1 => ?_⟩, ?_⟩
    · refine ⟨F', L, x, dx, vs, [d0], ns0, fs0, rfl, ⟨fun a q => let ⟨o, e⟩ := bo.ok a q; ⟨o, e1 _ _ e⟩, bo.lF, fun a m q => (bo.lent a m q).mono (vis_same e1) fun o e => e1 _ _ e⟩, fx, e1 _ _ hx, r1, ha2, fun H' dx' fv g1 g2 g3 g4 => ⟨dx', fv, fun a o na q => g1 a o na (e1 _ _ q), g2, g3, g4⟩⟩
    · rintro v H1 ⟨dx1, fv1, g1, g2, g3, g4⟩
      refine ⟨_, PSs.nox hj, hst0 g1 ⟨dx1, fv1, g2, g3, g4⟩, ?_, fun _ _ _ _ z => z.elim, fun _ _ _ _ z => z.elim, fun _ _ _ _ z => z.elim, fun _ _ _ _ _ _ _ _ _ z => z.elim⟩
      rintro ρ O' σ H' ⟨fs', O1, rfl, fz⟩ s' _
      obtain ⟨dx', fv, h1, h2, h3⟩ := s'.m.mem x _ (List.mem_append_right _ List.mem_cons_self)
      have nd := s'.m.nd
      rw [List.map_append, List.nodup_append] at nd
      have nx : ∀ p m, (p, m) ∈ O1 → p ≠ x := fun p m hp => nd.2.2 p (List.mem_map_of_mem (f := (·.1)) hp) x (by simp)
      have e1 : Same (vis F' (O1 ++ [(x, .ins C ns fs')]) H') (vis F' [(x, .ins C [] [])] H') := fun a o q => by
        obtain ⟨q1, q2, q3⟩ := vis_some.mp q
        refine vis_some.mpr ⟨q1, ?_, q3⟩
        unfold has at q2 ⊢
        rw [List.any_append, Bool.or_eq_false_iff] at q2
        exact q2.2
      refine kk H' dx' fv (fun a o na q => (s'.m.base a o (by show (if a = x then none else H a) = _; rw [if_neg na]; exact q)).1) h1 h2 (RpL.frz e1 (fun p m hp => ?_) fz h3)
      refine (s'.m.mem p m (List.mem_append_left _ hp)).mono (Same.refl _) fun o q => ?_
      have q' := s'.m.visM (has_mem.mpr ⟨m, List.mem_append_left _ hp⟩) q
      obtain ⟨g1, _, g3⟩ := vis_some.mp q'
      refine vis_some.mpr ⟨g1, ?_, g3⟩
      show (x == p || false) = false
      rw [Bool.or_false]
      exact beq_eq_false_iff_ne.mpr (Ne.symm (nx p m hp))
end DL

set_option Elab.async false
set_option linter.all false
set_option maxRecDepth 100000
set_option maxHeartbeats 4000000
namespace DL
open PySem PySem.Spec PyProof.Rows L2
section
variable {X : Cx} {B : Gd} {ρ ρ' : List (Option D)} {O O' O1 : Om} {a b c e o e1 e2 : Expr} {es : List Expr} {d d1 d2 d3 : D} {ds : List D} {pos pos' p apos : Pos} {st : Stmt} {ss rest : List Stmt} {x : Str}
variable {α β : Type} {E : β → D} {A : α → AE}
theorem jc_bnd0 {v : β} {m : β → Cmp α} {O2 : β → Om} (h : ∀ y, JC X B ss ρ (O2 y) A (m y)) : JC X B ss ρ (O2 v) A (.bnd v m) := h v
/-- x op= e -/
theorem jc_aug {op : Operator} {r : R2} {v : β} {m : β → Cmp α} (i : Nat) (nd : X.N.Nodup) (ho : OpR X (inplaceOp op) r) (hr : RD X.K B O r d1 d2 (E v)) (h0 : ρ[i]? = some (some d1)) (he : EV X B ρ O e d2) (h : ∀ y, JC X B rest (ρ.set i (some (E y))) O A (m y)) (hi : X.N[i]? = some x := by rfl) (hx : Loc X.env.scope x := by first | exact .inl rfl | exact .inr rfl)
    (hf : X.fn x = true ∨ X.env.scope.names.lookup x = some .local := by first | exact .inr rfl | exact .inl rfl) : JC X B (.AugAssign (.Name x pos') op e pos :: rest) ρ O A (.bnd v m) := fun ok =>
  j_cons (ps_imp (ps_aug (ti := r) nd hi hx he ho hf) fun Dn σ H ⟨st, pp⟩ => by
    obtain ⟨u, hu, ru⟩ := st.env.2 i _ h0
    refine ⟨u, hu, st, fun w H1 e1 r1 => ?_⟩
    exact hr u w H1 _ (st.same e1).m (ru.mono (vis_same e1)) r1 fun z H2 e2 r2 => pp.nx _ _ _ _ (h v ok) (((st.same e1).same e2).set r2) (vis_same (e1.trans e2)))
/-- xs.insert(i, e) -/
def insL {β : Type} (xs : List β) (i : Int) (y : β) : List β := xs.take i.toNat ++ [y] ++ xs.drop i.toNat
theorem map_insL {xs : List β} {i : Int} {y : β} : (insL xs i y).map E = (xs.map E).take i.toNat ++ [E y] ++ (xs.map E).drop i.toNat := by
  unfold insL
  rw [List.map_append, List.map_append, List.map_take, List.map_drop]; rfl
theorem eg_insert {q : Addr} {i : Int} (ho : EV X B ρ O o (.rf q)) (ha : EA X B ρ O [e1, e2] [.int i, d]) (hm : Put O q (.lst ds) (.lst (ds.take i.toNat ++ [d] ++ ds.drop i.toNat)) O') (hz : ds.length < sizeLine) (h0 : 0 ≤ i) (h1 : i < 2 ^ 63)
    (hbase : attributeBase o "insert" X.env (eval o X.env) = eval o X.env := by rfl)
    (hfew : ((backTo pos (starEach [e1, e2] X.env)).all (fun x => !x.1) && (backToKw pos (keywordEach [] X.env)).all (fun x => x.1.isSome)
      && decide ([e1, e2].length + ([] : List Keyword).length + (if ([] : List Keyword).isEmpty then 0 else 1) < 30)) = true := by rfl)
    (hline : (apos.endLine == pos.line) = true := by rfl) (hs : starEach [e1, e2] X.env = (false, eval e1 X.env) :: starEach [e2] X.env := by rfl) (hplain : (backTo pos (starEach [e2] X.env)).any (·.1) = false := by rfl) :
    EG X B ρ O (.Call (.Attribute o "insert" apos) [e1, e2] [] pos) .non O' :=
  pe_imp (pe_bm PySem.F.plainAttrs_list PySem.F.slot_list_insert PySem.F.type_list_insert mt_insert ho ha hbase hfew hline hs hplain) fun σ H Q ⟨st, k⟩ => ⟨st, fun v H1 e1 r1 => by
    cases r1
    have s1 := st.same e1
    obtain ⟨vs, g1, g2⟩ := s1.m.mem _ _ hm.mem
    refine ⟨.inl ⟨rfl, vs, .inl (.inl g1)⟩, s1, fun ws H2 e2 r2 => ?_⟩
    have s2 := s1.same e2
    obtain ⟨vs2, g3, g4⟩ := s2.m.mem _ _ hm.mem
    cases r2 with
    | @cons v1 _ _ _ rv1 r2 =>
    cases rv1
    cases r2 with
    | @cons v2 _ _ _ rv2 r2 =>
    cases r2
    obtain ⟨s3, ev⟩ := s2.putP (o := .lst (vs2.take i.toNat ++ [v2] ++ vs2.drop i.toNat)) hm ⟨_, upd_same, ((g4.take _).append (.cons rv2 .nil)).append (g4.drop _)⟩
    refine ⟨q, vs2, i, v2, rfl, rfl, g3, by rw [g4.length]; exact hz, h0, h1, k .non _ s3 ?_ .non⟩
    rw [ev]
    exact (vis_same e1).trans (vis_same e2)⟩
theorem jc_insert {q : Addr} {i : Int} {v : β} {xs : List β} {m : List β → Cmp α} {O2 : List β → Om} (ho : EV X B ρ O o (.rf q)) (ha : EA X B ρ O [e1, e2] [.int i, E v]) (hp : ∀ ys : List β, Put O q (.lst (xs.map E)) (.lst (ys.map E)) (O2 ys)) (hz : xs.length < sizeLine) (h0 : 0 ≤ i ∧ i < 2 ^ 63) (h : ∀ ys, JC X B rest ρ (O2 ys) A (m ys))
    (hbase : attributeBase o "insert" X.env (eval o X.env) = eval o X.env := by rfl)
    (hfew : ((backTo pos (starEach [e1, e2] X.env)).all (fun x => !x.1) && (backToKw pos (keywordEach [] X.env)).all (fun x => x.1.isSome)
      && decide ([e1, e2].length + ([] : List Keyword).length + (if ([] : List Keyword).isEmpty then 0 else 1) < 30)) = true := by rfl)
    (hline : (apos.endLine == pos.line) = true := by rfl) (hs : starEach [e1, e2] X.env = (false, eval e1 X.env) :: starEach [e2] X.env := by rfl) (hplain : (backTo pos (starEach [e2] X.env)).any (·.1) = false := by rfl)
    (hsw : swapsWith (.Call (.Attribute o "insert" apos) [e1, e2] [] pos) none pos'.line X.env = pure false := by rfl) :
    JC X B (.Expr (.Call (.Attribute o "insert" apos) [e1, e2] [] pos) pos' :: rest) ρ O A (.bnd (insL xs i v) m) := fun ok =>
  j_cons (j_expr (eg_insert (d := E v) (ds := xs.map E) ho ha (by have := hp (insL xs i v); rw [map_insL] at this; exact this) (by rw [List.length_map]; exact hz) h0.1 h0.2 hbase hfew hline hs hplain) (h _ ok) hsw)
end
end DL

set_option Elab.async false
set_option linter.all false
set_option maxRecDepth 100000
set_option maxHeartbeats 4000000
namespace L2
open PySem PySem.Spec PyProof.Rows StX
/-- C(*y) -/
theorem pe_makeStar {X : Cx} {CX : CXT} {k : Nat} {f C : Addr} {sp : Sp} {E : XK} {x : Str} {e : Expr} {te : TE} {p pos sp_ : Pos} (M : Mk X.K C f) (F : FnR X.prog X.w X.K X.mg X.base CX k f sp) (hr : Room (k + 1) X.A) (hg : Gl X x) (hm : X.mg x = some (.ref C)) (hx : Passes CX X E) (he : PE X e te) (hd : (x == ("__debug__" : Str)) = false := by decide)
    (hst : starEach [.Starred e sp_] X.env = [(true, eval e X.env)] := by rfl) :
    PE X (.Call (.Name x p) [.Starred e sp_] [] pos) (fun σ H Q => te σ H fun y H1 => ∃ a xs, y = V.ref a ∧ (SqT X.K H1 a xs ∨ SqL X.K H1 a xs) ∧ ∀ x dx, H1 x = Option.none → H1 dx = Option.none → dx ≠ x → sp (V.ref x :: xs) (upd (upd H1 dx (.own x)) x (.ins C dx [])) (fun v H2 => v = .non ∧ Q (.ref x) H2) E) := by
  refine ⟨fun pins s σ H Q I h => ?_⟩
  refine wpAny_Call_Name_kw (ld_glob I hg hm ?_ hd)
  refine PySem.W.callWith_S (h₀ := X.base) I.ok.mod.kin M.kp (thn (he.run pins s σ H _ I h) fun v s1 ⟨y, H1, I1, ry, a, xs, ey, hxs, q⟩ => ?_) hst
  subst ey
  obtain rfl : v = Value.ref a := ry
  exact star_any I1 hxs fun us s2 I2 rv => ⟨I2.kIn, run_makeR M F hr hx I2 rv q⟩
end L2
namespace DL
open PySem PySem.Spec PyProof.Rows L2
theorem Fok.mono {P : Program} {w : World} {K : PySem.W.Frag} {mg : Str → Option Value} {base : Heap} {CX : CXT} {j k : Nat} {f : Addr} {sp : Sp} (F : Fok P w K mg base CX j f sp) (h : j ≤ k) : Fok P w K mg base CX k f sp := by
  obtain ⟨fd, ps, G, b⟩ := F.ex
  exact ⟨⟨fd, ps, G.mono h, b⟩, F.kp⟩
section
variable {X : Cx} {B : Gd} {ρ ρ' : List (Option D)} {O O' O1 : Om} {a b c e o e1 e2 : Expr} {es : List Expr} {d d1 d2 d3 : D} {ds : List D} {pos pos' p apos spos : Pos} {st h₀ : Stmt} {ss rest body : List Stmt} {x : Str} {k : Nat} {C : Addr} {b1 : Bool}
variable {α β : Type} {E : β → D} {A : α → AE}
theorem ev_makeStar {Ar : Om → List D → List Str → List D → Prop} {f : Addr} {ns : List Str} {fs : List D} (Mk : Mk X.K C f) (F : FnR X.prog X.w X.K X.mg X.base CX0 k f (spI X.K C Ar)) (hr : Room (k + 1) X.A) (hg : Gl X x) (hm : X.mg x = some (.ref C)) (he : EV X B ρ O e d) (w : Vq (B.L ++ O) d ds) (h : Ar (B.L ++ O) ds ns fs) (hdb : (x == ("__debug__" : Str)) = false := by decide)
    (hst : starEach [.Starred e spos] X.env = [(true, eval e X.env)] := by rfl) : EV X B ρ O (.Call (.Name x p) [.Starred e spos] [] pos) (.obj C ns fs) :=
  pe_imp (pe_makeStar (E := E0) Mk F hr hg hm pass0 he hdb hst) fun σ H Q ⟨st, k⟩ => ⟨st, fun v H1 e1 r1 => by
    obtain ⟨a, vs, rfl, q, rl⟩ := w.sq (st.same e1).m r1
    exact ⟨a, vs, rfl, q.symm, fun y dy hy hdy ne => made_use (st.same e1).m rl h (fun v H2 e2 r2 => k v H2 (e1.trans e2) r2) y dy hy hdy ne⟩⟩
/-! ### C.m(..), m a staticmethod -/
structure SMet (K : PySem.W.Frag) (C : Addr) (mc : Value) (m : Str) (p g : Addr) : Prop where
  at_ : PySem.W.findCls K (.ref C) mc m = some (.get (.builtin "staticmethod.__get__") (.ref p) .none (.ref C))
  rc : ∃ rest, PySem.W.recIn K p "staticmethod" = some (.ref g :: rest)
  kp : PySem.W.keepIn K (.ref g) = true
theorem ev_smeth {Ar : Om → List D → D → Prop} {m : Str} {mc : Value} {pp g : Addr} {es' : List D} (he : EV X B ρ O o (.rf C)) (rd : ClX.CRead X.K C mc) (c : SMet X.K C mc m pp g) (F : Fok X.prog X.w X.K X.mg X.base CX0 k g (spP X.K Ar)) (hr : Room k X.A) (ha : EA X B ρ O (e :: es) es')
    (h : Ar (B.L ++ O) es' d) (pl : Sem Bool)
    (hst : starEach (e :: es) X.env = (false, eval e X.env) :: starEach es X.env := by rfl) (hpl : (backTo pos (starEach es X.env)).any (·.1) = false := by rfl)
    (ht : eval (.Call (.Attribute o m apos) (e :: es) [] pos) X.env = (do
      let ov ← eval o X.env
      standAt apos.atName
      let (f, first) ← holding [ov] (getMethod ov m pl)
      callWith pos f first (backTo pos (starEach (e :: es) X.env)) (backToKw pos (keywordEach [] X.env))) := by rfl) :
    EV X B ρ O (.Call (.Attribute o m apos) (e :: es) [] pos) d := by
  refine ⟨fun pins s σ H Q I hq => ?_⟩
  refine PySem.W.methodCall_KW (pl := pl) (thn (he.run pins s σ H (fun v H1 => v = .ref C ∧ Same H H1) I ⟨hq.1, fun v H1 e1 r1 => by cases r1; exact ⟨rfl, e1⟩⟩) fun u s1 ⟨x, H1, I1, rx, ex, e1⟩ => ?_) ht
  subst ex
  obtain rfl : u = Value.ref C := rx
  obtain ⟨st, k⟩ := hq
  obtain ⟨rest, hp⟩ := c.rc
  refine PySem.W.method_cls I1.kIn rd.ga (PySem.W.cls_bind I1.kIn rd.rd c.at_ (wpAny_call (PySem.W.sm_get (s := { s1 with toks := s1.toks + 1 }) I1.kIn hp (PySem.W.handed_on rfl ?_))))
  have I2 := I1.tok (s1.toks + 1)
  refine PySem.W.callWith_K (h₀ := X.base) I2.ok.mod.kin c.kp (thn (ha.run pos pins _ σ H1 (fun vs H2 => Same H1 H2 ∧ RpL X.K (vis B.F O H2) vs es') I2 ⟨st.same e1, fun vs H2 e2 r2 => ⟨e2, r2⟩⟩) fun us s2 ⟨vs, H2, I3, r, e2, r2⟩ => ⟨I3.kIn, ?_⟩) hst hpl
  exact wpAny_call (run_fnR (E := E0) F.raw hr pass0 I3 r (spP_use ((st.same e1).same e2).m r2 h fun v H3 e3 r3 => k v H3 ((e1.trans e2).trans e3) r3))
/-! ### a try that nothing leaves by an error -/
theorem jc1_tryC {m : Cmp α} (hn : ∀ e s, ¬ X.xe e s) {hh : List ExceptHandler} {h0 : ExceptHandler} (hb : JC X B body ρ O A m) : JC1 X B (.Try body (h0 :: hh) [] [] pos) ρ O A m := fun ok => ps_try_never hn (hb ok) pss_nil
/-! ### text.partition(sep) -/
theorem ev_partition {z y : Str} (ho : EV X B ρ O o (.str z)) (he : EV X B ρ O e (.str y)) (hy : (y.length == 0) = false) (hz : z.length ≤ sizeLine) (hs : starEach [e] X.env = [(false, eval e X.env)] := by rfl) (hbase : attributeBase o "partition" X.env (eval o X.env) = eval o X.env := by rfl) (hline : (apos.endLine == pos.line) = true := by rfl) :
    EV X B ρ O (.Call (.Attribute o "partition" apos) [e] [] pos) (.tup [.str (Txt.partition z y).1, .str (Txt.partition z y).2.1, .str (Txt.partition z y).2.2]) :=
  ev_m1 PySem.F.slot_str_partition PySem.F.type_str_partition mt_partition ho he (fun xs H Q m r k => by
    cases r with
    | cons h r =>
      cases r; cases h
      exact ⟨z, y, rfl, rfl, hy, hz, fun p hp => k _ _ (same_new hp) (.tup (.inl (.inl (m.visNew hp))) (.cons (.str _) (.cons (.str _) (.cons (.str _) .nil))))⟩) hs hbase hline
/-! ### f(..), f an instance: a new list -/
theorem en_callO {Ar : Om → List D → List D → Prop} {ns : List Str} {g : Addr} {fe : Expr} {es' fs : List D} (hf : EV X B ρ O fe (.obj C ns ds)) (c : StX.CallO X.K C g) (F : Fok X.prog X.w X.K X.mg X.base CX0 k g (spN X.K Ar)) (hr : Room k X.A) (ha : EA X B ρ O (e :: es) es') (h : Ar (B.L ++ O) (.obj C ns ds :: es') fs)
    (ht : eval (.Call fe (e :: es) [] pos) X.env = (do callWith pos (← eval fe X.env) [] (backTo pos (starEach (e :: es) X.env)) (backToKw pos (keywordEach [] X.env))) := by rfl)
    (he : starEach (e :: es) X.env = (false, eval e X.env) :: starEach es X.env := by rfl) (hpl : (backTo pos (starEach es X.env)).any (·.1) = false := by rfl) : EN X B ρ O (.Call fe (e :: es) [] pos) fs :=
  pe_imp (StX.pe_callO (E := E0) hf c F.raw hr pass0 ha ht he hpl) fun σ H Q ⟨st, k⟩ => ⟨st, fun v H1 e1 r1 => by
    cases r1 with
    | obj h1 h2 h3 => exact ⟨_, rfl, st.same e1, fun vs H2 e2 r2 => ⟨.inr ⟨_, _, e2 _ _ (vis_le _ _ h1)⟩, spN_use ((st.same e1).same e2).m (.cons ((Rp.obj h1 h2 h3).mono (vis_same e2)) r2) h fun p H3 ws hp e3 hv r3 => k p H3 ws (e1.free (e2.free hp)) ((e1.trans e2).trans e3) hv r3⟩⟩⟩
/-! ### isinstance of an own instance -/
structure IsO (K : PySem.W.Frag) (C : Addr) : Prop where
  cl : Cls K C
  ha : PySem.W.findIn K (.ref C) "__class__" = some (some (.builtin "object.__class__"))
  hn : PySem.W.specialIn K (.builtin "object.__class__") "__get__" = some (some (.builtin "getset_descriptor.__get__"))
  htk : PySem.W.takesIn K (.builtin "object.__class__") = some true
  hm : PySem.W.mroIn K C (.type "object") = some true
theorem rc_isO {K : PySem.W.Frag} {C0 : Addr} {ns : List Str} (c : IsO K C) (hk : PySem.W.kitOne K (.ref C) (.ref C0) = some b1) : RC K B O (rIsi K) [.obj C ns ds, .rf C0] (.bl b1) := fun xs H Q m r k => by
  cases r with
  | cons h1 r =>
    cases r with
    | cons h2 r =>
      cases r
      cases h2
      cases h1 with
      | obj q1 q2 q3 => exact ⟨_, _, _, _, b1, rfl, .own C0, .base (.ins (vis_le _ _ q1) c.cl c.ha c.hn c.htk c.hm), hk, k _ H (Same.refl H) (.bl _)⟩
end
end DL

set_option Elab.async false
set_option linter.all false
set_option maxRecDepth 100000
set_option maxHeartbeats 4000000
namespace L2
open PySem PySem.Spec PyProof.Rows
/-! ### o.f = e, f a property with a setter -/
structure PSetOf (K : PySem.W.Frag) (C : Addr) (f : Str) (p g : Addr) : Prop where
  tk : PySem.W.takerIn K C f = some (some (.ref p))
  ty : PySem.W.typeIn K (.ref p) = some (.type "property")
  rc : ∃ a rest, PySem.W.recIn K p "property" = some (a :: .ref g :: rest)
theorem setprop_ok {X : Cx} {CX : CXT} {k : Nat} {C p g a dx : Addr} {fs : List (Str × V)} {f : Str} {sp : Sp} {E : XK} {pins : List (Addr × Obj)} {σ : St} {H : Hp} {s : Shared} {Q : VK} {v : V} {u : Value} (I : Inv X pins σ H s) (ea : H a = some (.ins C dx fs)) (c : Cls X.K C) (hp : PSetOf X.K C f p g)
    (F : FnR X.prog X.w X.K X.mg X.base CX k g sp) (hr : Room (k + 2) X.A) (hx : Passes CX X E) (rv : RelV v u) (h : sp [.ref a, v] H Q E) :
    wpAny (model X.prog X.w) X.A (setAttr (.ref a) f u) (fun _ s' => ∃ w H', Inv X pins σ H' s' ∧ Q w H') X.xe s := by
  obtain ⟨mA, O, _, _, _, _⟩ := ins_get I.hok ea
  obtain ⟨od, J, _⟩ := O.look
  obtain ⟨b, rest, hrec⟩ := hp.rc
  have I1 := I.tok (s.toks + 1)
  refine PySem.W.set_plain I.kIn J c.sa (PySem.W.osa_descr (s := { s with toks := s.toks + 1 }) PySem.W.KF.slot_pset I1.kIn J c.po hp.tk hp.ty (PySem.W.prop_set (s := { s with toks := s.toks + 1 }) I1.kIn hrec ?_))
  refine codeAny_mono (F X.A.in1.in1 X.stack { s with toks := s.toks + 1 } H [.ref a, u] [.ref a, v] Q E hr.in1.in1 I1.env0.in1.in1 (.cons rfl (.cons rv .nil)) h) fun r s' hq => ?_
  cases r with
  | error er => exact hx pins σ H { s with toks := s.toks + 1 } er s' I1 hq
  | ok fl =>
    cases fl with
    | ret u' =>
      obtain ⟨w, H', I3, rv', q3⟩ := I1.after hq
      exact ⟨w, H', I3, q3⟩
    | next => exact False.elim hq
    | brk => exact False.elim hq
    | cont => exact False.elim hq
theorem ps_pset {X : Cx} {CX : CXT} {k : Nat} {C p g : Addr} {f : Str} {sp : Sp} {E : XK} {o value : Expr} {ta tv : TE} {pos pos' : Pos} (c : Cls X.K C) (hp : PSetOf X.K C f p g) (F : FnR X.prog X.w X.K X.mg X.base CX k g sp) (hr : Room (k + 2) X.A) (hx : Passes CX X E)
    (ha : PE X o ta) (hv : PE X value tv) (hs : swapsWith value (some (.Attribute o f pos')) pos.line X.env = pure false) :
    PS X (.Assign [.Attribute o f pos'] value pos) (fun D σ H => tv σ H fun y H1 => ta σ H1 fun x H2 => ∃ a dx fs, x = .ref a ∧ H2 a = some (.ins C dx fs) ∧ sp [.ref a, y] H2 (fun _ H3 => D.nx σ H3) E) := by
  refine ⟨fun pins s σ H D I h => ?_⟩
  refine plainObj_wpAny_Assign_Attribute (thn (hv.run pins s σ H _ I h) fun u s1 ⟨y, H1, I1, ry, q⟩ => thn (ha.run pins s1 σ H1 _ I1 q) fun ov s2 ⟨x, H2, I2, rx, a, dx, fs, ex, ea, q2⟩ => ?_) hs
  subst ex
  obtain rfl : ov = Value.ref a := rx
  exact wpAny_mono (setprop_ok I2 ea c hp F hr hx ry q2) (fun _ s3 ⟨w, H3, I3, q3⟩ => ⟨σ, _, I3, q3⟩) fun _ _ z => z
end L2
namespace DL
open PySem PySem.Spec PyProof.Rows L2
/-! ### contracts that change mutables -/
/-- what a callee finds: F hidden, L readable, O its own to change -/
structure BorE (K : PySem.W.Frag) (F : Addr → Bool) (L O : Om) (H : Hp) : Prop where
  ok : ∀ a, F a = true → ∃ o, H a = some o
  lF : ∀ a m, (a, m) ∈ L → F a = true
  lent : ∀ a m, (a, m) ∈ L → MRp K (vis F O H) H a m
  mem : ∀ a m, (a, m) ∈ O → MRp K (vis F O H) H a m
  nd : (O.map (·.1)).Nodup
  nF : ∀ a, has O a = true → F a = false
def spE (K : PySem.W.Frag) (Ar : Om → Om → List D → D → Om → Prop) : Sp := fun vs H Q _ => ∃ (F : Addr → Bool) (L O : Om) (ds : List D) (d : D) (O' : Om), BorE K F L O H ∧ RpL K (vis F O H) vs ds ∧ Ar L O ds d O' ∧
  ∀ v H', (∀ a o, has O a = false → H a = some o → H' a = some o) → (∀ a m, (a, m) ∈ O' → MRp K (vis F O' H') H' a m) → (O'.map (·.1)).Nodup → (∀ a, has O' a = true → has O a = true ∨ H a = none) → Rp K (vis F O' H') v d → Q v H'
theorem fn_eff {P : Program} {w : World} {K : PySem.W.Frag} {mg : Str → Option Value} {base : Heap} {Ar : Om → Om → List D → D → Om → Prop} {x qual : Str} {st : Stmt} {f : Addr} {fd : FuncData} {N ps : List Str} {k : Nat} (F : Fun K x qual st f fd) (S : FnScope N ps (defScope st)) (len : ∀ L O ds d O', Ar L O ds d O' → ds.length = ps.length)
    (h : ∀ (cdv : Value) (A : Around) (outer : List Env) (s : Shared) (H : Hp) (E : XK) (B : Gd) (O : Om) (ds : List D) (d : D) (O' : Om), Room k (A.deeper (envOfC qual (defScope st) s.heap.objs.size f cdv)) → Ar B.L O ds d O' →
      J (cxOf CX0 P w K mg base N qual (defScope st) f cdv A outer s H E).nox B (defBody st) (startD N ds) O { nx := fun _ Oe => ∃ O1, Oe = O1 ++ O' ∧ Frz O1 .non d, rt := fun d' Oe => ∃ O1, Oe = O1 ++ O' ∧ Frz O1 d' d }) : FnOk P w K mg base CX0 (k + 1) f fd ps (spE K Ar) := by
  refine F.ok S (fun vs H Q E q => ?_) (fun cdv A outer s H vs Q E hr q => ?_)
  · obtain ⟨F', L, O, ds, d, O', _, r, ha, _⟩ := q
    rw [r.length]; exact len L O ds d O' ha
  · obtain ⟨F', L, O, ds, d, O', bo, r, ha, kk⟩ := q
    let Hb : Hp := fun a => if has O a = true then none else H a
    have hbx : ∀ a o, Hb a = some o ↔ has O a = false ∧ H a = some o := fun a o => by
      show (if has O a = true then none else H a) = some o ↔ _
      cases has O a <;> simp
    have hF' : ∀ a, F' a = true → ∃ o, Hb a = some o := fun a h => by
      obtain ⟨o, e⟩ := bo.ok a h
      refine ⟨o, (hbx a o).mpr ⟨?_, e⟩⟩
      cases q : has O a with
      | false => rfl
      | true => rw [bo.nF a q] at h; cases h
    have hend : ∀ (O1 : Om) (v : V) (d' : D) (H' : Hp), MOk K ⟨F', Hb, fun c d _ H => E c d H, L, hF', bo.lF⟩ (O1 ++ O') H' → Rp K (vis F' (O1 ++ O') H') v d' → Frz O1 d' d → Q v H' := fun O1 v d' H' m r' fz => by
      have nd := m.nd
      rw [List.map_append, List.nodup_append] at nd
      have sub : ∀ q ∈ O', q ∈ O1 ++ O' := fun q hq => List.mem_append_right _ hq
      have no1 : ∀ p mm, (p, mm) ∈ O1 → has O' p = false := fun p mm hp => by
        cases q : has O' p with
        | false => rfl
        | true =>
          obtain ⟨m2, h2⟩ := has_mem.mp q
          exact absurd rfl (nd.2.2 p (List.mem_map_of_mem (f := (·.1)) hp) p (List.mem_map_of_mem (f := (·.1)) h2))
      refine kk v H' (fun a o na q => (m.base a o ((hbx a o).mpr ⟨na, q⟩)).1) (fun a mm hm => (m.mem a mm (sub _ hm)).mono (vis_sub sub) fun o q => q) nd.2.1 (fun a ha' => ?_) ?_
      · cases q : has O a with
        | true => exact .inl rfl
        | false =>
          refine .inr ?_
          cases q2 : H a with
          | none => rfl
          | some o =>
            obtain ⟨m2, h2⟩ := has_mem.mp ha'
            have := (m.base a o ((hbx a o).mpr ⟨q, q2⟩)).2
            rw [has_mem.mpr ⟨m2, sub _ h2⟩] at this; cases this
      · refine Rp.frz (vis_sub sub) (fun p mm hp => ?_) fz r'
        refine (m.mem p mm (List.mem_append_left _ hp)).mono (Same.refl _) fun o q => ?_
        have q' := m.visM (has_mem.mpr ⟨mm, List.mem_append_left _ hp⟩) q
        obtain ⟨g1, _, g3⟩ := vis_some.mp q'
        exact vis_some.mpr ⟨g1, no1 p mm hp, g3⟩
    refine ⟨_, h cdv A outer s H E ⟨F', Hb, fun c d _ H => E c d H, L, hF', bo.lF⟩ O ds d O' hr ha, ⟨⟨fun a o e => ⟨((hbx a o).mp e).2, ((hbx a o).mp e).1⟩, bo.mem, bo.nd, bo.lent⟩, start_env r⟩, ?_, ?_, fun _ _ _ _ z => z.elim, fun _ _ _ _ z => z.elim, fun _ _ _ _ _ _ _ _ _ z => z.elim⟩
    · rintro ρ Oe σ H' ⟨O1, rfl, fz⟩ s' _
      exact hend O1 .non .non H' s'.m .non fz
    · rintro d' Oe v H' ⟨O1, rfl, fz⟩ m r'
      exact hend O1 v d' H' m r' fz
section
variable {X : Cx} {B : Gd} {ρ ρ' : List (Option D)} {O O' O1 O1' R O'' : Om} {a b c e o e1 e2 : Expr} {es : List Expr} {d d0 d1 d2 d3 : D} {ds : List D} {pos pos' p apos spos : Pos} {st h₀ : Stmt} {ss rest body s1 s2 : List Stmt} {x : Str} {k : Nat} {C : Addr} {b1 b2 : Bool}
theorem has_app {O R : Om} {a : Addr} : has (O ++ R) a = (has O a || has R a) := by unfold has; rw [List.any_append]
theorem has_perm {O R : Om} (h : O.Perm R) {a : Addr} : has O a = has R a := by
  rw [Bool.eq_iff_iff, has_mem, has_mem]
  exact ⟨fun ⟨m, q⟩ => ⟨m, h.mem_iff.mp q⟩, fun ⟨m, q⟩ => ⟨m, h.mem_iff.mpr q⟩⟩
/-- such a call: O is O1, that the callee has, and the rest -/
theorem spE_use {K : PySem.W.Frag} {Ar : Om → Om → List D → D → Om → Prop} {σ : L2.St} {H : Hp} {Q : VK} {E : XK} {vs : List V} (s : StOk K B ρ O σ H) (hp : O.Perm (O1 ++ R)) (hp' : (O1' ++ R).Perm O'') (r : RpL K (vis B.F O H) vs ds) (h : Ar (B.L ++ R) O1 ds d O1')
    (k : ∀ v H', StOk K B ρ O'' σ H' → Same (vis B.F O H) (vis B.F O'' H') → Rp K (vis B.F O'' H') v d → Q v H') : spE K Ar vs H Q E := by
  have m := s.m
  have nd := (hp.map (·.1)).nodup_iff.mp m.nd
  rw [List.map_append, List.nodup_append] at nd
  have hO : ∀ a, has O a = (has O1 a || has R a) := fun a => by rw [has_perm hp, has_app]
  have hno : ∀ a, has R a = true → has O1 a = false := fun a hR => by
    cases q : has O1 a with
    | false => rfl
    | true =>
      obtain ⟨m1, h1⟩ := has_mem.mp q
      obtain ⟨m2, h2⟩ := has_mem.mp hR
      exact absurd rfl (nd.2.2 a (List.mem_map_of_mem (f := (·.1)) h1) a (List.mem_map_of_mem (f := (·.1)) h2))
  let F' : Addr → Bool := fun a => B.F a || has R a
  have v0 : ∀ {O2 : Om} {H2 : Hp}, vis F' O2 H2 = vis B.F (O2 ++ R) H2 := fun {O2 H2} => by
    funext a
    unfold vis
    rw [has_app]
    show (if (B.F a || has R a || has O2 a) = true then none else H2 a) = _
    rw [Bool.or_assoc, Bool.or_comm (has R a)]
  have v1 : vis F' O1 H = vis B.F O H := by
    rw [v0]; funext a; unfold vis; rw [has_app, hO]
  have bF : ∀ a, B.F a = true → has O a = false := fun a h => by
    obtain ⟨o, e⟩ := B.ok a h
    exact (m.base a o e).2
  refine ⟨F', B.L ++ R, O1, ds, d, O1', ⟨fun a h => ?_, fun a mm h => ?_, fun a mm h => ?_, fun a mm h => ?_, nd.1, fun a h => ?_⟩, by rw [v1]; exact r, h, fun v H' k1 k2 k3 k4 k5 => ?_⟩
  · rcases Bool.or_eq_true _ _ |>.mp h with h | h
    · obtain ⟨o, e⟩ := B.ok a h
      exact ⟨o, (m.base a o e).1⟩
    · obtain ⟨mm, e⟩ := has_mem.mp h
      exact (m.mem a mm (hp.mem_iff.mpr (List.mem_append_right _ e))).some
  · show (B.F a || has R a) = true
    rcases List.mem_append.mp h with h | h
    · rw [B.lF a mm h]; rfl
    · rw [has_mem.mpr ⟨mm, h⟩, Bool.or_true]
  · rw [v1]
    exact (List.mem_append.mp h).elim (m.lent a mm) fun q => m.mem a mm (hp.mem_iff.mpr (List.mem_append_right _ q))
  · rw [v1]
    exact m.mem a mm (hp.mem_iff.mpr (List.mem_append_left _ h))
  · show (B.F a || has R a) = false
    have h1 : B.F a = false := by
      cases q : B.F a with
      | false => rfl
      | true => have := bF a q; rw [hO, h] at this; cases this
    have h2 : has R a = false := by
      cases q : has R a with
      | false => rfl
      | true => rw [hno a q] at h; cases h
    rw [h1, h2]; rfl
  · have hO'' : ∀ a, has O'' a = (has O1' a || has R a) := fun a => by rw [← has_perm hp', has_app]
    have v2 : vis F' O1' H' = vis B.F O'' H' := by
      rw [v0]; funext a; unfold vis; rw [has_app, hO'']
    rw [v2] at k5
    have n1 : ∀ a o, has O1 a = false → H a = some o → has O1' a = false := fun a o q e => by
      cases q' : has O1' a with
      | false => rfl
      | true =>
        rcases k4 a q' with z | z
        · rw [q] at z; cases z
        · rw [e] at z; cases z
    have sm : Same (vis B.F O H) (vis B.F O'' H') := fun a o q => by
      obtain ⟨h1, h2, h3⟩ := vis_some.mp q
      rw [hO, Bool.or_eq_false_iff] at h2
      exact vis_some.mpr ⟨h1, by rw [hO'', n1 a o h2.1 h3, h2.2]; rfl, k1 a o h2.1 h3⟩
    refine k v H' ⟨⟨fun a o q => ?_, fun a mm hm => ?_, ?_, fun a mm hm => ?_⟩, s.env.mono sm⟩ sm k5
    · obtain ⟨b1, b2⟩ := m.base a o q
      rw [hO, Bool.or_eq_false_iff] at b2
      exact ⟨k1 a o b2.1 b1, by rw [hO'', n1 a o b2.1 b1, b2.2]; rfl⟩
    · rcases List.mem_append.mp (hp'.mem_iff.mpr hm) with q | q
      · rw [← v2]; exact k2 a mm q
      · have hR : has R a = true := has_mem.mpr ⟨mm, q⟩
        exact (m.mem a mm (hp.mem_iff.mpr (List.mem_append_right _ q))).mono sm fun o e => k1 a o (hno a hR) e
    · refine (hp'.map (·.1)).nodup_iff.mp ?_
      rw [List.map_append, List.nodup_append]
      refine ⟨k3, nd.2.1, fun u hu w hw => ?_⟩
      rintro rfl
      obtain ⟨⟨u1, m1⟩, h1, rfl⟩ := List.mem_map.mp hu
      obtain ⟨⟨u2, m2⟩, h2, e2⟩ := List.mem_map.mp hw
      have e2' : u2 = u1 := e2
      subst e2'
      have hR : has R u2 = true := has_mem.mpr ⟨m2, h2⟩
      obtain ⟨o, e⟩ := (m.mem u2 m2 (hp.mem_iff.mpr (List.mem_append_right _ h2))).some
      have := n1 u2 o (hno u2 hR) e
      rw [show has O1' u2 = true from has_mem.mpr ⟨m1, h1⟩] at this; cases this
    · have fa := B.lF a mm hm
      have q := bF a fa
      rw [hO, Bool.or_eq_false_iff] at q
      exact (m.lent a mm hm).mono sm fun o e => k1 a o q.1 e
/-- o.m(..), o a mutable that changes -/
theorem eg_methE {Ar : Om → Om → List D → D → Om → Prop} {ns : List Str} {m : Str} {f q : Addr} {es' : List D} (ho : EV X B ρ O o (.rf q)) (hq : (q, M.ins C ns ds) ∈ O) (c : Cls X.K C) (hm : Meth X.K C m f) (F : Fok X.prog X.w X.K X.mg X.base CX0 k f (spE X.K Ar)) (hr : Room k X.A) (ha : EA X B ρ O (e :: es) es') (hn : ns.idxOf? m = none)
    (hp : O.Perm (O1 ++ R)) (hp' : (O1' ++ R).Perm O'') (h : Ar (B.L ++ R) O1 (.rf q :: es') d O1') (pl : Sem Bool)
    (hst : starEach (e :: es) X.env = (false, eval e X.env) :: starEach es X.env := by rfl) (hpl : (backTo pos (starEach es X.env)).any (·.1) = false := by rfl)
    (ht : eval (.Call (.Attribute o m apos) (e :: es) [] pos) X.env = (do
      let ov ← eval o X.env
      standAt apos.atName
      let (f, first) ← holding [ov] (getMethod ov m pl)
      callWith pos f first (backTo pos (starEach (e :: es) X.env)) (backToKw pos (keywordEach [] X.env))) := by rfl) :
    EG X B ρ O (.Call (.Attribute o m apos) (e :: es) [] pos) d O'' :=
  pe_imp (pe_methR (E := E0) (pl := pl) ho c hm F.raw hr pass0 ha hst hpl ht) fun σ H Q ⟨st, k⟩ => ⟨st, fun v H1 e1 r1 => by
    cases r1
    have s1 := st.same e1
    obtain ⟨dx, fv, h1, h2, h3⟩ := s1.m.mem _ _ hq
    exact ⟨_, _, _, rfl, h1, look_no h2 hn, s1, fun vs H2 e2 r2 => spE_use (s1.same e2) hp hp' (.cons (.rf q) r2) h fun w H3 s3 e3 r3 => k w H3 s3 (((vis_same e1).trans (vis_same e2)).trans e3) r3⟩⟩
/-- o.m(..), o an instance that may be a mutable, nothing changed -/
theorem ev_methV {Ar : Om → List D → D → Prop} {ns : List Str} {m : Str} {f : Addr} {es' : List D} (he : EV X B ρ O o d1) (w : Vo (B.L ++ O) d1 C ns ds) (c : Cls X.K C) (hm : Meth X.K C m f) (F : Fok X.prog X.w X.K X.mg X.base CX0 k f (spP X.K Ar)) (hr : Room k X.A) (ha : EA X B ρ O (e :: es) es') (hn : ns.idxOf? m = none)
    (h : Ar (B.L ++ O) (d1 :: es') d) (pl : Sem Bool)
    (hst : starEach (e :: es) X.env = (false, eval e X.env) :: starEach es X.env := by rfl) (hpl : (backTo pos (starEach es X.env)).any (·.1) = false := by rfl)
    (ht : eval (.Call (.Attribute o m apos) (e :: es) [] pos) X.env = (do
      let ov ← eval o X.env
      standAt apos.atName
      let (f, first) ← holding [ov] (getMethod ov m pl)
      callWith pos f first (backTo pos (starEach (e :: es) X.env)) (backToKw pos (keywordEach [] X.env))) := by rfl) :
    EV X B ρ O (.Call (.Attribute o m apos) (e :: es) [] pos) d :=
  pe_imp (pe_methR (E := E0) (pl := pl) he c hm F.raw hr pass0 ha hst hpl ht) fun σ H Q ⟨st, k⟩ => ⟨st, fun v H1 e1 r1 => by
    obtain ⟨a, dx, fv, rfl, h1, h2, h3⟩ := w.at (st.same e1).m r1
    exact ⟨_, _, _, rfl, h1, look_no h2 hn, st.same e1, fun vs H2 e2 r2 => spP_use ((st.same e1).same e2).m (.cons (r1.mono (vis_same e2)) r2) h fun w H3 e3 r3 => k w H3 ((e1.trans e2).trans e3) r3⟩⟩
/-- o.f, a property of an instance that may be a mutable -/
theorem ev_propV {Ar : Om → List D → D → Prop} {ns : List Str} {f : Str} {pp g : Addr} (he : EV X B ρ O o d1) (w : Vo (B.L ++ O) d1 C ns ds) (c : Cls X.K C) (hp : PropOf X.K C f pp g) (F : Fok X.prog X.w X.K X.mg X.base CX0 k g (spP X.K Ar)) (hr : Room (k + 1) X.A)
    (h : Ar (B.L ++ O) [d1] d) (hb : attributeBase o f X.env (eval o X.env) = eval o X.env := by rfl) : EV X B ρ O (.Attribute o f pos) d := by
  obtain ⟨fd, ps, G, b⟩ := F.ex
  exact pe_imp (pe_prop (E := E0) (dvs := []) he c hp G hr b .nil pass0 hb) fun σ H Q ⟨st, k⟩ => ⟨st, fun v H1 e1 r1 => by
    obtain ⟨a, dx, fv, rfl, h1, h2, h3⟩ := w.at (st.same e1).m r1
    exact ⟨_, _, _, rfl, h1, spP_use (st.same e1).m (.cons r1 .nil) h fun w H3 e3 r3 => k w H3 (e1.trans e3) r3⟩⟩
/-- o.f = e, f a property with a setter -/
theorem j_pset {A : AE} {Ar : Om → Om → List D → D → Om → Prop} {ns : List Str} {f : Str} {pp g q : Addr} (ho : EV X B ρ O o (.rf q)) (he : EV X B ρ O e d0) (hq : (q, M.ins C ns ds) ∈ O) (c : Cls X.K C) (hps : PSetOf X.K C f pp g) (F : Fok X.prog X.w X.K X.mg X.base CX0 k g (spE X.K Ar)) (hr : Room (k + 2) X.A)
    (hp : O.Perm (O1 ++ R)) (hp' : (O1' ++ R).Perm O'') (h : Ar (B.L ++ R) O1 [.rf q, d0] d O1') (hn : A.nx ρ O'') (hs : swapsWith e (some (.Attribute o f pos')) pos.line X.env = pure false) : J1 X B (.Assign [.Attribute o f pos'] e pos) ρ O A :=
  ps_imp (ps_pset (E := E0) c hps F.raw hr pass0 ho he hs) fun Dn σ H ⟨st, pp⟩ => ⟨st, fun v H1 e1 r1 => ⟨st.same e1, fun u H2 e2 r2 => by
    cases r2
    have s2 := (st.same e1).same e2
    obtain ⟨dx, fv, h1, h2, h3⟩ := s2.m.mem _ _ hq
    exact ⟨q, dx, fv, rfl, h1, spE_use s2 hp hp' (.cons (.rf q) (.cons (r1.mono (vis_same e2)) .nil)) h fun w H3 s3 e3 r3 => pp.nx ρ O'' σ H3 hn s3 (((vis_same e1).trans (vis_same e2)).trans e3)⟩⟩⟩
/-! ### a new instance as a mutable -/
def tM (K : PySem.W.Frag) (B : Gd) (ρ : List (Option D)) (O : Om) (C : Addr) (ns : List Str) (fs : List D) : TE := fun σ H Q => StOk K B ρ O σ H ∧
  ∀ p dx fv H', H p = none → Same H H' → H' p = some (.ins C dx fv) → fv.map (·.1) = ns → RpL K (vis B.F ((p, .ins C ns fs) :: O) H') (fv.map (·.2)) fs → Q (.ref p) H'
abbrev EM (X : Cx) (B : Gd) (ρ : List (Option D)) (O : Om) (e : Expr) (C : Addr) (ns : List Str) (fs : List D) : Prop := PE X e (tM X.K B ρ O C ns fs)
theorem made_useM {K : PySem.W.Frag} {Ar : Om → List D → List Str → List D → Prop} {H : Hp} {Q : VK} {E : XK} {vs : List V} {ns : List Str} {fs : List D} (m : MOk K B O H) (r : RpL K (vis B.F O H) vs ds) (h : Ar (B.L ++ O) ds ns fs)
    (k : ∀ p dx fv H', H p = none → Same H H' → H' p = some (.ins C dx fv) → fv.map (·.1) = ns → RpL K (vis B.F ((p, .ins C ns fs) :: O) H') (fv.map (·.2)) fs → Q (.ref p) H') (x dx : Addr) (hx : H x = none) (hdx : H dx = none) (ne : dx ≠ x) :
    spI K C Ar (V.ref x :: vs) (upd (upd H dx (.own x)) x (.ins C dx [])) (fun v H2 => v = .non ∧ Q (.ref x) H2) E := by
  have s1 : Same H (upd (upd H dx (.own x)) x (.ins C dx [])) := fun b o e => by
    rw [upd_ne (ne_of_none e hx), upd_ne (ne_of_none e hdx)]
    exact e
  have fx : frF B O x = false := by
    unfold frF
    rw [m.newF hx, m.newO hx]; rfl
  have v1 : Same (vis B.F O H) (vis (frF B O) [(x, .ins C [] [])] (upd (upd H dx (.own x)) x (.ins C dx []))) := fun a o q => by
    obtain ⟨h1, h2, h3⟩ := vis_some.mp q
    have na : a ≠ x := ne_of_none h3 hx
    refine vis_some.mpr ⟨by unfold frF; rw [h1, h2]; rfl, ?_, s1 _ _ h3⟩
    rw [has_cons]
    show (x == a || false) = false
    rw [Bool.or_false]
    exact beq_eq_false_iff_ne.mpr (Ne.symm na)
  have bo := bor_of m
  refine ⟨frF B O, B.L ++ O, x, dx, vs, ds, ns, fs, rfl, ⟨fun a h => let ⟨o, e⟩ := fr_ok m a h; ⟨o, s1 _ _ e⟩, bo.lF, fun a mm hm => (show MRp K (vis B.F O H) H a mm by rw [← vis_fr]; exact bo.lent a mm hm).mono v1 fun o q => s1 _ _ q⟩, fx, upd_same, r.mono v1, h, fun H' dx' fv hk hx' hns r' => ⟨rfl, ?_⟩⟩
  have s2 : Same H H' := fun b o e => hk b o (ne_of_none e hx) (s1 b o e)
  refine k x dx' fv H' hx s2 hx' hns ?_
  rw [vis_fr1] at r'
  rw [show vis B.F ((x, .ins C ns fs) :: O) H' = vis B.F ((x, .ins C [] []) :: O) H' from vis_keys rfl]
  exact r'
/-- C(e, .., k = v, ..) -/
theorem em_makeK {Ar : Om → List D → List Str → List D → Prop} {f : Addr} {fd : FuncData} {ps ks : List Str} {ns : List Str} {fs dz : List D} {n : Nat} {kws : List Keyword} {g : List Value → List Value → List Value} {gV : List V → List V → List V} {gD : List D → List D → List D} (Mk : Mk X.K C f) (F : FnOk X.prog X.w X.K X.mg X.base CX0 k f fd ps (spI X.K C Ar)) (hr : Room (k + 1) X.A) (hg : Gl X x) (hm : X.mg x = some (.ref C))
    (hb : KBn X.K fd ps (n + 1) ks g gV) (ha : EA X B ρ O (e :: es) ds) (hkw : PK X kws (tA X.K B ρ O dz)) (hl : ds.length = n) (hz : dz.length = ks.length) (hgv : ∀ (u : V) vs zs, gV (u :: vs) zs = u :: (gV (u :: vs) zs).tail) (hgr : ∀ (Hv : Hp) (u : V) vs zs, RpL X.K Hv vs ds → RpL X.K Hv zs dz → RpL X.K Hv (gV (u :: vs) zs).tail (gD ds dz)) (h : Ar (B.L ++ O) (gD ds dz) ns fs)
    (hall : (backToKw pos (keywordEach kws X.env)).all (·.1.isSome) = true := by rfl) (hks : (backToKw pos (keywordEach kws X.env)).filterMap (·.1) = ks := by rfl) (hdb : (x == ("__debug__" : Str)) = false := by decide)
    (he : starEach (e :: es) X.env = (false, eval e X.env) :: starEach es X.env := by rfl) (hpl : ((backTo pos (starEach (e :: es) X.env)).any (·.1) || (backToKw pos (keywordEach kws X.env)).any (·.1.isNone)) = false := by rfl) :
    EM X B ρ O (.Call (.Name x p) (e :: es) kws pos) C ns fs :=
  pe_imp (pe_makeK (E := E0) Mk F hr hg hm hb pass0 ha hkw hall hks hdb he hpl) fun σ H Q ⟨st, k⟩ => ⟨st, fun vs H1 e1 r1 => ⟨st.same e1, fun zs H2 e2 r2 => by
    have s2 := (st.same e1).same e2
    refine ⟨by rw [r1.length]; exact hl, by rw [r2.length]; exact hz, fun y dy hy hdy ne => ?_⟩
    rw [hgv]
    exact made_useM s2.m (hgr _ (.ref y) vs zs (r1.mono (vis_same e2)) r2) h (fun p dx fv H3 hp e3 hq h1 h2 => k p dx fv H3 (e1.free (e2.free hp)) ((e1.trans e2).trans e3) hq h1 h2) y dy hy hdy ne⟩⟩
/-- C(e, ..), the lacking ones by defaults -/
theorem em_makeR {Ar : Om → List D → List Str → List D → Prop} {f : Addr} {sp : Sp} {ns : List Str} {fs : List D} (Mk : Mk X.K C f) (F : FnR X.prog X.w X.K X.mg X.base CX0 k f sp) (hr : Room (k + 1) X.A) (hg : Gl X x) (hm : X.mg x = some (.ref C)) (ha : EA X B ρ O (e :: es) ds)
    {dvs : List V} {dvd : List D} (hsp : ∀ vs H Q E, spI X.K C Ar (vs ++ dvs) H Q E → sp vs H Q E) (hd : ∀ Hv, RpL X.K Hv dvs dvd) (h : Ar (B.L ++ O) (ds ++ dvd) ns fs) (hdb : (x == ("__debug__" : Str)) = false := by decide)
    (he : starEach (e :: es) X.env = (false, eval e X.env) :: starEach es X.env := by rfl) (hpl : (backTo pos (starEach es X.env)).any (·.1) = false := by rfl) : EM X B ρ O (.Call (.Name x p) (e :: es) [] pos) C ns fs :=
  pe_imp (StX.pe_makeR (E := E0) Mk F hr hg hm pass0 ha hdb he hpl) fun σ H Q ⟨st, k⟩ => ⟨st, fun vs H1 e1 r1 y dy hy hdy ne => by
    refine hsp _ _ _ _ ?_
    exact made_useM (st.same e1).m (r1.append (hd _)) h (fun p dx fv H3 hp e3 hq h1 h2 => k p dx fv H3 (e1.free hp) (e1.trans e3) hq h1 h2) y dy hy hdy ne⟩
/-- x = a new instance that will be changed -/
theorem j_setM {A : AE} {ns : List Str} {fs : List D} (i : Nat) (hN : X.N.Nodup) (hi : X.N[i]? = some x) (hx : Loc X.env.scope x) (he : EM X B ρ O e C ns fs) (hs : swapsWith e (some (.Name x pos')) pos.line X.env = pure false) (hf : X.fn x = true ∨ X.env.scope.names.lookup x = some .local)
    (h : ∀ p, has O p = false → A.nx (ρ.set i (some (.rf p))) ((p, .ins C ns fs) :: O)) : J1 X B (.Assign [.Name x pos'] e pos) ρ O A :=
  ps_imp (ps_set hN hi hx he hs hf) fun Dn σ H ⟨st, p⟩ => ⟨st, fun q dx fv H1 hp e1 hv hns r => by
    have op := st.m.newO hp
    have vs1 : Same (vis B.F O H) (vis B.F ((q, .ins C ns fs) :: O) H1) := fun a o h => by
      obtain ⟨h1, h2, h3⟩ := vis_some.mp h
      have ne : a ≠ q := ne_of_none h3 hp
      exact vis_some.mpr ⟨h1, by rw [has_cons, h2, Bool.or_false]; exact beq_eq_false_iff_ne.mpr (Ne.symm ne), e1 _ _ h3⟩
    refine p.nx _ _ _ H1 (h q op) ⟨⟨fun a o hb => ?_, fun a m hm => ?_, ?_, fun a m hm => (st.m.lent a m hm).mono vs1 fun o q => e1 _ _ q⟩, ?_⟩ vs1
    · have := st.m.base a o hb
      have ne : a ≠ q := ne_of_none this.1 hp
      exact ⟨e1 _ _ this.1, by rw [has_cons, this.2, Bool.or_false]; exact beq_eq_false_iff_ne.mpr (Ne.symm ne)⟩
    · rcases List.mem_cons.mp hm with z | z
      · cases z; exact ⟨dx, fv, hv, hns, r⟩
      · exact (st.m.mem a m z).mono vs1 fun o q => e1 _ _ q
    · rw [List.map_cons, List.nodup_cons]
      refine ⟨fun z => ?_, st.m.nd⟩
      obtain ⟨⟨a, m⟩, hm, ea⟩ := List.mem_map.mp z
      have : has O q = true := has_mem.mpr ⟨m, by have z : a = q := ea; rw [← z]; exact hm⟩
      rw [op] at this; cases this
    · exact (st.env.mono vs1).set (.rf q)⟩
/-- .. as a value -/
theorem ev_ofM {ns : List Str} {fs : List D} (h : EM X B ρ O e C ns fs) : EV X B ρ O e (.obj C ns fs) := pe_imp h fun σ H Q ⟨st, k⟩ => ⟨st, fun p dx fv H' hp e1 hv hns r => by
  have fp := st.m.newF hp
  have op := st.m.newO hp
  refine k _ H' e1 (.obj (vis_some.mpr ⟨fp, op, hv⟩) hns (r.mono fun a o h => ?_))
  obtain ⟨h1, h2, h3⟩ := vis_some.mp h
  rw [has_cons, Bool.or_eq_false_iff] at h2
  exact vis_some.mpr ⟨h1, h2.2, h3⟩⟩
end
end DL

set_option Elab.async false
set_option linter.all false
set_option maxRecDepth 100000
set_option maxHeartbeats 4000000
namespace L2
open PySem PySem.Spec PyProof.Rows
/-! ### l.count(x), data -/
def rCountD (K : PySem.W.Frag) : V → List V → Hp → VK → Prop := fun x xs H Q => ∃ (a : Addr) (y : V) (d : PyData) (ds : List PyData), x = V.ref a ∧ xs = [y] ∧ Dp K H (V.ref a) (.list ds) ∧ Dp K H y d ∧ SeqAt.shaped (.list ds) = true ∧ SeqAt.shaped d = true ∧ Q (.int ((ds.countP fun z => PyData.eqv z d : Nat) : Int)) H
theorem mt_countD {X : Cx} (hu : X.A.units + 65 < cLine) : MtR X "list.count" (rCountD X.K) := by
  intro pins s σ H x xs v us Q I rx rxs h
  obtain ⟨a, y, d, ds, rfl, rfl, hl, hy, sl, sd, q⟩ := h
  cases rx
  cases rxs with
  | cons ry rt =>
    rename_i uy ut
    cases rt
    obtain ⟨bs, r1⟩ := Dp.reads I d y uy hy ry
    have hxs : PyData.canLayAll0 ds = true := SeqAt.canLay_of_shaped sl
    have hroom : X.A.units + 1 + min (PyData.depthAll ds) d.depth < cLine := room_in_shaped sd hu
    cases hl with
    | lst hs ha =>
      obtain ⟨its, rv, ⟨⟨cls, dd, data, sls⟩, n, ho, hc, hdn, hdt⟩, hlen⟩ := I.list hs
      simp only at hc hdt
      subst hc hdt
      obtain ⟨as, h4⟩ := Dp.readsAll I ds _ its ha rv
      have hmap : its.map (SeqAt.readOf s.heap) = ds := SeqAt.readsAll_map ds its as hxs h4
      have ec : its.toArray.toList.countP (fun u => PyData.eqv (SeqAt.readOf s.heap u) d) = ds.countP fun z => PyData.eqv z d := by
        rw [← hmap, List.countP_map]; rfl
      refine call_meets PySem.F.slot_list_count ⟨_, ho, rfl⟩ PySem.F.entry_list_count (PySem.F.args_list_count_2 _ _)
        (SeqAt.list_countAt a its.toArray n dd sls uy (fun u => PyData.eqv (SeqAt.readOf s.heap u) d)) ⟨ho, SeqAt.items_eqAt (vs := its.toArray) (show ReadsAll s.heap its.toArray.toList ds as from h4) r1 hxs (SeqAt.canLay_of_shaped sd) hroom, ?_⟩
      refine ⟨.int ((ds.countP fun z => PyData.eqv z d : Nat) : Int), H, I.tok _, ⟨s.toks, ?_⟩, q⟩
      show Value.int ((its.toArray.toList.countP (fun u => PyData.eqv (SeqAt.readOf s.heap u) d) : Nat) : Int) s.toks = _
      rw [ec]
/-- not e, by e's truth -/
theorem pe_notV {X : Cx} {a : Expr} {ta : TE} {pos : Pos} (ha : PE X a ta) : PE X (.UnaryOp .Not a pos) (fun σ H Q => ta σ H fun x H1 => ∃ k, TruV X.K x H1 k ∧ Q (.bl (!k)) H1) := by
  refine ⟨fun pins s σ H Q I h => ?_⟩
  refine UnaryOp_ (thn (ha.run pins s σ H _ I h) fun v s1 ⟨x, H1, I1, r1, k, q1, q2⟩ => ?_)
  exact not_of (wpAny_mono (tru_ok pins s1 σ H1 x v (fun b H2 => b = k ∧ H2 = H1) I1 r1 ⟨k, q1, rfl, rfl⟩) (fun c s2 ⟨H2, I2, hb, hH⟩ => by subst hb; subst hH; exact ⟨.bl (!c), H2, I2, rfl, q2⟩) fun _ _ z => z)
end L2
namespace DL
open PySem PySem.Spec PyProof.Rows L2
/-! ### expressions that change mutables, by mirrors -/
/-- a def that changes: its value, and its mutables' contents behind -/
abbrev rtE {R S : Type} (e : R → D) (o : S → Om) : R × S → D → Om → Prop := fun r d O => ∃ O1, O = O1 ++ o r.2 ∧ Frz O1 d (e r.1)
theorem Put.split {p : Addr} {m m' : M} : ∀ {O O' : Om}, Put O p m m' O' → ∃ R, O.Perm ([(p, m)] ++ R) ∧ ([(p, m')] ++ R).Perm O'
  | _, _, .head (O := O) => ⟨O, .refl _, .refl _⟩
  | _, _, .tail (q := q) h => by
    obtain ⟨R, h1, h2⟩ := h.split
    exact ⟨q :: R, (h1.cons q).trans (.swap _ _ _), (List.Perm.swap _ _ _).trans (h2.cons q)⟩
section
variable {X : Cx} {B : Gd} {ρ ρ' : List (Option D)} {O O' O1 O1' R O'' : Om} {a b c e o e1 e2 : Expr} {es : List Expr} {d d0 d1 d2 d3 : D} {ds : List D} {pos pos' p apos spos : Pos} {st0 h₀ : Stmt} {ss rest body s1 s2 : List Stmt} {x : Str} {k : Nat} {C : Addr} {b1 b2 : Bool}
variable {α β γ S : Type} {E : β → D} {A : α → AE} {st : S → Om}
def EGm (X : Cx) (B : Gd) (ρ : List (Option D)) (O : Om) (e : Expr) (E : β → D) (st : S → Om) (m : Cmp (β × S)) : Prop := m.ok → EG X B ρ O e (E m.val.1) (st m.val.2)
def tTG (K : PySem.W.Frag) (B : Gd) (ρ : List (Option D)) (O : Om) (b : Bool) (O' : Om) : TT := fun σ H Q => StOk K B ρ O σ H ∧ ∀ H', StOk K B ρ O' σ H' → Same (vis B.F O H) (vis B.F O' H') → Q b H'
def ETm (X : Cx) (B : Gd) (ρ : List (Option D)) (O : Om) (e : Expr) (st : S → Om) (m : Cmp (Bool × S)) : Prop := m.ok → PT X e (tTG X.K B ρ O m.val.1 (st m.val.2))
def EWm (X : Cx) (B : Gd) (ρ : List (Option D)) (O : Om) (e : Expr) (st : S → Om) (m : Cmp (Bool × S)) : Prop := m.ok → PW X e (tTG X.K B ρ O m.val.1 (st m.val.2))
def negM (m : Cmp (Bool × S)) : Cmp (Bool × S) := m.bind fun p => .ret (!p.1, p.2)
def andM (m : Cmp (Bool × S)) (m2 : S → Cmp (Bool × S)) : Cmp (Bool × S) := m.bind fun p => if p.1 = true then m2 p.2 else .ret (false, p.2)
def orM (m : Cmp (Bool × S)) (m2 : S → Cmp (Bool × S)) : Cmp (Bool × S) := m.bind fun p => if p.1 = true then .ret (true, p.2) else m2 p.2
def iteM (m : Cmp (Bool × S)) (m1 m2 : S → Cmp α) : Cmp α := m.bind fun p => if p.1 = true then m1 p.2 else m2 p.2
def retM (m : Cmp (β × S)) (f : β → α) : Cmp α := m.bind fun p => .ret (f p.1)
def setM (m : Cmp (β × S)) (m2 : β → S → Cmp α) : Cmp α := m.bind fun p => m2 p.1 p.2
def callM (m : Cmp (γ × S)) (cd : γ → S → Prop) (v : γ → S → β) : Cmp (β × S) := m.bind fun p => .req (cd p.1 p.2) (.ret (v p.1 p.2, p.2))
def methM (mc : Cmp (β × γ)) (upd : γ → S) : Cmp (β × S) := mc.bind fun p => .ret (p.1, upd p.2)
theorem egm_pure {s : S} {v : β} (h : EV X B ρ (st s) e (E v)) : EGm X B ρ (st s) e E st (.ret (v, s)) := fun _ => eg_of h
theorem egm_req {q : Prop} {m : Cmp (β × S)} (h : q → EGm X B ρ O e E st m) : EGm X B ρ O e E st (.req q m) := fun ok => h ok.1 ok.2
theorem etm_req {q : Prop} {m : Cmp (Bool × S)} (h : q → ETm X B ρ O e st m) : ETm X B ρ O e st (.req q m) := fun ok => h ok.1 ok.2
theorem etm_pure {s : S} (h : ET X B ρ (st s) e b1) : ETm X B ρ (st s) e st (.ret (b1, s)) := fun _ => pt_imp h fun σ H Q ⟨w, k⟩ => ⟨w, fun H1 e1 => k H1 (w.same e1) (vis_same e1)⟩
theorem etm_of {m : Cmp (Bool × S)} (h : EGm X B ρ O e D.bl st m) (he : ∀ whole, isTrue e X.env whole = (do let v ← whole; standAt e.pos; holding [v] (truthy v)) := by intro _; rfl) : ETm X B ρ O e st m := fun ok =>
  pt_imp (pt_val (h ok) he) fun σ H Q ⟨w, k⟩ => ⟨w, fun v H1 s1 e1 r1 => by cases r1; exact ⟨_, rfl, k H1 s1 e1⟩⟩
theorem etm_not {m : Cmp (Bool × S)} (h : ETm X B ρ O a st m) : ETm X B ρ O (.UnaryOp .Not a pos) st (negM m) := fun ok => pt_imp (pt_not (h ok.1)) fun σ H Q ⟨w, k⟩ => ⟨w, fun H1 s1 e1 => k H1 s1 e1⟩
theorem egm_not {m : Cmp (Bool × S)} (h : EGm X B ρ O a D.bl st m) : EGm X B ρ O (.UnaryOp .Not a pos) D.bl st (negM m) := fun ok => pe_imp (pe_not (h ok.1)) fun σ H Q ⟨w, k⟩ => ⟨w, fun v H1 s1 e1 r1 => by cases r1; exact ⟨_, rfl, k _ H1 s1 e1 (.bl _)⟩⟩
theorem ewm_and1 {m : Cmp (Bool × S)} (h : ETm X B ρ O a st m) : EWm X B ρ O (.BoolOp .And [a] pos) st m := fun ok => pw_and1 (h ok)
theorem ewm_or1 {m : Cmp (Bool × S)} (h : ETm X B ρ O a st m) : EWm X B ρ O (.BoolOp .Or [a] pos) st m := fun ok => pw_or1 (h ok)
theorem ewm_and {m : Cmp (Bool × S)} {m2 : S → Cmp (Bool × S)} (h1 : ETm X B ρ O a st m) (h2 : ∀ s, EWm X B ρ (st s) (.BoolOp .And (b :: es) pos) st (m2 s)) : EWm X B ρ O (.BoolOp .And (a :: b :: es) pos) st (andM m m2) := fun ok => by
  obtain ⟨q, v, s⟩ := m
  obtain ⟨ok1, ok2⟩ := ok
  have h := h1 ok1
  cases v with
  | true => exact pw_imp (pw_and h (h2 s ok2)) fun σ H Q ⟨w, k⟩ => ⟨w, fun H1 s1 e1 => iteT ⟨s1, fun H2 s2 e2 => k H2 s2 (e1.trans e2)⟩⟩
  | false => exact pw_imp (pw_and h (tB' := fun _ _ _ => False) ⟨fun _ _ _ _ _ _ _ h => h.elim⟩) fun σ H Q ⟨w, k⟩ => ⟨w, fun H1 s1 e1 => iteF (k H1 s1 e1)⟩
theorem ewm_or {m : Cmp (Bool × S)} {m2 : S → Cmp (Bool × S)} (h1 : ETm X B ρ O a st m) (h2 : ∀ s, EWm X B ρ (st s) (.BoolOp .Or (b :: es) pos) st (m2 s)) : EWm X B ρ O (.BoolOp .Or (a :: b :: es) pos) st (orM m m2) := fun ok => by
  obtain ⟨q, v, s⟩ := m
  obtain ⟨ok1, ok2⟩ := ok
  have h := h1 ok1
  cases v with
  | false => exact pw_imp (pw_or h (h2 s ok2)) fun σ H Q ⟨w, k⟩ => ⟨w, fun H1 s1 e1 => iteF ⟨s1, fun H2 s2 e2 => k H2 s2 (e1.trans e2)⟩⟩
  | true => exact pw_imp (pw_or h (tB' := fun _ _ _ => False) ⟨fun _ _ _ _ _ _ _ h => h.elim⟩) fun σ H Q ⟨w, k⟩ => ⟨w, fun H1 s1 e1 => iteT (k H1 s1 e1)⟩
theorem etm_w {m : Cmp (Bool × S)} (h : EWm X B ρ O e st m) : ETm X B ρ O e st m := fun ok => PW.pt (h ok)
/-- values of and, or: all of them truths -/
theorem egm_one {op} {m : Cmp (β × S)} (h : EGm X B ρ O a E st m) : EGm X B ρ O (.BoolOp op [a] pos) E st m := fun ok => pe_one (h ok)
theorem egm_and {m : Cmp (Bool × S)} {m2 : S → Cmp (Bool × S)} (h1 : EGm X B ρ O a D.bl st m) (h2 : ∀ s, EGm X B ρ (st s) (.BoolOp .And (b :: es) pos) D.bl st (m2 s)) : EGm X B ρ O (.BoolOp .And (a :: b :: es) pos) D.bl st (andM m m2) := fun ok => by
  obtain ⟨q, v, s⟩ := m
  obtain ⟨ok1, ok2⟩ := ok
  have h := h1 ok1
  cases v with
  | true => exact pe_imp (pe_and h (h2 s ok2)) fun σ H Q ⟨w, k⟩ => ⟨w, fun v H1 s1 e1 r1 => by cases r1; exact ⟨true, rfl, iteT ⟨s1, fun u H2 s2 e2 r2 => k u H2 s2 (e1.trans e2) r2⟩⟩⟩
  | false => exact pe_imp (pe_and h (tb := fun _ _ _ => False) ⟨fun _ _ _ _ _ _ h => h.elim⟩) fun σ H Q ⟨w, k⟩ => ⟨w, fun v H1 s1 e1 r1 => by cases r1; exact ⟨false, rfl, iteF (k _ H1 s1 e1 (.bl _))⟩⟩
theorem egm_or {m : Cmp (Bool × S)} {m2 : S → Cmp (Bool × S)} (h1 : EGm X B ρ O a D.bl st m) (h2 : ∀ s, EGm X B ρ (st s) (.BoolOp .Or (b :: es) pos) D.bl st (m2 s)) : EGm X B ρ O (.BoolOp .Or (a :: b :: es) pos) D.bl st (orM m m2) := fun ok => by
  obtain ⟨q, v, s⟩ := m
  obtain ⟨ok1, ok2⟩ := ok
  have h := h1 ok1
  cases v with
  | false => exact pe_imp (pe_or h (h2 s ok2)) fun σ H Q ⟨w, k⟩ => ⟨w, fun v H1 s1 e1 r1 => by cases r1; exact ⟨false, rfl, iteF ⟨s1, fun u H2 s2 e2 r2 => k u H2 s2 (e1.trans e2) r2⟩⟩⟩
  | true => exact pe_imp (pe_or h (tb := fun _ _ _ => False) ⟨fun _ _ _ _ _ _ h => h.elim⟩) fun σ H Q ⟨w, k⟩ => ⟨w, fun v H1 s1 e1 r1 => by cases r1; exact ⟨true, rfl, iteT (k _ H1 s1 e1 (.bl _))⟩⟩
/-- f(e, ..), what changes stands in the first argument -/
theorem egm_call {Ar : Om → List D → D → Prop} {m : Cmp (γ × S)} {Eγ : γ → D} {cd : γ → S → Prop} {v : γ → S → β} {dsr : γ → S → List D} (cl : Cal X.prog X.w X.K X.mg X.base CX0 k x (spP X.K Ar)) (hr : Room k X.A) (hg : Gl X x) (ha : EGm X B ρ O e Eγ st m)
    (hs : ∀ y s, cd y s → EA X B ρ (st s) es (dsr y s) ∧ Ar (B.L ++ st s) (Eγ y :: dsr y s) (E (v y s))) (hdb : (x == ("__debug__" : Str)) = false := by decide)
    (he : starEach (e :: es) X.env = (false, eval e X.env) :: starEach es X.env := by rfl) (hpl : (backTo pos (starEach es X.env)).any (·.1) = false := by rfl) :
    EGm X B ρ O (.Call (.Name x p) (e :: es) [] pos) E st (callM m cd v) := fun ok => by
  obtain ⟨h1, h2⟩ := hs _ _ ok.2.1
  exact eg_call cl hr hg (ega_cons (ha ok.1) (ega_of h1) he) h2 hdb he hpl
/-- o.m(..), o a mutable instance -/
theorem egm_meth {Ar : Om → Om → List D → D → Om → Prop} {mc : Cmp (β × γ)} {vals : γ → List D} {v0 : γ} {upd : γ → S} {ns : List Str} {m : Str} {f q : Addr} {es' : List D} (ho : EV X B ρ O o (.rf q)) (c : Cls X.K C) (hm : Meth X.K C m f) (F : Fok X.prog X.w X.K X.mg X.base CX0 k f (spE X.K Ar)) (hr : Room k X.A) (ha : EA X B ρ O (e :: es) es') (hn : ns.idxOf? m = none)
    (hput : ∀ v, Put O q (.ins C ns (vals v0)) (.ins C ns (vals v)) (st (upd v))) (h : mc.ok → ∀ R : Om, (∀ z ∈ R, z ∈ O) → Ar (B.L ++ R) [(q, .ins C ns (vals v0))] (.rf q :: es') (E mc.val.1) [(q, .ins C ns (vals mc.val.2))]) (pl : Sem Bool)
    (hst : starEach (e :: es) X.env = (false, eval e X.env) :: starEach es X.env := by rfl) (hpl : (backTo pos (starEach es X.env)).any (·.1) = false := by rfl)
    (ht : eval (.Call (.Attribute o m apos) (e :: es) [] pos) X.env = (do
      let ov ← eval o X.env
      standAt apos.atName
      let (f, first) ← holding [ov] (getMethod ov m pl)
      callWith pos f first (backTo pos (starEach (e :: es) X.env)) (backToKw pos (keywordEach [] X.env))) := by rfl) :
    EGm X B ρ O (.Call (.Attribute o m apos) (e :: es) [] pos) E st (methM mc upd) := fun ok => by
  have hp0 := hput mc.val.2
  obtain ⟨R, h1, h2⟩ := hp0.split
  exact eg_methE ho hp0.mem c hm F hr ha hn h1 h2 (h ok.1 R fun z hz => h1.mem_iff.mpr (List.mem_append_right _ hz)) pl hst hpl ht
/-! ### statements over such expressions -/
theorem jc1_iteG {m : Cmp (Bool × S)} {m1 m2 : S → Cmp α} (hc : ETm X B ρ O c st m) (h1 : ∀ s, JC X B s1 ρ (st s) A (m1 s)) (h2 : ∀ s, JC X B s2 ρ (st s) A (m2 s)) : JC1 X B (.If c s1 s2 pos) ρ O A (iteM m m1 m2) := fun ok => by
  obtain ⟨q, v, s⟩ := m
  obtain ⟨ok1, ok2⟩ := ok
  have h := hc ok1
  cases v with
  | true => exact ps_imp (ps_if h (h1 s ok2) (u := fun _ _ _ => False) ⟨fun _ _ _ _ _ _ h => h.elim⟩) fun Dn σ H ⟨w, p⟩ => ⟨w, fun H1 s1 e1 => iteT ⟨s1, p.grow e1⟩⟩
  | false => exact ps_imp (ps_if h (t := fun _ _ _ => False) ⟨fun _ _ _ _ _ _ h => h.elim⟩ (h2 s ok2)) fun Dn σ H ⟨w, p⟩ => ⟨w, fun H1 s1 e1 => iteF ⟨s1, p.grow e1⟩⟩
theorem jc_ifrG {m : Cmp (Bool × S)} {m1 m2 : S → Cmp α} (hc : ETm X B ρ O c st m) (h1 : ∀ s, JC X B s1 ρ (st s) (fun v => noNx (A v)) (m1 s)) (h2 : ∀ s, JC X B rest ρ (st s) A (m2 s)) : JC X B (.If c s1 [] pos :: rest) ρ O A (iteM m m1 m2) := fun ok => by
  obtain ⟨q, v, s⟩ := m
  obtain ⟨ok1, ok2⟩ := ok
  have h := hc ok1
  cases v with
  | true =>
    have j : J X B s1 ρ (st s) { A (m1 s).val with nx := fun ρ' O' => J X B rest ρ' O' (A (m1 s).val) } := j_imp (h1 s ok2) (fun _ _ z => z.elim) (fun _ _ z => z) (fun _ _ z => z) (fun _ _ z => z) (fun _ _ _ _ _ z => z)
    exact j_cons (ps_imp (ps_if h j (u := fun _ _ _ => False) ⟨fun _ _ _ _ _ _ h => h.elim⟩) fun Dn σ H ⟨w, p⟩ => ⟨w, fun H1 s1 e1 => iteT ⟨s1, p.grow e1⟩⟩)
  | false =>
    have j : J X B [] ρ (st s) { A (m2 s).val with nx := fun ρ' O' => J X B rest ρ' O' (A (m2 s).val) } := j_nil (h2 s ok2)
    exact j_cons (ps_imp (ps_if h (t := fun _ _ _ => False) ⟨fun _ _ _ _ _ _ h => h.elim⟩ j) fun Dn σ H ⟨w, p⟩ => ⟨w, fun H1 s1 e1 => iteF ⟨s1, p.grow e1⟩⟩)
theorem jc_retG {m : Cmp (β × S)} {f : β → α} (he : EGm X B ρ O e E st m) (h : ∀ y s, (A (f y)).rt (E y) (st s)) : JC X B (.Return (some e) pos :: rest) ρ O A (retM m f) := fun ok => j_cons (j_retG (he ok.1) (h _ _))
theorem jc_setG (i : Nat) {m : Cmp (β × S)} {m2 : β → S → Cmp α} (nd : X.N.Nodup) (he : EGm X B ρ O e E st m) (h : ∀ y s, JC X B rest (ρ.set i (some (E y))) (st s) A (m2 y s)) (hi : X.N[i]? = some x := by rfl) (hx : Loc X.env.scope x := by first | exact .inl rfl | exact .inr rfl) (hs : swapsWith e (some (.Name x pos')) pos.line X.env = pure false := by rfl)
    (hf : X.fn x = true ∨ X.env.scope.names.lookup x = some .local := by first | exact .inr rfl | exact .inl rfl) : JC X B (.Assign [.Name x pos'] e pos :: rest) ρ O A (setM m m2) := fun ok => j_cons (j_setG nd hi hx (he ok.1) hs hf (h _ _ ok.2))
theorem jc_exprG {m : Cmp (β × S)} {m2 : β → S → Cmp α} (he : EGm X B ρ O e E st m) (h : ∀ y s, JC X B rest ρ (st s) A (m2 y s)) (hs : swapsWith e none pos.line X.env = pure false := by rfl) : JC X B (.Expr e pos :: rest) ρ O A (setM m m2) := fun ok => j_cons (j_expr (he ok.1) (h _ _ ok.2) hs)
/-- x = C(..), a mutable -/
theorem jc_setM (i : Nat) {vals : γ → List D} {v : γ} {ns : List Str} {m : γ → Cmp α} (nd : X.N.Nodup) (he : EM X B ρ O e C ns (vals v)) (h : ∀ q y, has O q = false → JC X B rest (ρ.set i (some (.rf q))) ((q, .ins C ns (vals y)) :: O) A (m y)) (hi : X.N[i]? = some x := by rfl) (hx : Loc X.env.scope x := by first | exact .inl rfl | exact .inr rfl) (hs : swapsWith e (some (.Name x pos')) pos.line X.env = pure false := by rfl)
    (hf : X.fn x = true ∨ X.env.scope.names.lookup x = some .local := by first | exact .inr rfl | exact .inl rfl) : JC X B (.Assign [.Name x pos'] e pos :: rest) ρ O A (.bnd v m) := fun ok => j_cons (j_setM i nd hi hx he hs hf fun q hq => h q v hq ok)
/-- o.f = e, o a mutable instance; what it holds behind: s' -/
theorem jc_fldM {δ : Type} {vals : γ → List D} {vals' : δ → List D} {s : γ} {s' : δ} {ns ns' : List Str} {f : Str} {q : Addr} {m : δ → Cmp α} {O2 : δ → Om} (ho : EV X B ρ O o (.rf q)) (he : EV X B ρ O e d) (c : Cls X.K C) (n : NoAttr X.K C f) (hv : (∃ i, ns.idxOf? f = some i ∧ ns' = ns ∧ (vals s).set i d = vals' s') ∨ (ns.idxOf? f = none ∧ ns' = ns ++ [f] ∧ vals s ++ [d] = vals' s')) (hl : ns.length < 1000)
    (hp : ∀ y, Put O q (.ins C ns (vals s)) (.ins C ns' (vals' y)) (O2 y)) (h : ∀ y, JC X B rest ρ (O2 y) A (m y)) (hs : swapsWith e (some (.Attribute o f pos')) pos.line X.env = pure false := by rfl) : JC X B (.Assign [.Attribute o f pos'] e pos :: rest) ρ O A (.bnd s' m) := fun ok => by
  have hp0 := hp s'
  rcases hv with ⟨i, h1, rfl, h3⟩ | ⟨h1, rfl, h3⟩
  · rw [← h3] at hp0
    exact j_cons (j_fldSet ho he c n hp0 h1 hl (h s' ok) hs)
  · rw [← h3] at hp0
    exact j_cons (j_fldNew ho he c n hp0 h1 hl (h s' ok) hs)
/-- o.f = e by a property's setter -/
theorem jc_pset {δ : Type} {Ar : Om → Om → List D → D → Om → Prop} {vals : γ → List D} {vals' : δ → List D} {s : γ} {mc : Cmp (Unit × δ)} {ns ns' : List Str} {f : Str} {pp g q : Addr} {m : Unit → δ → Cmp α} {O2 : δ → Om} (ho : EV X B ρ O o (.rf q)) (he : EV X B ρ O e d0) (c : Cls X.K C) (hps : PSetOf X.K C f pp g) (F : Fok X.prog X.w X.K X.mg X.base CX0 k g (spE X.K Ar)) (hr : Room (k + 2) X.A)
    (hp : ∀ y, Put O q (.ins C ns (vals s)) (.ins C ns' (vals' y)) (O2 y)) (ha : mc.ok → ∀ R : Om, (∀ z ∈ R, z ∈ O) → Ar (B.L ++ R) [(q, .ins C ns (vals s))] [.rf q, d0] .non [(q, .ins C ns' (vals' mc.val.2))]) (h : ∀ u y, JC X B rest ρ (O2 y) A (m u y)) (hs : swapsWith e (some (.Attribute o f pos')) pos.line X.env = pure false := by rfl) : JC X B (.Assign [.Attribute o f pos'] e pos :: rest) ρ O A (setM mc m) := fun ok => by
  have hp0 := hp mc.val.2
  obtain ⟨R, h1, h2⟩ := hp0.split
  exact j_cons (j_pset ho he hp0.mem c hps F hr h1 h2 (ha ok.1 R fun z hz => h1.mem_iff.mpr (List.mem_append_right _ hz)) (h _ _ ok.2) hs)
/-! ### xs.extend(ys) -/
theorem eg_extend {q : Addr} {es0 : List D} (ho : EV X B ρ O o (.rf q)) (hm0 : (q, M.lst ds) ∈ O) (he : EV X B ρ O e d1) (w : Vs (B.L ++ O) d1 es0) (hm : Put O q (.lst ds) (.lst (ds ++ es0)) O') (hz : ds.length + es0.length ≤ sizeLine)
    (hbase : attributeBase o "extend" X.env (eval o X.env) = eval o X.env := by rfl)
    (hfew : ((backTo pos (starEach [e] X.env)).all (fun x => !x.1) && (backToKw pos (keywordEach [] X.env)).all (fun x => x.1.isSome)
      && decide ([e].length + ([] : List Keyword).length + (if ([] : List Keyword).isEmpty then 0 else 1) < 30)) = true := by rfl)
    (hline : (apos.endLine == pos.line) = true := by rfl) (hs : starEach [e] X.env = (false, eval e X.env) :: starEach [] X.env := by rfl) (hplain : (backTo pos (starEach [] X.env)).any (·.1) = false := by rfl) :
    EG X B ρ O (.Call (.Attribute o "extend" apos) [e] [] pos) .non O' :=
  pe_imp (pe_bm PySem.F.plainAttrs_list PySem.F.slot_list_extend PySem.F.type_list_extend mt_extend ho (pa_cons he pa_nil hs) hbase hfew hline hs hplain) fun σ H Q ⟨st, k⟩ => ⟨st, fun v H1 e1 r1 => by
    cases r1
    have s1 := st.same e1
    obtain ⟨vs, h1, h2⟩ := s1.m.mem _ _ hm0
    refine ⟨.inl ⟨rfl, vs, .inl (.inl h1)⟩, s1, fun u H2 e2 r2 => ?_⟩
    have s2 := s1.same e2
    obtain ⟨ws, h3, h4⟩ := s2.m.mem _ _ hm0
    obtain ⟨b, zs, rfl, h5, h6⟩ := w.at s2.m r2
    obtain ⟨s3, ev⟩ := s2.putP (o := .lst (ws ++ zs)) hm ⟨_, upd_same, h4.append h6⟩
    refine ⟨q, b, ws, zs, rfl, rfl, h3, h5, by rw [h4.length, h6.length]; exact hz, k .non _ s3 ?_ .non⟩
    rw [ev]
    exact (vis_same e1).trans (vis_same e2)⟩
theorem jc_extend {q : Addr} {xs ys : List β} {m : List β → Cmp α} {O2 : List β → Om} (ho : EV X B ρ O o (.rf q)) (hm : (q, M.lst (xs.map E)) ∈ O) (he : EV X B ρ O e d1) (w : Vs (B.L ++ O) d1 (ys.map E)) (hp : ∀ ys : List β, Put O q (.lst (xs.map E)) (.lst (ys.map E)) (O2 ys)) (hz : xs.length + ys.length ≤ sizeLine) (h : ∀ ys, JC X B rest ρ (O2 ys) A (m ys))
    (hbase : attributeBase o "extend" X.env (eval o X.env) = eval o X.env := by rfl)
    (hfew : ((backTo pos (starEach [e] X.env)).all (fun x => !x.1) && (backToKw pos (keywordEach [] X.env)).all (fun x => x.1.isSome)
      && decide ([e].length + ([] : List Keyword).length + (if ([] : List Keyword).isEmpty then 0 else 1) < 30)) = true := by rfl)
    (hline : (apos.endLine == pos.line) = true := by rfl) (hs : starEach [e] X.env = (false, eval e X.env) :: starEach [] X.env := by rfl) (hplain : (backTo pos (starEach [] X.env)).any (·.1) = false := by rfl)
    (hsw : swapsWith (.Call (.Attribute o "extend" apos) [e] [] pos) none pos'.line X.env = pure false := by rfl) :
    JC X B (.Expr (.Call (.Attribute o "extend" apos) [e] [] pos) pos' :: rest) ρ O A (.bnd (xs ++ ys) m) := fun ok =>
  j_cons (j_expr (eg_extend ho hm he w (by have := hp (xs ++ ys); rw [List.map_append] at this; exact this) (by rw [List.length_map, List.length_map]; exact hz) hbase hfew hline hs hplain) (h _ ok) hsw)
/-! ### views of instances; C(e, k = v) -/
theorem voM {ns : List Str} {q : Addr} (h : (q, M.ins C ns ds) ∈ O) : Vo (B.L ++ O) (.rf q) C ns ds := .inr ⟨q, rfl, List.mem_append_right _ h⟩
theorem voL {ns : List Str} (h : Vo B.L d C ns ds) : Vo (B.L ++ O) d C ns ds := by
  rcases h with h | ⟨a, e, h⟩
  · exact .inl h
  · exact .inr ⟨a, e, List.mem_append_left _ h⟩
theorem pk_imp {kws : List Keyword} {t t' : TA} (h : PK X kws t) (w : ∀ σ H Q, t' σ H Q → t σ H Q) : PK X kws t' := ⟨fun p pins s σ H Q I q => h.run p pins s σ H Q I (w σ H Q q)⟩
theorem ek_nil : PK X [] (tA X.K B ρ O []) := pk_imp pk_nil fun σ H Q ⟨st, k⟩ => k [] H (Same.refl H) .nil
theorem ek_cons {kws : List Keyword} {nm : Option Str} {kpos : Pos} (ha : EV X B ρ O e d) (hr : PK X kws (tA X.K B ρ O ds)) : PK X (⟨nm, e, kpos⟩ :: kws) (tA X.K B ρ O (d :: ds)) :=
  pk_imp (pk_cons ha hr) fun σ H Q ⟨st, k⟩ => ⟨st, fun v H1 e1 r1 => ⟨st.same e1, fun vs H2 e2 r2 => k (v :: vs) H2 (e1.trans e2) (.cons (r1.mono (vis_same e2)) r2)⟩⟩
structure KwInit (P : Program) (w : World) (K : PySem.W.Frag) (mg : Str → Option Value) (base : Heap) (k : Nat) (f : Addr) (n : Nat) (ks : List Str) (sp : Sp) : Prop where
  ex : ∃ fd ps, FnOk P w K mg base CX0 k f fd ps sp ∧ KBn K fd ps (n + 1) ks (fun a b => a ++ b) (fun a b => a ++ b)
theorem em_makeA {Ar : Om → List D → List Str → List D → Prop} {f : Addr} {ks ns : List Str} {fs dz : List D} {n : Nat} {kws : List Keyword} (Mk : Mk X.K C f) (kw : KwInit X.prog X.w X.K X.mg X.base k f n ks (spI X.K C Ar)) (hr : Room (k + 1) X.A) (hg : Gl X x) (hm : X.mg x = some (.ref C))
    (ha : EA X B ρ O (e :: es) ds) (hkw : PK X kws (tA X.K B ρ O dz)) (hl : ds.length = n) (h : Ar (B.L ++ O) (ds ++ dz) ns fs) (hz : dz.length = ks.length := by rfl)
    (hall : (backToKw pos (keywordEach kws X.env)).all (·.1.isSome) = true := by rfl) (hks : (backToKw pos (keywordEach kws X.env)).filterMap (·.1) = ks := by rfl) (hdb : (x == ("__debug__" : Str)) = false := by decide)
    (he : starEach (e :: es) X.env = (false, eval e X.env) :: starEach es X.env := by rfl) (hpl : ((backTo pos (starEach (e :: es) X.env)).any (·.1) || (backToKw pos (keywordEach kws X.env)).any (·.1.isNone)) = false := by rfl) :
    EM X B ρ O (.Call (.Name x p) (e :: es) kws pos) C ns fs := by
  obtain ⟨fd, ps, F, hb⟩ := kw.ex
  exact em_makeK (gD := fun a b => a ++ b) Mk F hr hg hm hb ha hkw hl hz (fun _ _ _ => rfl) (fun Hv u vs zs r1 r2 => r1.append r2) h hall hks hdb he hpl
theorem count_eqv {α : Type} [DecidableEq α] {E : α → D} {P : α → Prop} {n : Nat} {g : α → PyData} (h : EqOk E P n g) (x : α) (xs : List α) : ((xs.map g).countP fun z => PyData.eqv z (g x)) = xs.countP fun y => decide (y = x) := by
  rw [List.countP_map]
  exact List.countP_congr fun y _ => by show PyData.eqv (g y) (g x) = true ↔ _; rw [h.eqv]
theorem ev_countG {α : Type} [DecidableEq α] {E : α → D} {P : α → Prop} {n : Nat} {g : α → PyData} {x : α} {xs : List α} (hu : X.A.units + 65 < cLine) (h : EqOk E P n g) (hn : n ≤ 63) (ho : EV X B ρ O o d1) (w : Vs (B.L ++ O) d1 (xs.map E)) (w2 : Vd (B.L ++ O) d1 (.lst (xs.map E))) (he : EV X B ρ O e (E x)) (h1 : P x) (h2 : ∀ y ∈ xs, P y)
    (hbase : attributeBase o "count" X.env (eval o X.env) = eval o X.env := by rfl)
    (hfew : ((backTo pos (starEach [e] X.env)).all (fun x => !x.1) && (backToKw pos (keywordEach [] X.env)).all (fun x => x.1.isSome)
      && decide ([e].length + ([] : List Keyword).length + (if ([] : List Keyword).isEmpty then 0 else 1) < 30)) = true := by rfl)
    (hline : (apos.endLine == pos.line) = true := by rfl) (hs : starEach [e] X.env = (false, eval e X.env) :: starEach [] X.env := by rfl) (hplain : (backTo pos (starEach [] X.env)).any (·.1) = false := by rfl) :
    EV X B ρ O (.Call (.Attribute o "count" apos) [e] [] pos) (.int ((xs.countP fun y => decide (y = x) : Nat) : Int)) :=
  pe_imp (pe_bm PySem.F.plainAttrs_list PySem.F.slot_list_count PySem.F.type_list_count (mt_countD hu) ho (pa_cons he pa_nil hs) hbase hfew hline hs hplain) fun σ H Q ⟨st, k⟩ => ⟨st, fun v H1 e1 r1 => by
    have s1 := st.same e1
    obtain ⟨a, vs, rfl, h3, h4⟩ := w.at s1.m r1
    refine ⟨.inl ⟨rfl, vs, .inl (.inl h3)⟩, s1, fun u H2 e2 r2 => ?_⟩
    have s2 := s1.same e2
    refine ⟨a, u, g x, xs.map g, rfl, rfl, w2.dp s2.m (r1.mono (vis_same e2)) (.lst (h.pyL xs)), (h.py x).dp vis_le r2, shaped_of (n := n + 1) (h.lst.lay xs h2) (h.lst.dep xs) (by omega), shaped_of (h.lay x h1) (h.dep x) (by omega), ?_⟩
    rw [count_eqv h]
    exact k _ H2 (e1.trans e2) (.int _)⟩
theorem ev_notL {α : Type} {E : α → D} {xs : List α} (h : EV X B ρ O e d) (w : Vw (B.L ++ O) d (xs.map E)) : EV X B ρ O (.UnaryOp .Not e pos) (.bl (!(!xs.isEmpty))) :=
  pe_imp (pe_notV h) fun σ H Q ⟨st, k⟩ => ⟨st, fun v H1 e1 r1 => by
    obtain ⟨a, vs, rfl, q, rl⟩ := w.sql (st.same e1).m r1
    refine ⟨!vs.isEmpty, .inl ⟨vs, q, rfl⟩, ?_⟩
    have : vs.isEmpty = xs.isEmpty := by
      have := rl.length
      cases vs <;> cases xs <;> simp_all
    rw [this]
    exact k _ H1 e1 (.bl _)⟩
end
end DL

set_option Elab.async false
set_option linter.all false
set_option maxRecDepth 100000
set_option maxHeartbeats 4000000
namespace L2
open PySem PySem.Spec PyProof.Rows ItX
open Sem (wp)
/-! ### an address at which nothing stands, below the heap's end, stays so -/
def Dead (b : Addr) (s : Shared) : Prop := b < s.heap.objs.size ∧ s.heap.get? b = none
theorem dead_push {b : Addr} {h : Heap} (o : Obj) (h1 : b < h.objs.size) (h2 : h.get? b = none) : (h.push o).get? b = none := by
  cases h with
  | mk objs l =>
    have ne : ¬ (b = objs.size) := Nat.ne_of_lt h1
    have e : (objs.push o)[b]? = objs[b]? := by rw [Array.getElem?_push]; simp [ne]
    show (match (objs.push o)[b]? with | some ⟨_, _, .freed, _⟩ => none | o => o) = none
    rw [e]
    exact h2
theorem dead_up {b a : Addr} {s : Shared} {f : Obj → Obj} (h : Dead b s) (ha : (s.heap.get? a).isSome) : Dead b { s with heap := s.heap.update a f } := by
  have ne : a ≠ b := fun z => by rw [z, h.2] at ha; cases ha
  exact ⟨by show b < (s.heap.update a f).objs.size; rw [Heap.size_after_update]; exact h.1, by show (s.heap.update a f).get? b = none; rw [Heap.get?_update_other _ _ ne]; exact h.2⟩
theorem dead_alloc {b : Addr} {s : Shared} {o : Obj} (h : Dead b s) : Dead b { s with heap := s.heap.push o } :=
  ⟨by show b < (s.heap.push o).objs.size; rw [Heap.size_push]; exact Nat.lt_succ_of_lt h.1, dead_push o h.1 h.2⟩
theorem runs_dead {M : Model} {Γ : PySem.Ctx} {p : Pos} {t : Sem PySem.Fin} {fs : List Frame} {s s' : Shared} {e : End} (h : Runs M Γ p t fs s e s') {b : Addr} : Dead b s → Dead b s' := by
  induction h <;> intro d <;> (try exact d) <;> (try (rename_i ih; exact ih d)) <;> (try (rename_i ih1 ih2; exact ih2 (ih1 d)))
  case update ha _ ih => exact ih (dead_up d ha)
  case alloc ih => exact ih (dead_alloc d)
theorem wakes_dead {M : Model} {Γ : PySem.Ctx} {p : Pos} {g : Nat} {r : Resume} {s s' : Shared} {res : GenResult} (h : Wakes M Γ p g r s res s') {b : Addr} (d : Dead b s) : Dead b s' := by
  unfold Wakes at h
  split at h
  · exact h.elim
  · split at h
    · obtain ⟨e₁, s₁, hr, _, _, rfl⟩ := h
      exact runs_dead hr (b := b) d
    · rw [h.2]; exact d
    · rw [h.2]; exact d
  · obtain ⟨e₁, s₁, hr, _, _, rfl⟩ := h
    exact runs_dead hr (b := b) d
  · rw [h.2]; exact d
  · rw [h.2]; exact d
/-- what was dead is dead -/
def DD (s0 s : Shared) : Prop := ∀ b, Dead b s0 → Dead b s
theorem wp_dead {α : Type} (M : Model) (Γ : PySem.Ctx) (s0 : Shared) (t : Sem α) : ∀ (Q : α → Pos → Shared → Prop) (E : Value → Pos → Shared → Prop) (p : Pos) (s : Shared), DD s0 s → wp M Γ t Q E p s →
    wp M Γ t (fun a p' s' => DD s0 s' ∧ Q a p' s') (fun e p' s' => DD s0 s' ∧ E e p' s') p s := by
  induction t with
  | pure a => exact fun Q E p s d h => ⟨d, h⟩
  | raise e => exact fun Q E p s d h => ⟨d, h⟩
  | unsupported _ => exact fun Q E p s _ h => h
  | finish _ => exact fun Q E p s _ h => h
  | rule _ k ih => exact fun Q E p s d h => ih () Q E p s d h
  | «at» p' k ih => exact fun Q E p s d h => ih () Q E p' s d h
  | load a _ k ih => exact fun Q E p s d ⟨o, ho, h⟩ => ⟨o, ho, ih o Q E p s d h⟩
  | update a _ f k ih => exact fun Q E p s d h => ⟨h.1, ih () Q E p _ (fun b z => dead_up (d b z) h.1) h.2⟩
  | loadIfAlive a k ih => exact fun Q E p s d h => ih _ Q E p s d h
  | point _ k ih => exact fun Q E p s d h => ih () Q E p s d h
  | register _ _ => exact fun Q E p s _ h => h
  | alloc o k ih => exact fun Q E p s d h => ih _ Q E p _ (fun b z => dead_alloc (d b z)) h
  | fresh k ih => exact fun Q E p s d h => ih _ Q E p { s with toks := s.toks + 1 } d h
  | ask k ih => exact fun Q E p s d h => ih _ Q E p s d h
  | choose src m k ih => exact fun Q E p s d h => ⟨h.1, ih _ Q E p { s with drawn := s.drawn.bump src } d h.2⟩
  | os q _ k ih => exact fun Q E p s d h => ih _ Q E p { s with os := (Os.step s.os q).1 } d h
  | call c hd _ _ k ih => exact fun Q E p s d ⟨r, s', hr, h⟩ => ⟨r, s', hr, ih r Q E p s' (fun b z => runs_dead hr (d b z)) h⟩
  | handled own k ih => exact fun Q E p s d h => ih _ Q E p s d h
  | genState g k ih => exact fun Q E p s d ⟨st, hs, h⟩ => ⟨st, hs, ih _ Q E p s d h⟩
  | newGen c k ih => exact fun Q E p s d h => ih _ Q E p { s with gens := s.gens.push (.fresh c) } d h
  | resume g r _ k ih => exact fun Q E p s d ⟨res, s', hw, h⟩ => ⟨res, s', hw, ih res Q E p s' (fun b z => wakes_dead hw (d b z)) h⟩
  | yield _ _ _ _ => exact fun Q E p s _ h => h
  | stack k ih => exact fun Q E p s d h => ih _ Q E p s d h
  | fork _ _ => exact fun Q E p s _ h => h
  | thread k ih => exact fun Q E p s d h => ih _ Q E p s d h
  | await _ _ _ _ _ => exact fun Q E p s _ h => h
theorem wpAny_dead {α : Type} {M : Model} {A : Around} {s : Shared} {t : Sem α} {Q : α → Shared → Prop} {E : Value → Shared → Prop}
    (h : wpAny M A t (fun a s' => DD s s' → Q a s') E s) : wpAny M A t Q E s := fun Γ p hΓ =>
  Sem.wp_mono M Γ t (post := fun a _ s' => DD s s' ∧ (DD s s' → Q a s')) (exc := fun e _ s' => DD s s' ∧ E e s') (fun a _ s' q => q.2 q.1) (fun e _ s' q => q.2) p s (wp_dead M Γ s t _ _ p s (fun _ z => z) (h Γ p hΓ))
/-! ### an instance whose __iter__ hands back an iterator over a list that it holds -/
structure OwnIt (K : PySem.W.Frag) (C f : Addr) : Prop where
  it : PySem.W.findIn K (.ref C) "__iter__" = some (some (.ref f))
  fn : PySem.W.isFn K (.ref f) = true
def spIt (C : Addr) (fl : Str) : Sp := fun vs H Q _ => ∃ p dx fv a xs, vs = [.ref p] ∧ H p = some (.ins C dx fv) ∧ fv.lookup fl = some (.ref a) ∧ H a = some (.lst xs) ∧
  ∀ it H', H it = none → Same H H' → H' it = some (ItO a it 0) → Q (.ref it) H'
section
variable {X : Cx} {C f p : Addr} {fl : Str} {k n : Nat} {pins : List (Addr × Obj)} {σ : L2.St} {H : Hp} {s : Shared}
/-- pyIter of such an instance -/
theorem iter_own {A1 : Around} {dx a : Addr} {fv : List (Str × V)} {xs : List V} {Q : Value → Shared → Prop} {E : Value → Shared → Prop} (sb : Sub X k A1) (I : Inv X pins σ H s) (oi : OwnIt X.K C f) (F : FnR X.prog X.w X.K X.mg X.base CX0 k f (spIt C fl))
    (hp : H p = some (.ins C dx fv)) (hf : fv.lookup fl = some (.ref a)) (ha : H a = some (.lst xs))
    (hq : ∀ it s' H', Inv X pins σ H' s' → Same H H' → s.heap.objs.size ≤ it → H it = none → H' it = some (ItO a it 0) → Q (.ref it) s') : wpAny (model X.prog X.w) A1 (pyIter (.ref p)) Q E s := by
  obtain ⟨mA, J, _⟩ := ins_get I.hok hp
  obtain ⟨od, J, _⟩ := J.look
  obtain ⟨m, hF⟩ := I.fr
  refine PySem.W.owit_iter hF I.ok.mod.kin J oi.it oi.fn (wpAny_dead ?_)
  have e0 : Env0 X.prog X.w X.K X.mg X.base A1 X.stack s H := by
    have e := I.env0
    exact ⟨by rw [sb.fr]; exact e.frames, e.mod, e.bs, e.bsz, e.funs, e.frf, e.hok, e.bare⟩
  refine wpAny_call (codeAny_mono (F A1 X.stack s H [.ref p] [.ref p] (fun v H' => ∃ it, v = .ref it ∧ H it = none ∧ Same H H' ∧ H' it = some (ItO a it 0)) E0 sb.room e0 (.cons rfl .nil) ⟨p, dx, fv, a, xs, rfl, hp, hf, ha, fun it H' h1 h2 h3 => ⟨it, rfl, h1, h2, h3⟩⟩) fun r s' hr => ?_)
  cases r with
  | error er => exact False.elim hr
  | ok fl' =>
    cases fl' with
    | next => exact False.elim hr
    | brk => exact False.elim hr
    | cont => exact False.elim hr
    | ret u =>
      intro dd
      obtain ⟨v, H', os, bare, un, hok, rv, it, rfl, h1, h2, h3⟩ := hr
      obtain ⟨w, H2, I3, _, rfl⟩ := I.after (Q := fun _ H2 => H2 = H') ⟨_, H', os, bare, un, hok, rv, rfl⟩
      obtain rfl : u = Value.ref it := rv
      have hit := itO_get I3 h3
      refine PySem.wpAny_specialOf ⟨_, hit, rfl⟩ slot_listiter_next.lookup ?_
      refine hq it s' H2 I3 h2 ?_ h1 h3
      rcases Nat.lt_or_ge it s.heap.objs.size with z | z
      · cases q : s.heap.get? it with
        | none =>
          have := (dd it ⟨z, q⟩).2
          rw [hit] at this; cases this
        | some o =>
          have := un.free it o q h1 (by simp)
          rw [h3] at this; cases this
      · exact z
end
end L2
namespace PySem
open PySem.Spec PyProof.Rows
abbrev zoH1 (h : Heap) (l2 : Addr) : Heap := h.push { cls := .type "list_iterator", data := .fields #[.ref l2, .int 0 0] }
abbrev zoH2 (h : Heap) (u : Value) (l2 : Addr) : Heap := (zoH1 h l2).push { cls := .type "tuple", data := .seq #[u, .ref h.objs.size] }
abbrev zoH3 (h : Heap) (u : Value) (l2 : Addr) : Heap := (zoH2 h u l2).push { cls := .type "tuple", data := .seq #[.none, .none] }
abbrev zoH4 (h : Heap) (u : Value) (l2 : Addr) : Heap := (zoH3 h u l2).push { cls := .type "zip", data := .fields #[.none, .bool false, .bool false, .ref (zoH1 h l2).objs.size, .ref (zoH2 h u l2).objs.size] }
theorem meets_zip_own {prog : Program} {w : World} (p l2 : Addr) :
    MeetsIn prog w (Builtin.«zip.__new__» ⟨[.type "zip", .ref p, .ref l2], []⟩) (fun A R s => wpAny (model prog w) A.in1 (pyIter (.ref p)) (fun u s1 => (∃ ys, s1.heap.IsList l2 ys) ∧
      R (.ok (.ret (.ref (zoH3 s1.heap u l2).objs.size))) { s1 with heap := zoH4 s1.heap u l2 }) (fun e s' => R (.error e) s') s) :=
  .of_wp fun A R s h => by
    have hsub := sub_zip
    unfold Builtin.«zip.__new__»
    have hit : ∀ {Q : Value → Shared → Prop}, (∀ u s1, ((∃ ys, s1.heap.IsList l2 ys) ∧ R (.ok (.ret (.ref (zoH3 s1.heap u l2).objs.size))) { s1 with heap := zoH4 s1.heap u l2 }) → Q u s1) → wpAny (model prog w) A.in1 (pyIter (.ref p)) Q (fun e s' => R (.error e) s') s := fun k => wpAny_mono h k fun _ _ z => z
    wp_walk using hit
    intro u s1 h1
    obtain ⟨⟨ys, hl⟩, h1⟩ := h1
    obtain ⟨hp, g, d, tk, os⟩ := s1
    wp_walk using wpAny_pyIter_list hl
    exact ⟨_, rfl, h1⟩
end PySem

set_option Elab.async false
set_option linter.all false
set_option maxRecDepth 100000
set_option maxHeartbeats 4000000
namespace L2
open PySem PySem.Spec PyProof.Rows ItX
section
variable {X : Cx} {C f p : Addr} {fl : Str} {k n : Nat} {pins : List (Addr × Obj)} {σ : L2.St} {H : Hp} {s : Shared} {e e2 tg : Expr} {te : TE} {ta : TA}
def iOwn (K : PySem.W.Frag) (C : Addr) (fl : Str) (te : TE) : TI := fun σ H R => te σ H fun v H1 => ∃ p dx fv a xs, v = .ref p ∧ H1 p = some (.ins C dx fv) ∧ fv.lookup fl = some (.ref a) ∧ H1 a = some (.lst xs) ∧ ∀ H2, Same H1 H2 → R (Itl K a) H2
theorem same_drop {H H1 : Hp} {it : Addr} (sm : Same H H1) (hn : H it = none) : Same H (dropH H1 it) := fun b o e => by
  rw [dropH_ne (ne_of_none e hn)]; exact sm b o e
theorem pi_own (he : PE X e te) (oi : OwnIt X.K C f) (F : FnR X.prog X.w X.K X.mg X.base CX0 k f (spIt C fl)) (hr : Room k X.A) : PI X tg e (iOwn X.K C fl te) := by
  refine ⟨fun pins s σ H R I h => thn (he.run pins s σ H _ I h) fun u s1 ⟨x, H1, I1, rx, p, dx, fv, a, xs, ex, hp, hf, ha, q⟩ => ?_⟩
  subst ex
  obtain rfl : u = Value.ref p := rx
  refine iter_own ⟨hr, rfl⟩ I1 oi F hp hf ha fun it s' H' I2 sm hsz hn hit => ?_
  have hfp := inv_fp I2 hit (Nat.le_trans I1.sz hsz)
  refine ⟨it, [it], _, _, dropH H' it, rfl, inv_drop I2 hit, turn_list a it, ⟨_, itO_get I2 hit, rfl, rfl⟩, fun b hb => ?_, q _ (same_drop sm hn)⟩
  obtain rfl : b = it := by simpa using hb
  exact hfp
theorem apart_own (n it a b : Nat) (h1 : it < n) (h2 : a < n) (h3 : b < n) (h4 : it ≠ a) (h5 : b ≠ it) : ZipApart (n + 3) (n + 1) (n + 2) it n a b := by
  constructor <;> (show (_ : Nat) ≠ _; omega)
def iZipO (K : PySem.W.Frag) (C : Addr) (fl : Str) (ta : TA) : TI := fun σ H R => ta σ H fun vs H1 => ∃ p dx fv a xs b ys, vs = [.ref p, .ref b] ∧ H1 p = some (.ins C dx fv) ∧ fv.lookup fl = some (.ref a) ∧ H1 a = some (.lst xs) ∧ SqL K H1 b ys ∧ ∀ H2, Same H1 H2 → R (Itz K a b) H2
theorem pi_zipO {e e2 : Expr} {ta : TA} {p pos tpos : Pos} {elts : List Expr} {kk : Nat} (oi : OwnIt X.K C f) (F : FnR X.prog X.w X.K X.mg X.base CX0 k f (spIt C fl)) (hr : Room (k + 4) X.A) (hg : Gl X "zip") (hm : X.mg "zip" = none) (ha : PA X [e, e2] ta)
    (hs : starEach [e, e2] X.env = (false, eval e X.env) :: starEach [e2] X.env := by rfl) (hpl : (backTo pos (starEach [e2] X.env)).any (·.1) = false := by rfl) :
    PI X (.Tuple elts kk tpos) (.Call (.Name "zip" p) [e, e2] [] pos) (iZipO X.K C fl ta) := by
  refine ⟨fun pins s σ H R I h => ?_⟩
  refine Call_ (ld_blt I hg hm PyProof.Rows.boot_zip (PyProof.Rows.callWith_type1 (thn (ha.run pos pins s σ H _ I h) fun us s1 ⟨vs, H1, I1, r1, q1⟩ => ?_) hs hpl))
  obtain ⟨p, dx, fv, a, xs, b, ys, ex, hp, hf, hl, hqy, q⟩ := q1
  subst ex
  cases r1 with
  | cons r rr =>
  cases rr with
  | cons r' rr =>
  cases rr
  cases r
  cases r'
  refine callType_newIn PySem.F.called_zip (by decide) (PySem.F.typeCall_zip_2 _ _) (PySem.F.newCall_zip_2 _ _) (fun obj => PySem.F.args_object_init_3 obj _ _) PySem.F.entry_zip_new (meets_zip_own p b) ?_
  refine iter_own (A1 := X.A.in1.in1) ⟨hr.in1.in1.mono (by omega), rfl⟩ I1 oi F hp hf hl fun it s' H' I2 sm hsz hn hit => ?_
  obtain ⟨its, rv, p1, _⟩ := I2.list (.inl (.inl (sm _ _ hl)) : SqL X.K H' a xs)
  obtain ⟨its2, rv2, p2, _⟩ := I2.list (sm.seq hqy)
  have hi := itO_get I2 hit
  have ne1 : it ≠ a := fun z => by rw [← z, hn] at hl; cases hl
  have hii : ∃ o, s'.heap.get? it = some o := ⟨_, hi⟩
  have la : a < s'.heap.objs.size := p1.lt
  have lb : b < s'.heap.objs.size := p2.lt
  have li : it < s'.heap.objs.size := Heap.lt_size hi
  have z1 : (zoH1 s'.heap b).objs.size = s'.heap.objs.size + 1 := Heap.size_push ..
  have z2 : (zoH2 s'.heap (.ref it) b).objs.size = s'.heap.objs.size + 2 := by rw [Heap.size_push, z1]
  have z3 : (zoH3 s'.heap (.ref it) b).objs.size = s'.heap.objs.size + 3 := by rw [Heap.size_push, z2]
  have g4 : (zoH4 s'.heap (.ref it) b).get? (zoH3 s'.heap (.ref it) b).objs.size = some _ := Heap.get?_push_size _ rfl
  have g3 : (zoH4 s'.heap (.ref it) b).get? (zoH2 s'.heap (.ref it) b).objs.size = some _ := Heap.get?_push_of_some _ (Heap.get?_push_size _ rfl)
  have g2 : (zoH4 s'.heap (.ref it) b).get? (zoH1 s'.heap b).objs.size = some _ := Heap.get?_push_of_some _ (Heap.get?_push_of_some _ (Heap.get?_push_size _ rfl))
  have g1 : (zoH4 s'.heap (.ref it) b).get? s'.heap.objs.size = some _ := Heap.get?_push_of_some _ (Heap.get?_push_of_some _ (Heap.get?_push_of_some _ (Heap.get?_push_size _ rfl)))
  have kp : ∀ c o, s'.heap.get? c = some o → (zoH4 s'.heap (.ref it) b).get? c = some o := fun c o x => Heap.get?_push_of_some _ (Heap.get?_push_of_some _ (Heap.get?_push_of_some _ (Heap.get?_push_of_some _ x)))
  rw [z1, z2, z3] at g4
  rw [z2] at g3
  rw [z1] at g2
  refine ⟨⟨_, p2.isList⟩, ?_⟩
  rw [z3]
  refine ⟨⟨_, g4, rfl⟩, wpAny_pyIter_zip g4 ?_⟩
  have I3 : Inv X pins σ H' { s' with heap := zoH4 s'.heap (.ref it) b } := I2.kept (t' := s'.toks) kp
  have D : ZipApart (s'.heap.objs.size + 3) (s'.heap.objs.size + 1) (s'.heap.objs.size + 2) it s'.heap.objs.size a b := by
    have ne2 : b ≠ it := fun z => by
      obtain ⟨o, e, c, _⟩ := p2.isList
      rw [z, hi] at e
      cases e
      have c' : Value.type "list_iterator" = .type "list" := c
      exact absurd (Value.type.inj c') (by decide)
    exact apart_own _ _ _ _ li la lb ne1 ne2
  refine ⟨s'.heap.objs.size + 3, [s'.heap.objs.size + 3, s'.heap.objs.size + 1, s'.heap.objs.size + 2, it, s'.heap.objs.size], _, _, dropH H' it, rfl, inv_drop I3 hit, turn_zip D, ⟨g4, g2, ⟨_, _, g3⟩, ⟨_, kp _ _ hi, rfl, rfl⟩, ⟨_, g1, rfl, rfl⟩⟩, fun c hcm => ?_, q _ (same_drop sm hn)⟩
  have e' : c = s'.heap.objs.size + 3 ∨ c = s'.heap.objs.size + 1 ∨ c = s'.heap.objs.size + 2 ∨ c = it ∨ c = s'.heap.objs.size := by simpa using hcm
  have fr : ∀ c, s'.heap.objs.size ≤ c → FpOk X pins (dropH H' it) c := fun c hle => I2.fpOk hle (by rw [dropH_ne (fun z => by rw [z] at hle; exact absurd (Nat.lt_of_lt_of_le li hle) (Nat.lt_irrefl _))]; exact I2.hok.fresh hle)
  rcases e' with z | z | z | z | z
  · rw [z]; exact fr _ (by omega)
  · rw [z]; exact fr _ (by omega)
  · rw [z]; exact fr _ (by omega)
  · rw [z]; exact inv_fp I2 hit (Nat.le_trans I1.sz hsz)
  · rw [z]; exact fr _ (Nat.le_refl _)
end
end L2
namespace DL
open PySem PySem.Spec PyProof.Rows L2
section
variable {X : Cx} {B : Gd} {ρ : List (Option D)} {O : Om} {a b c e o : Expr} {es : List Expr} {d d1 d2 d3 : D} {ds : List D} {pos pos' p apos : Pos} {C f : Addr} {k : Nat} {ns : List Str} {fl : Str} {fs : List D} {i : Nat}
theorem ei_ownD {tg iter : Expr} (hi : EV X B ρ O iter d) (w : Vo (B.L ++ O) d C ns fs) (oi : OwnIt X.K C f) (F : FnR X.prog X.w X.K X.mg X.base CX0 k f (spIt C fl)) (hr : Room k X.A) (hix : ns.idxOf? fl = some i) (hd : fs[i]? = some (.lst ds)) :
    EI X B ρ O tg iter (iOwn X.K C fl (tD X.K B ρ O d)) (fun O' => Vw (B.L ++ O') (.lst ds) ds) ds :=
  ⟨pi_own hi oi F hr, fun σ H R st k => ⟨st, fun v H1 e1 r1 => by
    obtain ⟨a, dx, fv, rfl, h1, h2, h3⟩ := w.at (st.same e1).m r1
    obtain ⟨u, hu, ru⟩ := h3.get hd
    cases ru with
    | @lst a' vs _ ha rl =>
      refine ⟨a, dx, fv, a', vs, rfl, h1, look_at h2 hix hu, vis_le _ _ ha, fun H2 e2 => k _ H2 (e1.trans e2) ?_⟩
      exact src_list (v := .ref a') (.inl (.inl rfl)) ((st.same e1).same e2).m (.lst (vis_same e2 _ _ ha) (rl.mono (vis_same e2))) rfl⟩⟩
theorem src_zip {es : List D} {H : Hp} {a0 b0 : Addr} (h : Rp X.K (vis B.F O H) (.ref a0) d1) (h2 : Rp X.K (vis B.F O H) (.ref b0) d2) :
    Src X.K B.L (vis B.F O H) (Itz X.K a0 b0) (fun O' => Vw (B.L ++ O') d1 ds ∧ Vw (B.L ++ O') d2 es) (zipD ds es) := by
  have again : ∀ {B' : Gd} {O' : Om} {H' : Hp} {dd : D} {dl : List D} {c : Addr}, Rp X.K (vis B.F O H) (.ref c) dd → B'.L = B.L → Vw (B.L ++ O') dd dl → MOk X.K B' O' H' → Same (vis B.F O H) (vis B'.F O' H') → ∃ vs', SqL X.K H' c vs' ∧ RpL X.K (vis B'.F O' H') vs' dl := fun {B' O' H' dd dl c} r eL w m e => by
    rw [← eL] at w
    obtain ⟨a', vs', ea, q, r⟩ := w.sql m (r.mono e)
    cases ea
    exact ⟨vs', q, r⟩
  have hl : (zipD ds es).length = min ds.length es.length := by simp [zipD]
  refine ⟨fun i B' O' H' eL hi m e g => ?_, fun B' O' H' eL m e g => ?_, fun i B' O' H' x H2 eL hi m e g y => ?_⟩
  · rw [hl] at hi
    obtain ⟨xs, q1, r1⟩ := again h eL g.1 m e
    obtain ⟨ys, q2, r2⟩ := again h2 eL g.2 m e
    exact (walk_zip (n := min xs.length ys.length) rfl).goes i H' (by rw [r1.length, r2.length]; exact hi) ⟨q1, q2⟩
  · obtain ⟨xs, q1, r1⟩ := again h eL g.1 m e
    obtain ⟨ys, q2, r2⟩ := again h2 eL g.2 m e
    rw [hl, ← r1.length, ← r2.length]
    exact (walk_zip (n := min xs.length ys.length) rfl).stops H' ⟨q1, q2⟩
  · rw [hl] at hi
    obtain ⟨xs, q1, r1⟩ := again h eL g.1 m e
    obtain ⟨ys, q2, r2⟩ := again h2 eL g.2 m e
    obtain ⟨T, x', z', ex, hT, e2, y1, y2⟩ := (walk_zip (n := min xs.length ys.length) rfl).yields i H' x H2 (by rw [r1.length, r2.length]; exact hi) ⟨q1, q2⟩ y
    subst e2 ex
    obtain ⟨d', hd', rd⟩ := r1.get' y1
    obtain ⟨d'', hd'', rd'⟩ := r2.get' y2
    refine ⟨same_new hT, .tup [d', d''], ?_, .tup (.inl (.inl (m.visNew hT))) (.cons (rd.mono (vis_same (same_new hT))) (.cons (rd'.mono (vis_same (same_new hT))) .nil))⟩
    unfold zipD; rw [List.getElem?_map, List.getElem?_range hi]; simp [hd', hd'']
theorem ei_zipO {α β : Type} {E : α → D} {F : β → D} {xs : List α} {ys : List β} {ea eb : Expr} {elts : List Expr} {kk : Nat} {p p' tpos : Pos} (oi : OwnIt X.K C f) (Fi : FnR X.prog X.w X.K X.mg X.base CX0 k f (spIt C fl)) (hr : Room (k + 4) X.A) (hgl : Gl X "zip") (hm : X.mg "zip" = none) (hi : EA X B ρ O [ea, eb] [d1, d2])
    (w : Vo (B.L ++ O) d1 C ns fs) (hix : ns.idxOf? fl = some i) (hd : fs[i]? = some (.lst (xs.map E))) (w2 : Vw (B.L ++ O) d2 (ys.map F))
    (hse : starEach [ea, eb] X.env = (false, eval ea X.env) :: starEach [eb] X.env := by rfl) (hpl : (backTo p' (starEach [eb] X.env)).any (·.1) = false := by rfl) :
    EI X B ρ O (.Tuple elts kk tpos) (.Call (.Name "zip" p) [ea, eb] [] p') (iZipO X.K C fl (tA X.K B ρ O [d1, d2])) (fun O' => Vw (B.L ++ O') (.lst (xs.map E)) (xs.map E) ∧ Vw (B.L ++ O') d2 (ys.map F)) ((zipL xs ys).map (dP2 E F)) := by
  rw [← zip_eq]
  exact ⟨pi_zipO oi Fi hr hgl hm hi hse hpl, fun σ H R st k => ⟨st, fun vs H1 e1 r1 => by
    cases r1 with
    | @cons v _ _ _ h r =>
    cases r with
    | @cons v2 _ _ _ h2 r =>
    cases r
    obtain ⟨a, dx, fv, rfl, g1, g2, g3⟩ := w.at (st.same e1).m h
    obtain ⟨b, us, rfl, hq2, rl2⟩ := w2.sql (st.same e1).m h2
    obtain ⟨u, hu, ru⟩ := g3.get hd
    cases ru with
    | @lst a' ws _ ha rl =>
      exact ⟨a, dx, fv, a', ws, b, us, rfl, g1, look_at g2 hix hu, vis_le _ _ ha, hq2, fun H2 e2 => k _ H2 (e1.trans e2) (src_zip (.lst (vis_same e2 _ _ ha) (rl.mono (vis_same e2))) (h2.mono (vis_same e2)))⟩⟩⟩
end
end DL
namespace DL
open PySem PySem.Spec PyProof.Rows L2 ItX
section
variable {P : Program} {w : World} {K : PySem.W.Frag} {mg : Str → Option Value} {base : Heap} {k : Nat}
/-- a def that hands back iter(self.fl) -/
theorem fn_it {C : Addr} {fl x qual : Str} {st : Stmt} {f : Addr} {fd : FuncData} {N : List Str} {p1 p2 p3 p4 p5 : Pos} (F : Fun K x qual st f fd) (S : FnScope N ["self"] (defScope st)) (c : Cls K C) (n : NoAttr K C fl) (hm : mg "iter" = none)
    (hb : defBody st = [.Return (some (.Call (.Name "iter" p1) [.Attribute (.Name "self" p2) fl p3] [] p4)) p5] := by rfl) (hN : N[0]? = some ("self" : Str) := by rfl) (hv : Vis (defScope st) "self" := by exact .inl rfl)
    (hG : ∀ cdv A outer s H E, Gl (cxOf CX0 P w K mg base N qual (defScope st) f cdv A outer s H E).nox "iter" := by intros; rfl) : FnOk P w K mg base CX0 (k + 1) f fd ["self"] (spIt C fl) := by
  refine F.ok S (fun vs H Q E q => by obtain ⟨_, _, _, _, _, rfl, _⟩ := q; rfl) (fun cdv A outer s H vs Q E hr q => ?_)
  obtain ⟨p, dx, fv, a, xs, rfl, h1, h2, h3, kk⟩ := q
  rw [hb]
  refine ⟨_, pss_cons (ps_ret (pe_callB L2.call_iterL (hG cdv A outer s H E) hm (by decide +kernel) (pa_cons (pe_fld (pe_var hN hv rfl rfl) rfl) pa_nil) (by decide) (by decide) rfl rfl)) pss_nil, ?_⟩
  refine ⟨_, rfl, p, C, dx, fv, _, rfl, h1, c, n, h2, a, xs, rfl, .inl (.inl h3), fun it hit => ?_⟩
  exact kk it _ hit (same_new hit) upd_same
end
end DL

set_option Elab.async false
set_option linter.all false
set_option maxRecDepth 100000
set_option maxHeartbeats 4000000
namespace DL
open PySem PySem.Spec PyProof.Rows L2
/-! ### defs with one default that is None -/
section
variable {P : Program} {w : World} {K : PySem.W.Frag} {mg : Str → Option Value} {base : Heap}
abbrev FunN (K : PySem.W.Frag) (x qual : Str) (st : Stmt) (f : Addr) (fd : FuncData) : Prop := FunD K x qual (defArgs st) (defBody st) (defScope st) [.non] [] f fd
theorem okN {x qual : Str} {st : Stmt} {f : Addr} {fd : FuncData} {N ps : List Str} {k : Nat} {sp : Sp} (F : FunN K x qual st f fd) (S : FnScope N ps (defScope st)) (len : ∀ vs H Q E, sp vs H Q E → vs.length = ps.length)
    (hbody : ∀ (cdv : Value) (A : Around) (outer : List Env) (s : Shared) (H : Hp) (vs : List V) (Q : VK) (E : XK), Room k (A.deeper (envOfC qual (defScope st) s.heap.objs.size f cdv)) → sp vs H Q E →
      ∃ t, PSs (cxOf CX0 P w K mg base N qual (defScope st) f cdv A outer s H E).nox (defBody st) t ∧ t { nx := fun _ H' => Q .non H', rt := Q } (start N vs) H) : FnOk P w K mg base CX0 (k + 1) f fd ps sp :=
  F.ok S len fun cdv A outer s H vs Q E hr hsp => let ⟨t, h, q⟩ := hbody cdv A outer s H vs Q E hr hsp; ⟨t, h.nox, q⟩
theorem fn_pureN {Ar : Om → List D → D → Prop} {x qual : Str} {st : Stmt} {f : Addr} {fd : FuncData} {N ps : List Str} {k : Nat} (F : FunN K x qual st f fd) (S : FnScope N ps (defScope st)) (len : ∀ L ds d, Ar L ds d → ds.length = ps.length)
    (h : ∀ (cdv : Value) (A : Around) (outer : List Env) (s : Shared) (H : Hp) (E : XK) (B : Gd) (ds : List D) (d : D), Room k (A.deeper (envOfC qual (defScope st) s.heap.objs.size f cdv)) → Ar B.L ds d →
      J (cxOf CX0 P w K mg base N qual (defScope st) f cdv A outer s H E).nox B (defBody st) (startD N ds) [] { nx := fun _ O' => Frz O' .non d, rt := fun d' O' => Frz O' d' d }) : FnOk P w K mg base CX0 (k + 1) f fd ps (spP K Ar) := by
  refine okN F S (fun vs H Q E q => ?_) (fun cdv A outer s H vs Q E hr q => ?_)
  · obtain ⟨F', L, ds, d, _, r, ha, _⟩ := q
    rw [r.length]; exact len L ds d ha
  · obtain ⟨F', L, ds, d, bo, r, ha, kk⟩ := q
    refine ⟨_, h cdv A outer s H E ⟨F', H, fun c d _ H => E c d H, L, bo.ok, bo.lF⟩ ds d hr ha, ⟨⟨fun a o e => ⟨e, rfl⟩, (fun a m hm => nomatch hm), (by simp), bo.lent⟩, start_env r⟩, ?_, ?_, fun _ _ _ _ z => z.elim, fun _ _ _ _ z => z.elim, fun _ _ _ _ _ _ _ _ _ z => z.elim⟩
    · intro ρ O σ H' fz s' _
      exact kk _ H' (fun a o q => (s'.m.base a o q).1) (Rp.frz vis_all s'.m.frz fz .non)
    · intro d' O' v H' fz m r'
      exact kk v H' (fun a o q => (m.base a o q).1) (Rp.frz vis_all m.frz fz r')
theorem fn_newN {Ar : Om → List D → List D → Prop} {x qual : Str} {st : Stmt} {f : Addr} {fd : FuncData} {N ps : List Str} {k : Nat} (F : FunN K x qual st f fd) (S : FnScope N ps (defScope st)) (len : ∀ L ds d, Ar L ds d → ds.length = ps.length)
    (h : ∀ (cdv : Value) (A : Around) (outer : List Env) (s : Shared) (H : Hp) (E : XK) (B : Gd) (ds : List D) (es : List D), Room k (A.deeper (envOfC qual (defScope st) s.heap.objs.size f cdv)) → Ar B.L ds es →
      J (cxOf CX0 P w K mg base N qual (defScope st) f cdv A outer s H E).nox B (defBody st) (startD N ds) [] { nx := fun _ O' => ∃ p, D.non = .rf p ∧ O' = [(p, .lst es)], rt := fun d' O' => ∃ p, d' = .rf p ∧ O' = [(p, .lst es)] }) : FnOk P w K mg base CX0 (k + 1) f fd ps (spN K Ar) := by
  refine okN F S (fun vs H Q E q => ?_) (fun cdv A outer s H vs Q E hr q => ?_)
  · obtain ⟨F', L, ds, d, _, r, ha, _⟩ := q
    rw [r.length]; exact len L ds d ha
  · obtain ⟨F', L, ds, es, bo, r, ha, kk⟩ := q
    refine ⟨_, h cdv A outer s H E ⟨F', H, fun c d _ H => E c d H, L, bo.ok, bo.lF⟩ ds es hr ha, ⟨⟨fun a o e => ⟨e, rfl⟩, (fun a m hm => nomatch hm), (by simp), bo.lent⟩, start_env r⟩, (fun ρ O σ H' z _ _ => by obtain ⟨_, z, _⟩ := z; cases z), ?_, fun _ _ _ _ z => z.elim, fun _ _ _ _ z => z.elim, fun _ _ _ _ _ _ _ _ _ z => z.elim⟩
    rintro d' O' v H' ⟨p, rfl, rfl⟩ m r'
    cases r'
    obtain ⟨ws, h1, h2⟩ := m.mem p _ List.mem_cons_self
    refine kk p H' ws ?_ (fun a o q => (m.base a o q).1) h1 h2
    cases q : H p with
    | none => rfl
    | some o =>
      have := (m.base p o q).2
      simp [has] at this
/-- such a def by its name: all arguments, all but the last, the last by its keyword -/
structure CalD (P : Program) (w : World) (K : PySem.W.Frag) (mg : Str → Option Value) (base : Heap) (k : Nat) (x : Str) (n : Nat) (kw : Str) (sp : Sp) : Prop where
  ex : ∃ f fd ps, FnOk P w K mg base CX0 k f fd ps sp ∧ mg x = some (.ref f) ∧ PySem.W.keepIn K (.ref f) = true ∧ Binds K fd ps [] ∧ (∃ dz, Vals [.non] dz ∧ Binds K fd ps dz) ∧ KBn K fd ps n [kw] (fun a b => a ++ b) (fun a b => a ++ b)
theorem CalD.cal {k n : Nat} {x kw : Str} {sp : Sp} (c : CalD P w K mg base k x n kw sp) : Cal P w K mg base CX0 k x sp := by
  obtain ⟨f, fd, ps, F, hm, hk, b, _⟩ := c.ex
  exact ⟨f, ⟨⟨fd, ps, F, b⟩, hk⟩, hm⟩
end
section
variable {X : Cx} {B : Gd} {ρ : List (Option D)} {O : Om} {a b c e o : Expr} {es : List Expr} {d d1 d2 d3 : D} {ds fs : List D} {pos pos' p apos : Pos} {C f : Addr} {k n : Nat} {x kw : Str}
theorem ev_callD {Ar : Om → List D → D → Prop} (c : CalD X.prog X.w X.K X.mg X.base k x n kw (spP X.K Ar)) (hr : Room k X.A) (hg : Gl X x) (ha : EA X B ρ O (e :: es) ds) (h : Ar (B.L ++ O) (ds ++ [.non]) d) (hdb : (x == ("__debug__" : Str)) = false := by decide)
    (he : starEach (e :: es) X.env = (false, eval e X.env) :: starEach es X.env := by rfl) (hpl : (backTo pos (starEach es X.env)).any (·.1) = false := by rfl) : EV X B ρ O (.Call (.Name x p) (e :: es) [] pos) d := by
  obtain ⟨f, fd, ps, F, hm, hk, _, ⟨dz, rz, b⟩, _⟩ := c.ex
  exact pe_imp (pe_callR (E := E0) (F.raw b rz) hr hg hm hk pass0 ha hdb he hpl) fun σ H Q ⟨st, k⟩ => ⟨st, fun vs H1 e1 r1 => spP_use (st.same e1).m (r1.append (.cons .non .nil)) h fun w H2 e2 r2 => k w H2 (e1.trans e2) r2⟩
theorem en_callD {Ar : Om → List D → List D → Prop} (c : CalD X.prog X.w X.K X.mg X.base k x n kw (spN X.K Ar)) (hr : Room k X.A) (hg : Gl X x) (ha : EA X B ρ O (e :: es) ds) (h : Ar (B.L ++ O) (ds ++ [.non]) fs) (hdb : (x == ("__debug__" : Str)) = false := by decide)
    (he : starEach (e :: es) X.env = (false, eval e X.env) :: starEach es X.env := by rfl) (hpl : (backTo pos (starEach es X.env)).any (·.1) = false := by rfl) : EN X B ρ O (.Call (.Name x p) (e :: es) [] pos) fs := by
  obtain ⟨f, fd, ps, F, hm, hk, _, ⟨dz, rz, b⟩, _⟩ := c.ex
  exact pe_imp (pe_callR (E := E0) (F.raw b rz) hr hg hm hk pass0 ha hdb he hpl) fun σ H Q ⟨st, k⟩ => ⟨st, fun vs H1 e1 r1 => spN_use (st.same e1).m (r1.append (.cons .non .nil)) h fun p H2 ws hp e2 hq r2 => k p H2 ws (e1.free hp) (e1.trans e2) hq r2⟩
theorem ev_callK {Ar : Om → List D → D → Prop} {kpos : Pos} (c : CalD X.prog X.w X.K X.mg X.base k x n kw (spP X.K Ar)) (hr : Room k X.A) (hg : Gl X x) (ha : EA X B ρ O (e :: es) ds) (hk : EV X B ρ O a d1) (hl : ds.length = n) (h : Ar (B.L ++ O) (ds ++ [d1]) d) (hdb : (x == ("__debug__" : Str)) = false := by decide)
    (hall : (backToKw pos (keywordEach [⟨some kw, a, kpos⟩] X.env)).all (·.1.isSome) = true := by rfl) (hks : (backToKw pos (keywordEach [⟨some kw, a, kpos⟩] X.env)).filterMap (·.1) = [kw] := by rfl)
    (he : starEach (e :: es) X.env = (false, eval e X.env) :: starEach es X.env := by rfl) (hpl : ((backTo pos (starEach (e :: es) X.env)).any (·.1) || (backToKw pos (keywordEach [⟨some kw, a, kpos⟩] X.env)).any (·.1.isNone)) = false := by rfl) :
    EV X B ρ O (.Call (.Name x p) (e :: es) [⟨some kw, a, kpos⟩] pos) d := by
  obtain ⟨f, fd, ps, F, hm, hkp, _, _, kb⟩ := c.ex
  exact pe_imp (pe_callN (E := E0) F hr hg hm hkp kb pass0 ha (ek_cons hk ek_nil) hall hks hdb he hpl) fun σ H Q ⟨st, k⟩ => ⟨st, fun vs H1 e1 r1 => ⟨st.same e1, fun zs H2 e2 r2 => by
    have s2 := (st.same e1).same e2
    exact ⟨by rw [r1.length]; exact hl, by rw [r2.length]; rfl, spP_use s2.m ((r1.mono (vis_same e2)).append r2) h fun w H3 e3 r3 => k w H3 ((e1.trans e2).trans e3) r3⟩⟩⟩
end
end DL

set_option Elab.async false
set_option linter.all false
set_option maxRecDepth 100000
set_option maxHeartbeats 4000000
namespace DL
open PySem PySem.Spec PyProof.Rows L2
/-! ### instances that may change, handed to what only reads -/
mutual
def D.flat : D → Bool
  | .obj _ _ _ => false
  | .tup ds => D.flats ds
  | .lst ds => D.flats ds
  | .frl ds => D.flats ds
  | _ => true
def D.flats : List D → Bool
  | [] => true
  | d :: ds => d.flat && D.flats ds
end
/-- all but instances -/
def SameN (H H' : Hp) : Prop := ∀ a o, H a = some o → (∀ C dx fv, o ≠ .ins C dx fv) → H' a = some o
theorem sameN_t {K : PySem.W.Frag} {H H' : Hp} {a : Addr} {xs : List V} (e : SameN H H') (h : SqT K H a xs) : SqT K H' a xs := by
  rcases h with (h | ⟨o, h⟩) | h
  · exact .inl (.inl (e _ _ h fun _ _ _ z => nomatch z))
  · exact .inl (.inr ⟨o, e _ _ h fun _ _ _ z => nomatch z⟩)
  · exact .inr h
theorem sameN_l {K : PySem.W.Frag} {H H' : Hp} {a : Addr} {xs : List V} (e : SameN H H') (h : SqL K H a xs) : SqL K H' a xs := by
  rcases h with (h | ⟨o, h⟩) | h
  · exact .inl (.inl (e _ _ h fun _ _ _ z => nomatch z))
  · exact .inl (.inr ⟨o, e _ _ h fun _ _ _ z => nomatch z⟩)
  · exact .inr h
theorem flats_dOf : (∀ k : NestedKey, (dOf k).flat = true) := by
  intro k
  exact NestedKey.rec (motive_1 := fun k => (dOf k).flat = true) (motive_2 := fun ks => D.flats (dOfs ks) = true) rfl (fun _ => rfl) (fun _ => rfl) (fun ks h => h) rfl (fun k ks h1 h2 => by show ((dOf k).flat && D.flats (dOfs ks)) = true; rw [h1, h2]; rfl) k
theorem flats_dOfs : ∀ ks : List NestedKey, D.flats (dOfs ks) = true
  | [] => rfl
  | k :: ks => by show ((dOf k).flat && D.flats (dOfs ks)) = true; rw [flats_dOf, flats_dOfs ks]; rfl
section
variable {K : PySem.W.Frag} {H H' : Hp}
mutual
theorem Rp.monoN (e : SameN H H') : ∀ {v : V} {d : D}, d.flat = true → Rp K H v d → Rp K H' v d
  | _, _, _, .non => .non
  | _, _, _, .bl b => .bl b
  | _, _, _, .int b => .int b
  | _, _, _, .str b => .str b
  | _, _, _, .ty b => .ty b
  | _, _, _, .rf b => .rf b
  | _, _, hf, .tup h r => .tup (sameN_t e h) (r.monoN e hf)
  | _, _, hf, .lst h r => .lst (e _ _ h fun _ _ _ z => nomatch z) (r.monoN e hf)
  | _, _, hf, .frl h r => .frl (sameN_l e h) (r.monoN e hf)
  | _, _, hf, .obj h n r => nomatch hf
  | _, _, _, .dct h l k r => .dct (e _ _ h fun _ _ _ z => nomatch z) l k (r.monoN e (flats_dOfs _))
theorem RpL.monoN (e : SameN H H') : ∀ {vs : List V} {ds : List D}, D.flats ds = true → RpL K H vs ds → RpL K H' vs ds
  | [], [], _, .nil => .nil
  | _ :: _, d :: ds, hf, .cons h r => by
    have hf' : (d.flat && D.flats ds) = true := hf
    rw [Bool.and_eq_true] at hf'
    exact .cons (h.monoN e hf'.1) (r.monoN e hf'.2)
end
end
def M.isIns : M → Bool
  | .ins _ _ _ => true
  | _ => false
abbrev noIns (O : Om) : Om := O.filter fun p => !p.2.isIns
theorem noIns_sub {O : Om} : ∀ q ∈ noIns O, q ∈ O := fun q h => (List.mem_filter.mp h).1
/-- arguments: instances that may change as values -/
inductive BoL (O : Om) : List D → List D → Prop
  | nil : BoL O [] []
  | cons {d : D} {ds ds' : List D} : BoL O ds ds' → BoL O (d :: ds) (d :: ds')
  | bor {q C : Addr} {ns : List Str} {fs : List D} {ds ds' : List D} : (q, M.ins C ns fs) ∈ O → BoL O ds ds' → BoL O (.rf q :: ds) (.obj C ns fs :: ds')
section
variable {X : Cx} {B : Gd} {ρ ρ' : List (Option D)} {O O' O1 O1' R O'' : Om} {a b c e o : Expr} {es : List Expr} {d d1 d2 d3 d' : D} {ds ds' fs : List D} {pos pos' p apos : Pos} {C f : Addr} {k n : Nat} {x kw : Str} {ns : List Str}
theorem noIns_has (nd : (O.map (·.1)).Nodup) {q C : Addr} {fs : List D} (h : (q, M.ins C ns fs) ∈ O) : has (noIns O) q = false := by
  cases e : has (noIns O) q with
  | false => rfl
  | true =>
    obtain ⟨m, hm⟩ := has_mem.mp e
    obtain ⟨h1, h2⟩ := List.mem_filter.mp hm
    have : m = .ins C ns fs := by
      have key : ∀ (L : Om), (L.map (·.1)).Nodup → (q, m) ∈ L → (q, M.ins C ns fs) ∈ L → m = .ins C ns fs := by
        intro L
        induction L with
        | nil => intro _ z; cases z
        | cons u L ih =>
          intro nd a1 a2
          rw [List.map_cons, List.nodup_cons] at nd
          rcases List.mem_cons.mp a1 with a1 | a1
          · rcases List.mem_cons.mp a2 with a2 | a2
            · rw [← a1] at a2; exact (Prod.mk.inj a2).2.symm
            · exact absurd (List.mem_map_of_mem (f := (·.1)) a2) (by rw [← a1] at nd; exact nd.1)
          · rcases List.mem_cons.mp a2 with a2 | a2
            · exact absurd (List.mem_map_of_mem (f := (·.1)) a1) (by rw [← a2] at nd; exact nd.1)
            · exact ih nd.2 a1 a2
      exact key O nd h1 h
    rw [this] at h2
    cases h2
theorem BoL.rp {K : PySem.W.Frag} {H : Hp} (m : MOk K B O H) : ∀ {vs : List V} {ds ds' : List D}, BoL O ds ds' → RpL K (vis B.F O H) vs ds → RpL K (vis B.F (noIns O) H) vs ds'
  | _, _, _, .nil, .nil => .nil
  | _, _, _, .cons h, .cons r1 r => .cons (r1.mono (vis_sub noIns_sub)) (h.rp m r)
  | _, _, _, .bor (q := q) hq h, .cons r1 r => by
    cases r1
    obtain ⟨dx, fv, g1, g2, g3⟩ := m.mem _ _ hq
    obtain ⟨fq, _, _⟩ := vis_some.mp (m.visM (has_mem.mpr ⟨_, hq⟩) g1)
    exact .cons (.obj (vis_some.mpr ⟨fq, noIns_has m.nd hq, g1⟩) g2 (g3.mono (vis_sub noIns_sub))) (h.rp m r)
theorem MOk.noIns {K : PySem.W.Frag} {H : Hp} (m : MOk K B O H) : MOk K B (noIns O) H :=
  ⟨fun a o q => ⟨(m.base a o q).1, has_sub noIns_sub (m.base a o q).2⟩, fun a mm q => (m.mem a mm (noIns_sub _ q)).mono (vis_sub noIns_sub) (fun _ q => q), m.nd.sublist ((List.filter_sublist).map _), fun a mm q => (m.lent a mm q).mono (vis_sub noIns_sub) (fun _ q => q)⟩
theorem spP_useB {K : PySem.W.Frag} {Ar : Om → List D → D → Prop} {H : Hp} {Q : VK} {E : XK} {vs : List V} (m : MOk K B O H) (r : RpL K (vis B.F O H) vs ds) (hb : BoL O ds ds') (h : Ar (B.L ++ noIns O) ds' d) (hf : d.flat = true) (k : ∀ v H', Same H H' → Rp K (vis B.F O H') v d → Q v H') : spP K Ar vs H Q E :=
  spP_use m.noIns (hb.rp m r) h fun v H' e r' => k v H' e (r'.monoN (fun a o q hn => by
    obtain ⟨h1, h2, h3⟩ := vis_some.mp q
    refine vis_some.mpr ⟨h1, ?_, h3⟩
    cases z : has O a with
    | false => rfl
    | true =>
      obtain ⟨mm, hm⟩ := has_mem.mp z
      cases mm with
      | ins C ns fs =>
        obtain ⟨dx, fv, g1, _⟩ := m.mem _ _ hm
        have := e _ _ g1
        rw [h3] at this
        exact absurd (Option.some.inj this) (hn _ _ _)
      | _ =>
        have : has (noIns O) a = true := has_mem.mpr ⟨_, List.mem_filter.mpr ⟨hm, rfl⟩⟩
        rw [h2] at this; cases this) hf)
theorem ev_callB' {Ar : Om → List D → D → Prop} (c : Cal X.prog X.w X.K X.mg X.base CX0 k x (spP X.K Ar)) (hr : Room k X.A) (hg : Gl X x) (ha : EA X B ρ O (e :: es) ds) (hb : BoL O ds ds') (h : Ar (B.L ++ noIns O) ds' d) (hf : d.flat = true) (hdb : (x == ("__debug__" : Str)) = false := by decide)
    (he : starEach (e :: es) X.env = (false, eval e X.env) :: starEach es X.env := by rfl) (hpl : (backTo pos (starEach es X.env)).any (·.1) = false := by rfl) : EV X B ρ O (.Call (.Name x p) (e :: es) [] pos) d := by
  obtain ⟨f, F, hm⟩ := c.ex
  exact pe_imp (pe_callR (E := E0) F.raw hr hg hm F.kp pass0 ha hdb he hpl) fun σ H Q ⟨st, k⟩ => ⟨st, fun vs H1 e1 r1 => spP_useB (st.same e1).m r1 hb h hf fun w H2 e2 r2 => k w H2 (e1.trans e2) r2⟩
theorem ev_callDB {Ar : Om → List D → D → Prop} (c : CalD X.prog X.w X.K X.mg X.base k x n kw (spP X.K Ar)) (hr : Room k X.A) (hg : Gl X x) (ha : EA X B ρ O (e :: es) ds) (hb : BoL O ds ds') (h : Ar (B.L ++ noIns O) (ds' ++ [.non]) d) (hf : d.flat = true) (hdb : (x == ("__debug__" : Str)) = false := by decide)
    (he : starEach (e :: es) X.env = (false, eval e X.env) :: starEach es X.env := by rfl) (hpl : (backTo pos (starEach es X.env)).any (·.1) = false := by rfl) : EV X B ρ O (.Call (.Name x p) (e :: es) [] pos) d := by
  obtain ⟨f, fd, ps, F, hm, hk, _, ⟨dz, rz, b⟩, _⟩ := c.ex
  have app : ∀ {as bs : List D}, BoL O as bs → BoL O (as ++ [.non]) (bs ++ [.non]) := fun {as bs} z => by
    induction z with
    | nil => exact .cons .nil
    | cons _ ih => exact .cons ih
    | bor hq _ ih => exact .bor hq ih
  exact pe_imp (pe_callR (E := E0) (F.raw b rz) hr hg hm hk pass0 ha hdb he hpl) fun σ H Q ⟨st, k⟩ => ⟨st, fun vs H1 e1 r1 => spP_useB (st.same e1).m (r1.append (.cons .non .nil)) (app hb) h hf fun w H2 e2 r2 => k w H2 (e1.trans e2) r2⟩
theorem ev_callKB {Ar : Om → List D → D → Prop} {kpos : Pos} (c : CalD X.prog X.w X.K X.mg X.base k x n kw (spP X.K Ar)) (hr : Room k X.A) (hg : Gl X x) (ha : EA X B ρ O (e :: es) ds) (hk : EV X B ρ O a d1) (hl : ds.length = n) (hb : BoL O ds ds') (h : Ar (B.L ++ noIns O) (ds' ++ [d1]) d) (hf : d.flat = true) (hdb : (x == ("__debug__" : Str)) = false := by decide)
    (hall : (backToKw pos (keywordEach [⟨some kw, a, kpos⟩] X.env)).all (·.1.isSome) = true := by rfl) (hks : (backToKw pos (keywordEach [⟨some kw, a, kpos⟩] X.env)).filterMap (·.1) = [kw] := by rfl)
    (he : starEach (e :: es) X.env = (false, eval e X.env) :: starEach es X.env := by rfl) (hpl : ((backTo pos (starEach (e :: es) X.env)).any (·.1) || (backToKw pos (keywordEach [⟨some kw, a, kpos⟩] X.env)).any (·.1.isNone)) = false := by rfl) :
    EV X B ρ O (.Call (.Name x p) (e :: es) [⟨some kw, a, kpos⟩] pos) d := by
  obtain ⟨f, fd, ps, F, hm, hkp, _, _, kb⟩ := c.ex
  have app : ∀ {as bs : List D}, BoL O as bs → BoL O (as ++ [d1]) (bs ++ [d1]) := fun {as bs} z => by
    induction z with
    | nil => exact .cons .nil
    | cons _ ih => exact .cons ih
    | bor hq _ ih => exact .bor hq ih
  exact pe_imp (pe_callN (E := E0) F hr hg hm hkp kb pass0 ha (ek_cons hk ek_nil) hall hks hdb he hpl) fun σ H Q ⟨st, k⟩ => ⟨st, fun vs H1 e1 r1 => ⟨st.same e1, fun zs H2 e2 r2 => by
    have s2 := (st.same e1).same e2
    exact ⟨by rw [r1.length]; exact hl, by rw [r2.length]; rfl, spP_useB s2.m ((r1.mono (vis_same e2)).append r2) (app hb) h hf fun w H3 e3 r3 => k w H3 ((e1.trans e2).trans e3) r3⟩⟩⟩
/-- an instance's place -/
theorem rp_ins {K : PySem.W.Frag} {H : Hp} {v : V} (w : Vo O d C ns fs) (m : MOk K B O H) (r : Rp K (vis B.F O H) v d) : ∃ q dx fv, v = .ref q ∧ H q = some (.ins C dx fv) := by
  rcases w with rfl | ⟨a, rfl, h⟩
  · cases r with
    | obj h1 _ _ => exact ⟨_, _, _, rfl, vis_le _ _ h1⟩
  · cases r
    obtain ⟨dx, fv, h1, _⟩ := m.mem _ _ h
    exact ⟨a, dx, fv, rfl, h1⟩
theorem ev_cmpOB {op : CmpOp} {Ar : Om → List D → D → Prop} {ns ns' : List Str} {fs' : List D} (hop : ∀ a b, compareOp op a b = richCompare op a b) (ha : EV X B ρ O a d1) (hb : EV X B ρ O b d2) (w1 : Vo O d1 C ns fs) (w2 : Vo O d2 C ns' fs') (hs : PySem.W.findIn X.K (.ref C) (cmpInfo op).2.1 = some (some (.ref f))) (hf : PySem.W.isFn X.K (.ref f) = true)
    (F : Fok X.prog X.w X.K X.mg X.base CX0 k f (spP X.K Ar)) (hr : Room k X.A) (hbo : BoL O [d1, d2] [.obj C ns fs, .obj C ns' fs']) (h : Ar (B.L ++ noIns O) [.obj C ns fs, .obj C ns' fs'] d) (hfl : d.flat = true) (hm : behindInMarks op b = false) : EV X B ρ O (.Compare a [op] [b] pos) d :=
  pe_imp (pe_cmpR (op_cmpO (E := E0) hop hs hf F.raw hr pass0) ha hb hm) fun σ H Q ⟨st, k⟩ => ⟨st, fun v H1 e1 r1 => ⟨st.same e1, fun u H2 e2 r2 => by
    have s2 := (st.same e1).same e2
    have r1' := r1.mono (vis_same e2)
    obtain ⟨q1, dx1, fv1, rfl, g1⟩ := rp_ins w1 s2.m r1'
    obtain ⟨q2, dx2, fv2, rfl, g2⟩ := rp_ins w2 s2.m r2
    exact ⟨_, _, rfl, rfl, .inr ⟨_, _, g1⟩, .inr ⟨_, _, g2⟩, spP_useB s2.m (.cons r1' (.cons r2 .nil)) hbo h hfl fun w H3 e3 r3 => k w H3 ((e1.trans e2).trans e3) r3⟩⟩⟩
end
end DL

set_option Elab.async false
set_option linter.all false
set_option maxRecDepth 100000
set_option maxHeartbeats 4000000
namespace DL
open PySem PySem.Spec PyProof.Rows L2
/-! ### defs that hand back a new instance -/
def spM (K : PySem.W.Frag) (Ar : Om → List D → Addr → List Str → List D → Prop) : Sp := fun vs H Q _ => ∃ (F : Addr → Bool) (L : Om) (ds : List D) (C : Addr) (ns : List Str) (fs : List D), Bor K F L [] H ∧ RpL K (vis F [] H) vs ds ∧ Ar L ds C ns fs ∧
  ∀ p dx fv H', H p = none → Same H H' → H' p = some (.ins C dx fv) → fv.map (·.1) = ns → RpL K (vis F [(p, .ins C ns fs)] H') (fv.map (·.2)) fs → Q (.ref p) H'
section
variable {P : Program} {w : World} {K : PySem.W.Frag} {mg : Str → Option Value} {base : Heap}
theorem fn_newM {Ar : Om → List D → Addr → List Str → List D → Prop} {x qual : Str} {st : Stmt} {f : Addr} {fd : FuncData} {N ps : List Str} {k : Nat} (F : Fun K x qual st f fd) (S : FnScope N ps (defScope st)) (len : ∀ L ds C ns fs, Ar L ds C ns fs → ds.length = ps.length)
    (h : ∀ (cdv : Value) (A : Around) (outer : List Env) (s : Shared) (H : Hp) (E : XK) (B : Gd) (ds : List D) (C : Addr) (ns : List Str) (fs : List D), Room k (A.deeper (envOfC qual (defScope st) s.heap.objs.size f cdv)) → Ar B.L ds C ns fs →
      J (cxOf CX0 P w K mg base N qual (defScope st) f cdv A outer s H E).nox B (defBody st) (startD N ds) [] { nx := fun _ _ => False, rt := fun d' O' => ∃ p, d' = .rf p ∧ O' = [(p, .ins C ns fs)] }) : FnOk P w K mg base CX0 (k + 1) f fd ps (spM K Ar) := by
  refine F.ok S (fun vs H Q E q => ?_) (fun cdv A outer s H vs Q E hr q => ?_)
  · obtain ⟨F', L, ds, C, ns, fs, _, r, ha, _⟩ := q
    rw [r.length]; exact len L ds C ns fs ha
  · obtain ⟨F', L, ds, C, ns, fs, bo, r, ha, kk⟩ := q
    refine ⟨_, h cdv A outer s H E ⟨F', H, fun c d _ H => E c d H, L, bo.ok, bo.lF⟩ ds C ns fs hr ha, ⟨⟨fun a o e => ⟨e, rfl⟩, (fun a m hm => nomatch hm), (by simp), bo.lent⟩, start_env r⟩, fun _ _ _ _ z => z.elim, ?_, fun _ _ _ _ z => z.elim, fun _ _ _ _ z => z.elim, fun _ _ _ _ _ _ _ _ _ z => z.elim⟩
    rintro d' O' v H' ⟨p, rfl, rfl⟩ m r'
    cases r'
    obtain ⟨dx, fv, h1, h2, h3⟩ := m.mem p _ List.mem_cons_self
    refine kk p dx fv H' ?_ (fun a o q => (m.base a o q).1) h1 h2 h3
    cases q : H p with
    | none => rfl
    | some o =>
      have := (m.base p o q).2
      simp [has] at this
end
section
variable {X : Cx} {B : Gd} {ρ ρ' : List (Option D)} {O O' O1 O1' R O'' : Om} {a b c e o : Expr} {es : List Expr} {d d0 d1 d2 d3 d' : D} {ds ds' fs : List D} {pos pos' p apos spos : Pos} {C f : Addr} {k n : Nat} {x kw : Str} {ns : List Str} {st0 h₀ : Stmt} {ss rest body s1 s2 : List Stmt}
variable {α β γ S : Type} {E : β → D} {A : α → AE}
theorem spM_use {K : PySem.W.Frag} {Ar : Om → List D → Addr → List Str → List D → Prop} {H : Hp} {Q : VK} {E : XK} {vs : List V} (m : MOk K B O H) (r : RpL K (vis B.F O H) vs ds) (h : Ar (B.L ++ O) ds C ns fs)
    (k : ∀ p dx fv H', H p = none → Same H H' → H' p = some (.ins C dx fv) → fv.map (·.1) = ns → RpL K (vis B.F ((p, .ins C ns fs) :: O) H') (fv.map (·.2)) fs → Q (.ref p) H') : spM K Ar vs H Q E :=
  ⟨frF B O, B.L ++ O, ds, C, ns, fs, bor_of m, by rw [vis_fr]; exact r, h, fun p dx fv H' h1 h2 h3 h4 h5 => k p dx fv H' h1 h2 h3 h4 (by rw [vis_fr1] at h5; exact h5)⟩
/-- C(*y), a new instance -/
theorem em_makeStar {Ar : Om → List D → List Str → List D → Prop} {f : Addr} (Mk : Mk X.K C f) (F : FnR X.prog X.w X.K X.mg X.base CX0 k f (spI X.K C Ar)) (hr : Room (k + 1) X.A) (hg : Gl X x) (hm : X.mg x = some (.ref C)) (he : EV X B ρ O e d) (w : Vq (B.L ++ O) d ds) (h : Ar (B.L ++ O) ds ns fs) (hdb : (x == ("__debug__" : Str)) = false := by decide)
    (hst : starEach [.Starred e spos] X.env = [(true, eval e X.env)] := by rfl) : EM X B ρ O (.Call (.Name x p) [.Starred e spos] [] pos) C ns fs :=
  pe_imp (pe_makeStar (E := E0) Mk F hr hg hm pass0 he hdb hst) fun σ H Q ⟨st, k⟩ => ⟨st, fun v H1 e1 r1 => by
    obtain ⟨a, vs, rfl, q, rl⟩ := w.sq (st.same e1).m r1
    exact ⟨a, vs, rfl, q.symm, fun y dy hy hdy ne => made_useM (st.same e1).m rl h (fun p dx fv H2 hp e2 hq h1 h2 => k p dx fv H2 (e1.free hp) (e1.trans e2) hq h1 h2) y dy hy hdy ne⟩⟩
/-- C.m(..), a staticmethod, a new instance -/
theorem em_smeth {Ar : Om → List D → Addr → List Str → List D → Prop} {C0 : Addr} {m : Str} {mc : Value} {pp g : Addr} {es' : List D} (he : EV X B ρ O o (.rf C0)) (rd : ClX.CRead X.K C0 mc) (c : SMet X.K C0 mc m pp g) (F : Fok X.prog X.w X.K X.mg X.base CX0 k g (spM X.K Ar)) (hr : Room k X.A) (ha : EA X B ρ O (e :: es) es')
    (h : Ar (B.L ++ O) es' C ns fs) (pl : Sem Bool)
    (hst : starEach (e :: es) X.env = (false, eval e X.env) :: starEach es X.env := by rfl) (hpl : (backTo pos (starEach es X.env)).any (·.1) = false := by rfl)
    (ht : eval (.Call (.Attribute o m apos) (e :: es) [] pos) X.env = (do
      let ov ← eval o X.env
      standAt apos.atName
      let (f, first) ← holding [ov] (getMethod ov m pl)
      callWith pos f first (backTo pos (starEach (e :: es) X.env)) (backToKw pos (keywordEach [] X.env))) := by rfl) :
    EM X B ρ O (.Call (.Attribute o m apos) (e :: es) [] pos) C ns fs := by
  refine ⟨fun pins s σ H Q I hq => ?_⟩
  refine PySem.W.methodCall_KW (pl := pl) (thn (he.run pins s σ H (fun v H1 => v = .ref C0 ∧ Same H H1) I ⟨hq.1, fun v H1 e1 r1 => by cases r1; exact ⟨rfl, e1⟩⟩) fun u s1 ⟨x, H1, I1, rx, ex, e1⟩ => ?_) ht
  subst ex
  obtain rfl : u = Value.ref C0 := rx
  obtain ⟨st, k⟩ := hq
  obtain ⟨rest, hp⟩ := c.rc
  refine PySem.W.method_cls I1.kIn rd.ga (PySem.W.cls_bind I1.kIn rd.rd c.at_ (wpAny_call (PySem.W.sm_get (s := { s1 with toks := s1.toks + 1 }) I1.kIn hp (PySem.W.handed_on rfl ?_))))
  have I2 := I1.tok (s1.toks + 1)
  refine PySem.W.callWith_K (h₀ := X.base) I2.ok.mod.kin c.kp (thn (ha.run pos pins _ σ H1 (fun vs H2 => Same H1 H2 ∧ RpL X.K (vis B.F O H2) vs es') I2 ⟨st.same e1, fun vs H2 e2 r2 => ⟨e2, r2⟩⟩) fun us s2 ⟨vs, H2, I3, r, e2, r2⟩ => ⟨I3.kIn, ?_⟩) hst hpl
  exact wpAny_call (run_fnR (E := E0) F.raw hr pass0 I3 r (spM_use ((st.same e1).same e2).m r2 h fun p dx fv H3 h1 h2 h3 h4 h5 => k p dx fv H3 (e1.free (e2.free h1)) ((e1.trans e2).trans h2) h3 h4 h5))
/-- f(..), a new instance -/
theorem em_call {Ar : Om → List D → Addr → List Str → List D → Prop} (c : Cal X.prog X.w X.K X.mg X.base CX0 k x (spM X.K Ar)) (hr : Room k X.A) (hg : Gl X x) (ha : EA X B ρ O (e :: es) ds) (h : Ar (B.L ++ O) ds C ns fs) (hdb : (x == ("__debug__" : Str)) = false := by decide)
    (he : starEach (e :: es) X.env = (false, eval e X.env) :: starEach es X.env := by rfl) (hpl : (backTo pos (starEach es X.env)).any (·.1) = false := by rfl) : EM X B ρ O (.Call (.Name x p) (e :: es) [] pos) C ns fs := by
  obtain ⟨f, F, hm⟩ := c.ex
  exact pe_imp (pe_callR (E := E0) F.raw hr hg hm F.kp pass0 ha hdb he hpl) fun σ H Q ⟨st, k⟩ => ⟨st, fun vs H1 e1 r1 => spM_use (st.same e1).m r1 h fun p dx fv H2 h1 h2 h3 h4 h5 => k p dx fv H2 (e1.free h1) (e1.trans h2) h3 h4 h5⟩
/-- return C(..), a new instance -/
theorem j_retEM {A : AE} (he : EM X B ρ O e C ns fs) (h : ∀ p, A.rt (.rf p) ((p, .ins C ns fs) :: O)) : J1 X B (.Return (some e) pos) ρ O A :=
  ps_imp (ps_ret he) fun Dn σ H ⟨st, p⟩ => ⟨st, fun q dx fv H1 hp e1 hv hns r => by
    have op := st.m.newO hp
    have vs1 : Same (vis B.F O H) (vis B.F ((q, .ins C ns fs) :: O) H1) := fun a o h => by
      obtain ⟨h1, h2, h3⟩ := vis_some.mp h
      have ne : a ≠ q := ne_of_none h3 hp
      exact vis_some.mpr ⟨h1, by rw [has_cons, h2, Bool.or_false]; exact beq_eq_false_iff_ne.mpr (Ne.symm ne), e1 _ _ h3⟩
    refine p.rt _ _ _ H1 (h q) ⟨fun a o hb => ?_, fun a m hm => ?_, ?_, fun a m hm => (st.m.lent a m hm).mono vs1 fun o q => e1 _ _ q⟩ (.rf q)
    · have := st.m.base a o hb
      have ne : a ≠ q := ne_of_none this.1 hp
      exact ⟨e1 _ _ this.1, by rw [has_cons, this.2, Bool.or_false]; exact beq_eq_false_iff_ne.mpr (Ne.symm ne)⟩
    · rcases List.mem_cons.mp hm with z | z
      · cases z; exact ⟨dx, fv, hv, hns, r⟩
      · exact (st.m.mem a m z).mono vs1 fun o q => e1 _ _ q
    · rw [List.map_cons, List.nodup_cons]
      refine ⟨fun z => ?_, st.m.nd⟩
      obtain ⟨⟨a, m⟩, hm, ea⟩ := List.mem_map.mp z
      have : has O q = true := has_mem.mpr ⟨m, by have z : a = q := ea; rw [← z]; exact hm⟩
      rw [op] at this; cases this⟩
theorem jc_retEM {vals : γ → List D} {v : γ} {w : α} (he : EM X B ρ O e C ns (vals v)) (h : ∀ q, (A w).rt (.rf q) ((q, .ins C ns (vals v)) :: O)) : JC X B (.Return (some e) pos :: rest) ρ O A (.ret w) := fun _ => j_cons (j_retEM he h)
/-! ### x op= e by an own class's method -/
theorem op_iown {op : Operator} {g : Addr} {CX : CXT} {sp : Sp} {E : XK} (hc : PySem.W.selfFirst X.K C = true) (hs : PySem.W.findIn X.K (.ref C) (dunderI op.info.2) = some (some (.ref g))) (hf : PySem.W.isFn X.K (.ref g) = true) (F : FnR X.prog X.w X.K X.mg X.base CX k g sp) (hr : Room k X.A) (hx : Passes CX X E) :
    PIp X op (fun x y H Q => ∃ p, x = .ref p ∧ StX.InsC X H p C ∧ sp [.ref p, y] H (fun v H' => (∃ p, v = .ref p) ∧ Q v H') E) := by
  intro pins s σ H x y v u Q I rx ry h
  obtain ⟨p, rfl, h1, h3⟩ := h
  cases rx
  obtain ⟨ox, od, J, _⟩ := StX.insC_at I h1
  obtain ⟨m, hF⟩ := I.fr
  refine PySem.W.ksp_inplace hF I.ok.mod.kin J hc hs hf ?_
  exact wpAny_mono (wpAny_call (run_fnR (us := [.ref p, u]) (vs := [.ref p, y]) F hr hx I (.cons rfl (.cons ry .nil)) h3)) (fun v s' hv => back_of hv) fun _ _ e => e
structure IBinOf (K : PySem.W.Frag) (C : Addr) (nm : String) (f : Addr) : Prop where
  at_ : PySem.W.findIn K (.ref C) (dunderI nm) = some (some (.ref f))
  fn : PySem.W.isFn K (.ref f) = true
  sf : PySem.W.selfFirst K C = true
theorem j_augE {A : AE} {op : Operator} {Ar : Om → Om → List D → D → Om → Prop} {g q : Addr} {i : Nat} (hN : X.N.Nodup) (hi : X.N[i]? = some x) (hx : Loc X.env.scope x) (hρ : ρ[i]? = some (some (.rf q))) (hq : (q, M.ins C ns ds) ∈ O) (he : EV X B ρ O e d0) (bo : IBinOf X.K C op.info.2 g) (F : Fok X.prog X.w X.K X.mg X.base CX0 k g (spE X.K Ar)) (hr : Room k X.A)
    (hp : O.Perm (O1 ++ R)) (hp' : (O1' ++ R).Perm O'') (h : Ar (B.L ++ R) O1 [.rf q, d0] (.rf q) O1') (hn : A.nx (ρ.set i (some (.rf q))) O'') (hf : X.fn x = true ∨ X.env.scope.names.lookup x = some .local) : J1 X B (.AugAssign (.Name x pos') op e pos) ρ O A :=
  ps_imp (ps_aug hN hi hx he (op_iown (E := E0) bo.sf bo.at_ bo.fn F.raw hr pass0) hf) fun Dn σ H ⟨st, pp⟩ => by
    obtain ⟨v, e1, r1⟩ := st.env.2 i _ hρ
    cases r1
    refine ⟨_, e1, st, fun u H2 e2 r2 => ?_⟩
    have s2 := st.same e2
    obtain ⟨dx, fv, h1, h2, h3⟩ := s2.m.mem _ _ hq
    refine ⟨q, rfl, .inr ⟨_, _, h1⟩, spE_use s2 hp hp' (.cons (.rf q) (.cons r2 .nil)) h fun w H3 s3 e3 r3 => ?_⟩
    cases r3
    exact ⟨⟨_, rfl⟩, pp.nx _ O'' _ H3 hn (s3.set (.rf q)) ((vis_same e2).trans e3)⟩
theorem jc_augE {op : Operator} {Ar : Om → Om → List D → D → Om → Prop} {vals : γ → List D} {s : γ} {mc : Cmp (Unit × γ)} {g q : Addr} (i : Nat) {m : Unit → γ → Cmp α} {O2 : γ → Om} (nd : X.N.Nodup) (he : EV X B ρ O e d0) (bo : IBinOf X.K C op.info.2 g) (F : Fok X.prog X.w X.K X.mg X.base CX0 k g (spE X.K Ar)) (hr : Room k X.A)
    (hp : ∀ y, Put O q (.ins C ns (vals s)) (.ins C ns (vals y)) (O2 y)) (ha : mc.ok → ∀ R : Om, (∀ z ∈ R, z ∈ O) → Ar (B.L ++ R) [(q, .ins C ns (vals s))] [.rf q, d0] (.rf q) [(q, .ins C ns (vals mc.val.2))]) (h : ∀ u y, JC X B rest (ρ.set i (some (.rf q))) (O2 y) A (m u y)) (hi : X.N[i]? = some x := by rfl)
    (hx : Loc X.env.scope x := by first | exact .inl rfl | exact .inr rfl) (hρ : ρ[i]? = some (some (.rf q)) := by rfl) (hf : X.fn x = true ∨ X.env.scope.names.lookup x = some .local := by first | exact .inr rfl | exact .inl rfl) : JC X B (.AugAssign (.Name x pos') op e pos :: rest) ρ O A (setM mc m) := fun ok => by
  have hp0 := hp mc.val.2
  obtain ⟨R, h1, h2⟩ := hp0.split
  exact j_cons (j_augE nd hi hx hρ hp0.mem he bo F hr h1 h2 (ha ok.1 R fun z hz => h1.mem_iff.mpr (List.mem_append_right _ hz)) (h _ _ ok.2) hf)
end
end DL

set_option Elab.async false
set_option linter.all false
set_option maxRecDepth 100000
set_option maxHeartbeats 4000000
namespace DL
open PySem PySem.Spec PyProof.Rows L2 TL
section
variable {X : Cx} {B : Gd} {ρ ρ' : List (Option D)} {O O' : Om} {a b c e o : Expr} {pos : Pos} {rest s1 s2 : List Stmt} {α : Type} {A : α → AE}
/-- a test whose answer is plain -/
theorem jc_ifF {m : Cmp α} (hc : ET X B ρ O c false) (h : JC X B rest ρ O A m) : JC X B (.If c s1 [] pos :: rest) ρ O A m := fun ok => j_cons (j_if hc (fun h => nomatch h) (fun _ => j_nil (h ok)))
theorem jc_ifT {m : Cmp α} (hc : ET X B ρ O c true) (h : JC X B s1 ρ O (fun v => noNx (A v)) m) : JC X B (.If c s1 s2 pos :: rest) ρ O A m := fun ok => j_cons (j_if hc (fun _ => j_imp (h ok) (fun _ _ z => z.elim) (fun _ _ z => z) (fun _ _ z => z) (fun _ _ z => z) (fun _ _ _ _ _ z => z)) (fun h => nomatch h))
theorem rc_max2 {i j : Int} {K : PySem.W.Frag} : RC K B O (fun xs H Q => ∃ i j, xs = [.int i, .int j] ∧ Q (.int (if j > i then j else i)) H) [.int i, .int j] (.int (if j > i then j else i)) := fun xs H Q m r k => by
  cases r with
  | cons h1 r =>
    cases r with
    | cons h2 r => cases r; cases h1; cases h2; exact ⟨i, j, rfl, k _ H (Same.refl H) (.int _)⟩
end
theorem flats_map {β : Type} {E : β → D} (h : ∀ y, (E y).flat = true) : ∀ xs : List β, D.flats (xs.map E) = true
  | [] => rfl
  | x :: xs => by show ((E x).flat && D.flats (xs.map E)) = true; rw [h x, flats_map h xs]; rfl
theorem flat_rows (v : List Row) : (dL dRow v).flat = true := flats_map (E := dRow) (fun _ => rfl) v
theorem flat_orows (v : Option (List Row)) : (dO (dL dRow) v).flat = true := by
  cases v with
  | none => rfl
  | some v => exact flat_rows v
/-- a def's end: a new instance -/
def aRM {R : Type} (rt : R → D → Om → Prop) (r : R) : AE := { nx := fun _ _ => False, rt := rt r }
end DL

set_option Elab.async false
set_option linter.all false
set_option maxRecDepth 100000
set_option maxHeartbeats 4000000
namespace DL
open PySem PySem.Spec PyProof.Rows L2
/-! ### a def with the default None, from what stands behind the top -/
section
variable {P : Program} {w : World} {K : PySem.W.Frag} {mg : Str → Option Value} {base : Heap}
theorem funN_mk {x qual : Str} {st : Stmt} {f T : Addr} {oc tc : Value} {od td an : Option Addr} {osl tsl : Array (Option Value)} {nn : Nat} {kV doc pm cdv ct : Value}
    (l : K.lookup f = some ⟨oc, od, .func (PySem.W.fnOf x qual (defArgs st) (defBody st) (defScope st) (.ref T) kV doc pm an cdv ct), osl⟩) (c : PySem.W.codeIn K cdv qual = true) (hk : PySem.W.keepIn K (.ref f) = true)
    (lT : K.lookup T = some ⟨tc, td, .seq #[.none] nn, tsl⟩) : FunN K x qual st f (PySem.W.fnOf x qual (defArgs st) (defBody st) (defScope st) (.ref T) kV doc pm an cdv ct) :=
  ⟨⟨oc, od, _, kV, doc, pm, an, cdv, ct, osl, rfl, l, c, .inr ⟨by simp, T, _, [.none], nn, rfl, lT, rfl, .cons rfl .nil⟩, .inl rfl⟩, hk⟩
theorem cald_mk {x qual kw : Str} {st : Stmt} {f : Addr} {fd : FuncData} {ps : List Str} {n k : Nat} {sp : Sp} (F : FunN K x qual st f fd) (G : FnOk P w K mg base CX0 k f fd ps sp) (hm : mg x = some (.ref f)) (hl : ps.length = n + 1)
    (ha : ∀ (T : Addr) (kV doc pm : Value) (an : Option Addr) (cdv ct : Value) (us its : List Value), us.length = n + 1 → its.length = 1 →
      ∃ k, bindArgs (PySem.W.fnOf x qual (defArgs st) (defBody st) (defScope st) (.ref T) kV doc pm an cdv ct) ⟨us, []⟩ = seqItems? (.ref T) >>= k ∧ k (some its.toArray) = pure (ps.zip (us ++ its.drop 1)))
    (hd : ∀ (T : Addr) (kV doc pm : Value) (an : Option Addr) (cdv ct : Value) (us its : List Value), us.length = n → its.length = 1 →
      ∃ k, bindArgs (PySem.W.fnOf x qual (defArgs st) (defBody st) (defScope st) (.ref T) kV doc pm an cdv ct) ⟨us, []⟩ = seqItems? (.ref T) >>= k ∧ k (some its.toArray) = pure (ps.zip (us ++ its.drop 0)))
    (hw : ∀ (T : Addr) (kV doc pm : Value) (an : Option Addr) (cdv ct : Value) (us its ws : List Value), us.length = n → its.length = 1 → ws.length = 1 →
      ∃ k, bindArgs (PySem.W.fnOf x qual (defArgs st) (defBody st) (defScope st) (.ref T) kV doc pm an cdv ct) ⟨us, [kw].zip ws⟩ = seqItems? (.ref T) >>= k ∧ k (some its.toArray) = pure (ps.zip (us ++ ws))) :
    CalD P w K mg base k x n kw sp := by
  obtain ⟨dz, rz, b1⟩ := F.binds1 (ps := ps) (n + 1) 1 (by simp) (by simp [hl]) ha
  obtain ⟨dy, ry, b2⟩ := F.binds1 (ps := ps) n 0 (by simp) (by simp [hl]) hd
  obtain ⟨_, b3⟩ := F.kbindsD (ps := ps) n [kw] (fun us _ ws => us ++ ws) (by simp) (fun r1 _ r3 => r1.append r3) hw
  cases rz
  exact ⟨⟨f, fd, ps, G, hm, F.kp, b1, ⟨dy, ry, b2⟩, b3⟩⟩
end
end DL

set_option Elab.async false
set_option linter.all false
set_option maxRecDepth 100000
set_option maxHeartbeats 4000000
namespace DL
open PySem PySem.Spec PyProof.Rows L2 GenW
/-! ### a generator's code, up to what it hands out first -/
abbrev TF := (L2.St → Hp → Prop) → (V → Hp → Prop) → L2.St → Hp → Prop
structure FCtx (X : Cx) (A : Around) (c : Code) (fs : List Frame) (gd : Bool → Bool) : Prop where
  over : A.over c fs = X.A
  split : splitAtGen fs = none
  guard : fs.any Frame.guarded = false
  gd : gd false = false
  xe : ∀ e s, ¬ X.xe e s
structure FK (X : Cx) (A : Around) (R : GenEnd) (Y : Protocol) (s₀ : Shared) (c : Code) (fs : List Frame) (K : Flow → Sem PySem.Fin) (pins : List (Addr × Obj)) (nx : L2.St → Hp → Prop) (yl : V → Hp → Prop) : Prop where
  ok : ∀ σ H s, Inv X pins σ H s → nx σ H → Seg (model X.prog X.w) A R Y 1 s₀ c (K .next) fs s
  yl : ∀ σ H s x v, Inv X pins σ H s → RelV x v → yl x H → ∀ kap, Y 0 s₀ v s kap
structure FSs (X : Cx) (st : List Stmt) (t : TF) : Prop where
  run : ∀ (A : Around) (R : GenEnd) (Y : Protocol) (s₀ : Shared) (c : Code) (fs : List Frame) (K : Flow → Sem PySem.Fin) (J : Value → Sem PySem.Fin) (gd : Bool → Bool) (lv : List Value → List Value) (pins : List (Addr × Obj)) (s : Shared) (σ : L2.St) (H : Hp) (nx : L2.St → Hp → Prop) (yl : V → Hp → Prop),
    FCtx X A c fs gd → FK X A R Y s₀ c fs K pins nx yl → Inv X pins σ H s → t nx yl σ H → Seg (model X.prog X.w) A R Y 1 s₀ c ((execs st X.env).wrap K J gd lv) fs s
structure FS1 (X : Cx) (st : Stmt) (t : TF) : Prop where
  run : ∀ (A : Around) (R : GenEnd) (Y : Protocol) (s₀ : Shared) (c : Code) (fs : List Frame) (K : Flow → Sem PySem.Fin) (J : Value → Sem PySem.Fin) (gd : Bool → Bool) (lv : List Value → List Value) (pins : List (Addr × Obj)) (s : Shared) (σ : L2.St) (H : Hp) (nx : L2.St → Hp → Prop) (yl : V → Hp → Prop),
    FCtx X A c fs gd → FK X A R Y s₀ c fs K pins nx yl → Inv X pins σ H s → t nx yl σ H → Seg (model X.prog X.w) A R Y 1 s₀ c ((exec st X.env).wrap K J gd lv) fs s
section
variable {X : Cx} {st : Stmt} {rest : List Stmt}
theorem fss_imp {t u : TF} (h : FSs X rest t) (k : ∀ nx yl σ H, u nx yl σ H → t nx yl σ H) : FSs X rest u := ⟨fun A R Y s₀ c fs K J gd lv pins s σ H nx yl g kk I q => h.run A R Y s₀ c fs K J gd lv pins s σ H nx yl g kk I (k _ _ _ _ q)⟩
theorem fs1_imp {t u : TF} (h : FS1 X st t) (k : ∀ nx yl σ H, u nx yl σ H → t nx yl σ H) : FS1 X st u := ⟨fun A R Y s₀ c fs K J gd lv pins s σ H nx yl g kk I q => h.run A R Y s₀ c fs K J gd lv pins s σ H nx yl g kk I (k _ _ _ _ q)⟩
theorem fss_nil : FSs X [] (fun nx _ σ H => nx σ H) := ⟨fun A R Y s₀ c fs K J gd lv pins s σ H nx yl g k I q => seg_execs_nil (k.ok σ H s I q)⟩
/-- a statement that hands out nothing -/
theorem fss_pre {t : TS} {u : TF} (h : PS X st t) (r : FSs X rest u) : FSs X (st :: rest) (fun nx yl σ H => t { nx := fun σ H => u nx yl σ H, rt := fun _ _ => False } σ H) := by
  refine ⟨fun A R Y s₀ c fs K J gd lv pins s σ H nx yl g k I q => seg_execs_cons (seg_wrap ?_)⟩
  rw [g.over]
  refine wpAny_mono (h.run pins s σ H _ I q) (fun f s' hs => ?_) fun e s' z => (g.xe e s' z).elim
  cases f with
  | next => obtain ⟨σ', H', I', q'⟩ := hs; exact r.run A R Y s₀ c fs K J gd lv pins s' σ' H' nx yl g k I' q'
  | brk => obtain ⟨_, _, _, z⟩ := hs; exact z.elim
  | cont => obtain ⟨_, _, _, z⟩ := hs; exact z.elim
  | ret v => obtain ⟨_, _, _, _, _, z⟩ := hs; exact z.elim
theorem fss_cons {t u : TF} (h : FS1 X st t) (r : FSs X rest u) : FSs X (st :: rest) (fun nx yl σ H => t (fun σ H => u nx yl σ H) yl σ H) := by
  refine ⟨fun A R Y s₀ c fs K J gd lv pins s σ H nx yl g k I q => seg_execs_cons ?_⟩
  exact h.run A R Y s₀ c fs _ J gd lv pins s σ H _ yl g ⟨fun σ' H' s' I' q' => r.run A R Y s₀ c fs K J gd lv pins s' σ' H' nx yl g k I' q', k.yl⟩ I q
theorem fs1_if {c : Expr} {s1 s2 : List Stmt} {pos : Pos} {tc : TT} {t u : TF} (hc : PT X c tc) (h1 : FSs X s1 t) (h2 : FSs X s2 u) : FS1 X (.If c s1 s2 pos) (fun nx yl σ H => tc σ H fun b H1 => if b = true then t nx yl σ H1 else u nx yl σ H1) := by
  refine ⟨fun A R Y s₀ cd fs K J gd lv pins s σ H nx yl g k I q => ?_⟩
  rw [exec_If]
  refine seg_at ?_
  show Seg _ _ _ _ _ _ _ ((isTrue c X.env (eval c X.env) >>= fun b => if b = true then execs s1 X.env else execs s2 X.env).wrap K J gd lv) fs s
  refine seg_bind_wrap ?_
  rw [g.over]
  refine wpAny_mono (hc.run pins s σ H _ I q) (fun b s' hs => ?_) fun e s' z => (g.xe e s' z).elim
  obtain ⟨H1, I1, q1⟩ := hs
  cases b with
  | true =>
    rw [if_pos rfl] at q1
    show Seg _ _ _ _ _ _ _ (Sem.wrap K J gd lv (if true = true then execs s1 X.env else execs s2 X.env)) fs s'
    rw [if_pos rfl]
    exact h1.run A R Y s₀ cd fs K J gd lv pins s' σ H1 nx yl g k I1 q1
  | false =>
    rw [if_neg Bool.false_ne_true] at q1
    show Seg _ _ _ _ _ _ _ (Sem.wrap K J gd lv (if false = true then execs s1 X.env else execs s2 X.env)) fs s'
    rw [if_neg Bool.false_ne_true]
    exact h2.run A R Y s₀ cd fs K J gd lv pins s' σ H1 nx yl g k I1 q1
theorem fs1_yield {e : Expr} {yp pos : Pos} {te : TE} (he : PE X e te) (hco : X.env.scope.isCoroutine = false := by rfl) (hi : interactive X.env = false := by rfl) : FS1 X (.Expr (.Yield (some e) yp) pos) (fun _ yl σ H => te σ H fun x H1 => yl x H1) := by
  refine ⟨fun A R Y s₀ c fs K J gd lv pins s σ H nx yl g k I q => ?_⟩
  refine seg_Expr_Yield (n := 0) g.split g.gd g.guard ?_ hco hi
  rw [g.over]
  refine wpAny_mono (he.run pins s σ H _ I q) (fun v s' hs => ?_) fun e s' z => (g.xe e s' z).elim
  obtain ⟨x, H1, I1, rv, q1⟩ := hs
  exact fun kap _ => k.yl σ H1 s' x v I1 rv q1 kap
/-! for -/
theorem seg_For {M : Model} {A : Around} {R : GenEnd} {Y : Protocol} {n : Nat} {s₀ : Shared} {c : Code} {fs : List Frame} {s : Shared} {env : Env} {K : Flow → Sem PySem.Fin} {J : Value → Sem PySem.Fin} {gd : Bool → Bool} {lv : List Value → List Value} {tg iter : Expr} {body orelse : List Stmt} {pos : Pos}
    (h : wpAny M (A.over c fs) (eval iter env) (fun x s1 => wpAny M (A.over c fs) (pyIter x) (fun it s2 => ∀ p, Seg M A R Y n s₀ (.forLoop tg it body orelse env) (M.den (.forLoop tg it body orelse env))
      (.ret (fun r => ((match r with | .ok f => (.pure f : Sem Flow) | .error e => .raise e).onRaise (cameBack env)).wrap K J gd lv) none (gd false) (lv []) c p [] :: fs) s2) (fun x s' => Seg M A R Y n s₀ c (J x) fs s') s1) (fun x s' => Seg M A R Y n s₀ c (J x) fs s') s)
    (hs : ∀ x, foldedSetIterable iter env x = pure x := by intro _; rfl) : Seg M A R Y n s₀ c ((exec (.For tg iter body orelse pos) env).wrap K J gd lv) fs s := by
  rw [exec_For]
  refine seg_at ?_
  show Seg _ _ _ _ _ _ _ ((eval iter env >>= fun y => foldedSetIterable iter env y >>= fun x => standAt iter.pos >>= fun _ => holding [x] (pyIter x) >>= fun it => runOwn (.forLoop tg it body orelse env) env).wrap K J gd lv) fs s
  refine seg_bind_wrap ?_
  refine wpAny_mono h (fun x s1 h1 => ?_) fun _ _ z => z
  rw [hs x]
  show Seg _ _ _ _ _ _ _ ((standAt iter.pos >>= fun _ => holding [x] (pyIter x) >>= fun it => runOwn (.forLoop tg it body orelse env) env).wrap K J gd lv) fs s1
  refine seg_at ?_
  show Seg _ _ _ _ _ _ _ ((holding [x] (pyIter x) >>= fun it => runOwn (.forLoop tg it body orelse env) env).wrap K J gd lv) fs s1
  refine seg_bind_wrap (wpAny_holding ?_)
  refine wpAny_mono h1 (fun it s2 h2 => ?_) fun _ _ z => z
  exact seg_call h2
abbrev noteS (env : Env) (e : Value) : Sem PySem.Fin := (do noteFrame e env; theTreesLotGoes e : Sem Unit).wrap (fun _ => .raise e) .raise id id
theorem seg_forLoop {prog : Program} {w : World} {A : Around} {R : GenEnd} {Y : Protocol} {n : Nat} {s₀ : Shared} {fs : List Frame} {s : Shared} {env : Env} {tg : Expr} {it : Value} {body orelse : List Stmt}
    (h : wpAny (model prog w) (A.over (.forLoop tg it body orelse env) fs) (pyNext it) (fun r s1 => match r with
      | none => Seg (model prog w) A R Y n s₀ (.forLoop tg it body orelse env) (.pure (.again (.block orelse env))) fs s1
      | some v => wpAny (model prog w) (A.over (.forLoop tg it body orelse env) fs) (letOwnedTupleGo tg it v) (fun _ s2 => wpAny (model prog w) (A.over (.forLoop tg it body orelse env) fs) (assign tg env v) (fun _ s3 =>
          Seg (model prog w) A R Y n s₀ (.forLoop tg it body orelse env) ((execs body env).wrap (fun f => match f with
            | .next | .cont => .pure (.again (.forLoop tg it body orelse env))
            | .brk => .pure (.done .next)
            | .ret v => .pure (.done (.ret v))) (noteS env) id id) fs s3) (fun _ _ => False) s2) (fun _ _ => False) s1) (fun _ _ => False) s) :
    Seg (model prog w) A R Y n s₀ (.forLoop tg it body orelse env) ((model prog w).den (.forLoop tg it body orelse env)) fs s := by
  show Seg _ A R Y n s₀ _ ((forTurn tg it body orelse env).onRaise (fun x => do noteFrame x env; theTreesLotGoes x)) fs s
  have hB : ∀ e, (do noteFrame e env; theTreesLotGoes e : Sem Unit).bind (fun _ => .raise e) = noteS env e := fun e => Sem.bind_eq_wrap _ _
  rw [Sem.onRaise_eq_wrap]
  unfold forTurn
  refine seg_at ?_
  show Seg _ _ _ _ _ _ _ ((((pyNext it).onRaise (fun _ => standAt { tg.pos with line := 0 })) >>= _).wrap _ _ _ _) fs s
  refine seg_bind_wrap (wpAny_onRaise (wpAny_mono h (fun r s1 h1 => ?_) fun _ _ z => z.elim))
  cases r with
  | none => exact h1
  | some v =>
    show Seg _ _ _ _ _ _ _ ((letOwnedTupleGo tg it v >>= _).wrap _ _ _ _) fs s1
    refine seg_bind_wrap (wpAny_mono h1 (fun _ s2 h2 => ?_) fun _ _ z => z.elim)
    show Seg _ _ _ _ _ _ _ ((assign tg env v >>= _).wrap _ _ _ _) fs s2
    refine seg_bind_wrap (wpAny_mono h2 (fun _ s3 h3 => ?_) fun _ _ z => z.elim)
    show Seg _ _ _ _ _ _ _ ((execs body env >>= _).wrap _ _ _ _) fs s3
    rw [Sem.bind_eq_wrap', Sem.wrap_wrap]
    rw [Sem.wrap_congr (execs body env) _ _ (K' := fun f => match f with
            | .next | .cont => .pure (.again (.forLoop tg it body orelse env))
            | .brk => .pure (.done .next)
            | .ret v => .pure (.done (.ret v))) (H' := noteS env)
        (fun f => by cases f <;> rfl) (fun e => by exact hB e)]
    exact h3
theorem fctx_loop {A : Around} {c c' : Code} {fs : List Frame} {gd : Bool → Bool} {k : Result → Sem PySem.Fin} {l kp : List Value} {p : Pos} (g : FCtx X A c fs gd) (hw : c'.weight = 0) (hu : c'.cUnits = 0) : FCtx X A c' (.ret k none (gd false) l c p kp :: fs) id where
  over := (over_loop hw hu).trans g.over
  split := by
    show (splitAtGen fs).map _ = none
    rw [g.split]; rfl
  guard := by
    show (gd false || fs.any Frame.guarded) = false
    rw [g.gd, g.guard]; rfl
  gd := rfl
  xe := g.xe
def tForF (wi : TI) (g : TG) (tb : TF) : TF := fun nx yl σ H => wi σ H fun J H1 => ∃ W : Nat → Nat → L2.St → Hp → Prop, (∃ m, W 0 m σ H1) ∧ ∀ i m σ H, W i m σ H →
  (J.stop i H ∧ nx σ H) ∨ (J.go i H ∧ ∃ N : L2.St → Hp → Prop, (∀ σ' H', N σ' H' → ∃ m', m' < m ∧ W (i + 1) m' σ' H') ∧ ∀ x H', J.yld i H x H' → g x σ H' fun σ2 H2 => tb N yl σ2 H2)
theorem fs1_for {iter tg : Expr} {body : List Stmt} {wi : TI} {g : TG} {tb : TF} {pos : Pos} (hc : X.calm = true) (hi : PI X tg iter wi) (hg : PG X tg g) (hb : FSs X body tb)
    (hs : ∀ x, foldedSetIterable iter X.env x = pure x := by intro _; rfl) : FS1 X (.For tg iter body [] pos) (tForF wi g tb) := by
  refine ⟨fun A R Y s₀ c fs K J gd lv pins s σ H nx yl cx k I h => seg_For ?_ hs⟩
  rw [cx.over]
  have no : ∀ {α : Type} {t : Sem α} {Q : α → Shared → Prop} {E : Value → Shared → Prop} {s : Shared}, wpAny (model X.prog X.w) X.A t Q X.xe s → wpAny (model X.prog X.w) X.A t Q E s := fun h => wpAny_mono h (fun _ _ z => z) fun e s z => (cx.xe e s z).elim
  refine no (thn (hi.run pins s σ H _ I h) fun v s1 h1 => no (thn h1 fun itv s2 h2 => ?_))
  obtain ⟨it, fp, tn, Jt, H2, e, I2, T, st2, f2, W, ⟨m0, w0⟩, turn⟩ := h2
  subst e
  intro p
  have gl := fctx_loop (k := (fun r => ((match r with | .ok f => (.pure f : Sem Flow) | .error e => .raise e).onRaise (cameBack X.env)).wrap K J gd lv)) (c' := .forLoop tg (.ref it) body [] X.env) (l := lv []) (kp := []) (p := p) cx rfl rfl
  have stat : ∀ {H' : Hp}, (∀ b ∈ fp, H' b = none) → ∀ b ∈ fp, FpOk X pins H' b := fun hn b hb => ⟨hn b hb, (f2 b hb).2⟩
  have loop : ∀ (m i : Nat) (s3 : Shared) (σ3 : L2.St) (H3 : Hp), Inv X pins σ3 H3 s3 → tn i s3.heap → (∀ b ∈ fp, H3 b = none) → W i m σ3 H3 →
      Seg (model X.prog X.w) A R Y 1 s₀ (.forLoop tg (.ref it) body [] X.env) ((model X.prog X.w).den (.forLoop tg (.ref it) body [] X.env))
        (.ret (fun r => ((match r with | .ok f => (.pure f : Sem Flow) | .error e => .raise e).onRaise (cameBack X.env)).wrap K J gd lv) none (gd false) (lv []) c p [] :: fs) s3 := by
    intro m
    induction m using Nat.strongRecOn with
    | ind m ih =>
      intro i s3 σ3 H3 I3 st3 fr3 w3
      refine seg_forLoop ?_
      rw [gl.over]
      rcases turn i m σ3 H3 w3 with ⟨stop, qn⟩ | ⟨go, N, hN, step⟩
      · refine no (thn (T.done X rfl rfl rfl hc i pins s3 σ3 H3 X.xe I3 (stat fr3) st3 stop) fun r s4 ⟨hr, I4⟩ => ?_)
        subst hr
        refine seg_again rfl ?_
        show Seg _ _ _ _ _ _ _ ((execs [] X.env).onRaise _ >>= _) _ s4
        exact seg_leaf (.ok .next) (k.ok σ3 H3 s4 I4 qn)
      · refine no (thn (T.item X rfl rfl rfl hc i pins s3 σ3 H3 X.xe I3 (stat fr3) st3 go) fun r s4 ⟨u, hr, h4⟩ => ?_)
        subst hr
        refine no (thn h4 fun _ s5 ⟨x, H5, I5, r5, y5, st5, fr5⟩ => ?_)
        have I5' := I5.pinned (stat fr5) (T.obj _ _ st5)
        refine no (thn (hg.run _ s5 σ3 H5 x u _ I5' r5 (step x H5 y5)) fun _ s6 ⟨σ6, H6, I6, q6⟩ => ?_)
        refine hb.run A R Y s₀ _ _ _ _ id id _ s6 σ6 H6 N yl gl ⟨fun σ7 H7 s7 I7 n7 => ?_, fun σ7 H7 s7 x v I7 rv q7 kap => k.yl σ7 H7 s7 x v I7.unpinned rv q7 kap⟩ I6 q6
        obtain ⟨m', hm, w7⟩ := hN σ7 H7 n7
        exact seg_again rfl (ih m' hm (i + 1) s7 σ7 H7 I7.unpinned (T.keep _ _ _ st5 fun b hb o e => (I7.pin (b, o) (List.mem_append_right _ (List.mem_append_right _ (mem_pinsAt hb e)))).1) (fun b hb => by
          obtain ⟨o, e, d⟩ := T.obj _ _ st5 b hb
          exact (I7.pin (b, o) (List.mem_append_right _ (List.mem_append_right _ (mem_pinsAt hb e)))).2.1) w7)
  exact loop m0 0 s2 σ H2 I2 st2 (fun b hb => (f2 b hb).1) w0
end
end DL

set_option Elab.async false
set_option linter.all false
set_option maxRecDepth 100000
set_option maxHeartbeats 4000000
namespace DL
open PySem PySem.Spec PyProof.Rows L2 GenW
/-! ### a generator def: what it hands out first -/
abbrev SpF := List V → Hp → (Option V → Hp → Prop) → Prop
/-- the state left behind by a piece of a generator -/
structure LeftY (P : Program) (w : World) (outer : List Env) (H H' : Hp) (s s' : Shared) : Prop where
  os : s'.os = s.os
  bare : AllBare s'.gens
  un : Un (frs outer) [] H H' s.heap s'.heap
  hok : HOk P w H' s'.heap
def FEnd (P : Program) (w : World) (outer : List Env) (H : Hp) (s : Shared) (Q : Option V → Hp → Prop) : GenEnd := fun _ _ r s1 => (r = .ok (.ret .none) ∨ r = .ok .next) ∧ ∃ H', LeftY P w outer H H' s s1 ∧ Q none H'
def FItem (P : Program) (w : World) (outer : List Env) (H : Hp) (s : Shared) (Q : Option V → Hp → Prop) : Protocol := fun _ _ v s1 _ => ∃ H' x, LeftY P w outer H H' s s1 ∧ RelV x v ∧ Q (some x) H'
/-- what a call gives: a generator that has not begun -/
def FMade (P : Program) (w : World) (k : Nat) (outer : List Env) (H : Hp) (s : Shared) (Q : Option V → Hp → Prop) (u : Value) (s' : Shared) : Prop :=
  ∃ (a : Addr) (g : Nat) (c : Code), u = .ref a ∧ s.heap.objs.size ≤ a ∧ a < s'.heap.objs.size ∧ s'.heap.IsGen a g ∧ s'.gens[g]? = some (.fresh c) ∧ s'.os = s.os ∧ AllBare s'.gens ∧ s'.heap.NoLimit ∧ (∀ b o, s.heap.get? b = some o → s'.heap.get? b = some o) ∧
    ∀ (A : Around) (s2 : Shared), Room k A → A.frames = some outer → (∀ b o, s'.heap.get? b = some o → s2.heap.get? b = some o) → s2.os = s.os → AllBare s2.gens →
      Seg (model P w) A (FEnd P w outer H s Q) (FItem P w outer H s Q) 1 s2 c ((model P w).den c) [] s2
structure FFn (P : Program) (w : World) (K : PySem.W.Frag) (mg : Str → Option Value) (base : Heap) (k : Nat) (f : Addr) (fd : FuncData) (ps : List Str) (sp : SpF) : Prop where
  len : ∀ vs H Q, sp vs H Q → vs.length = ps.length
  run : ∀ (A : Around) (outer : List Env) (s : Shared) (H : Hp) (args : Args) (us : List Value) (vs : List V) (Q : Option V → Hp → Prop), Room k A → Env0 P w K mg base A outer s H → BindsTo s fd args (ps.zip us) → Vals vs us → sp vs H Q →
    codeAny (model P w) A (.call (.ref f) args) (fun r s' => match r with | .ok (.ret u) => FMade P w k outer H s Q u s' | _ => False) s
abbrev gcx0 (P : Program) (w : World) (K : PySem.W.Frag) (mg : Str → Option Value) (base : Heap) (N : List Str) (qual : Str) (scope : Scope) (f : Addr) (cd : Value) (A : Around) (outer : List Env) (s : Shared) (H : Hp) : Cx := (gcxOf P w K mg base N qual scope f cd A outer s H (fun _ _ _ => False) []).nox
/-- the rule: a generator def, by its body -/
theorem ffn_of {P : Program} {w : World} {K : PySem.W.Frag} {mg : Str → Option Value} {base : Heap} {k : Nat} {f : Addr} {name qual : Str} {params : Arguments} {body : List Stmt} {scope : Scope} {dV kV doc pm cdv ct oc : Value} {an od : Option Addr}
    {osl : Array (Option Value)} {N ps : List Str} {sp : SpF} (lk : K.lookup f = some ⟨oc, od, .func (PySem.W.fnOf name qual params body scope dV kV doc pm an cdv ct), osl⟩) (hcd : PySem.W.codeIn K cdv qual = true) (S : GScope N ps scope)
    (len : ∀ vs H Q, sp vs H Q → vs.length = ps.length)
    (hbody : ∀ (A : Around) (outer : List Env) (s : Shared) (H : Hp) (vs : List V) (Q : Option V → Hp → Prop), Room k (A.deeper (envOfC qual scope s.heap.objs.size f cdv)) → sp vs H Q →
      ∃ t, FSs (gcx0 P w K mg base N qual scope f cdv A outer s H) body t ∧ t (fun _ H' => Q none H') (fun v H' => Q (some v) H') (start N vs) H) :
    FFn P w K mg base (k + 1) f (PySem.W.fnOf name qual params body scope dV kV doc pm an cdv ct) ps sp := by
  refine ⟨len, fun A outer s H args us vs Q hr e0 hb r hsp => ?_⟩
  have hl := len _ _ _ hsp
  have KX : K.In s.heap := e0.mod.kin.keeps fun b o e => (e0.bs b o e).1
  have lim : s.heap.NoLimit := e0.mod.nolimit.keeps fun b o e => (e0.bs b o e).1
  have hkind : ∀ y ∈ ps.zip us, scope.names.lookup y.1 = some .local ∨ (scope.names.lookup y.1 = some .cell ∧ ((cellsFrom (s.heap.objs.size + 1) scope.names []).lookup y.1).isSome = true) := fun ⟨n, v⟩ hy => by
    rcases S.par n (List.of_mem_zip hy).1 with q | q
    · exact .inl q
    · exact .inr ⟨q, PySem.W.cellsFrom_some _ _ _ (.inl q)⟩
  refine codeAny_call_generator hr.depth (KX _ _ lk) rfl S.co S.gen rfl (PySem.W.codeRec_of KX hcd) (hb _ _ _ _ ?_)
  refine wpAny_newFunctionEnv_cells S.kind hkind fun env he s1 x => ?_
  subst he
  have lim1 : s1.heap.NoLimit := lim.keeps x.toInCall.keep
  refine ⟨lim1, ?_⟩
  obtain ⟨h1, tk, es1, hk1⟩ := x.done
  have os1 : s1.os = s.os := by rw [es1]
  have gen1 : s1.gens = s.gens := by rw [es1]
  have lt1 : s.heap.objs.size < s1.heap.objs.size := x.toInCall.ns.lt
  have sz1 : s.heap.objs.size ≤ s1.heap.objs.size := Nat.le_of_lt lt1
  have kp1 : ∀ b o, s.heap.get? b = some o → s1.heap.get? b = some o := x.toInCall.keep
  have main : ∀ (go : Obj) (nm qn : Value) (tk2 : Nat), go.cls = .type "generator" → go.data = .fields #[.int s1.gens.size 0, nm, qn] → go.slots = #[] → (∀ h : Heap, (h.push go).get? h.objs.size = some go) →
      FMade P w (k + 1) outer H s Q (.ref s1.heap.objs.size) { s1 with gens := s1.gens.push (.fresh (.func body (envOfC qual scope s.heap.objs.size f cdv))), toks := tk2, heap := s1.heap.push go } := by
    intro go nm qn tk2 hgc hgd0 hgs hgp
    have hgen : ∀ h : Heap, h.get? s1.heap.objs.size = some go → h.IsGen s1.heap.objs.size s1.gens.size := fun h e => ⟨go, nm, qn, e, hgc, hgd0, hgs⟩
    have hpushed : (s1.heap.push go).get? s1.heap.objs.size = some go := hgp _
    refine ⟨s1.heap.objs.size, s1.gens.size, _, rfl, sz1, ?_, hgen _ hpushed, Array.getElem?_push_size .., os1, ?_, lim1.keeps fun b o e => Heap.get?_push_of_some _ e, fun b o e => Heap.get?_push_of_some _ (kp1 b o e), ?_⟩
    · show _ < (s1.heap.push _).objs.size
      rw [Heap.size_push]; exact Nat.lt_succ_self _
    · exact AllBare.push (by rw [gen1]; exact e0.bare) rfl
    intro Aw s2 hrw hfr hk2 hos hba
    have e0w : Env0 P w K mg base Aw outer s H := ⟨hfr, e0.mod, e0.bs, e0.bsz, e0.funs, e0.frf, e0.hok, e0.bare⟩
    obtain ⟨t, ht, hq⟩ := hbody Aw outer s H vs Q (hrw.deeper _) hsp
    have I1 : Inv (gcxOf P w K mg base N qual scope f cdv Aw outer s H (fun _ _ _ => False) []) [] (start N vs) H s1 := inv_startG S hrw.hd e0w hl r x
    have kp2 : ∀ b o, s1.heap.get? b = some o → s2.heap.get? b = some o := fun b o e => hk2 b o (Heap.get?_push_of_some _ e)
    have I2 : Inv (gcxOf P w K mg base N qual scope f cdv Aw outer s H (fun _ _ _ => False) []) [] (start N vs) H s2 :=
      I1.call' (ch := []) (hos.trans os1.symm) (Un.kept kp2) (I1.hok.kept kp2) hba fun b z => by simp at z
    have left : ∀ {pins : List (Addr × Obj)} {σ' : L2.St} {H' : Hp} {s' : Shared}, Inv (gcx0 P w K mg base N qual scope f cdv Aw outer s H) pins σ' H' s' → LeftY P w outer H H' s s' := fun J => ⟨J.os, J.bare, J.base, J.hok⟩
    refine seg_func ?_
    refine ht.run Aw _ _ s2 _ [] _ _ id id [] s2 (start N vs) H _ _ ⟨over_func, rfl, rfl, rfl, fun _ _ z => z⟩ ⟨fun σ' H' s' J q => ?_, fun σ' H' s' xx v J rv q kap => ⟨H', xx, left J, rv, q⟩⟩ (I2.wish _) hq
    exact seg_end (.ok (.ret .none)) ⟨.inl rfl, H', left J, q⟩
  exact main _ _ _ _ rfl rfl rfl fun h => Heap.get?_push_size _ rfl
/-! the call -/
abbrev TGf := L2.St → Hp → (Option V → Hp → Prop) → Prop
structure PGf (X : Cx) (k : Nat) (e : Expr) (tg : TGf) : Prop where
  run : ∀ (pins : List (Addr × Obj)) (s : Shared) (σ : L2.St) (H : Hp) (Q : Option V → Hp → Prop), Inv X pins σ H s → tg σ H Q → wpAny (model X.prog X.w) X.A (eval e X.env)
    (fun u s' => ∃ H1 sc, Inv X pins σ H1 sc ∧ FMade X.prog X.w k X.stack H1 sc Q u s') X.xe s
section
variable {X : Cx} {k : Nat} {f : Addr} {fd : FuncData} {ps : List Str} {sp : SpF} {dvs : List V} {ds : List Value} {x : Str} {p pos pos' : Pos} {e : Expr} {es : List Expr}
theorem pgf_call {t : TA} (F : FFn X.prog X.w X.K X.mg X.base k f fd ps sp) (hr : Room k X.A) (hg : Gl X x) (hm : X.mg x = some (.ref f)) (hk : PySem.W.keepIn X.K (.ref f) = true) (hb : Binds X.K fd ps ds) (hd : Vals dvs ds)
    (ha : PA X (e :: es) t) (hdb : (x == ("__debug__" : Str)) = false := by decide) (he : starEach (e :: es) X.env = (false, eval e X.env) :: starEach es X.env := by rfl) (hpl : (backTo pos' (starEach es X.env)).any (·.1) = false := by rfl) :
    PGf X k (.Call (.Name x p) (e :: es) [] pos') (fun σ H Q => t σ H fun vs H1 => sp (vs ++ dvs) H1 Q) := by
  refine ⟨fun pins s σ H Q I h => ?_⟩
  refine wpAny_Call_Name_kw (ld_glob I hg hm ?_ hdb)
  refine PySem.W.callWith_K (h₀ := X.base) I.ok.mod.kin hk (thn (ha.run pos' pins s σ H _ I h) fun us s1 ⟨vs, H1, I1, r, q⟩ => ⟨I1.kIn, ?_⟩) he hpl
  have r2 : Vals (vs ++ dvs) (us ++ ds) := r.append hd
  have hl2 : (us ++ ds).length = ps.length := by rw [← r2.length]; exact F.len _ _ _ q
  refine wpAny_call (codeAny_mono (F.run X.A X.stack s1 H1 ⟨us, []⟩ (us ++ ds) (vs ++ dvs) Q hr I1.env0 (hb s1 us I1.kIn hl2) r2 q) fun r s' hq => ?_)
  cases r with
  | error e => exact False.elim hq
  | ok fl =>
    cases fl with
    | ret u => exact ⟨H1, s1, I1, hq⟩
    | next => exact False.elim hq
    | brk => exact False.elim hq
    | cont => exact False.elim hq
/-- for x in g(..): the body leaves at its first turn -/
def tForG (tg : TGf) (i : Nat) (tb : TS) : TS := fun D σ H => tg σ H fun eo H1 => match eo with
  | none => D.nx σ H1
  | some v => tb { rt := D.rt, nx := fun _ _ => False, ct := fun _ _ => False, bk := D.nx } (σ.set i (some v)) H1
theorem ps_forG {tg : TGf} {i : Nat} {body : List Stmt} {tb : TS} (hp : PassesOwn (model X.prog X.w) X.A X.env X.xe) (hc : X.calm = true) (hg : PGf X k e tg) (hr : Room (k + 3) X.A) (hN : X.N.Nodup) (hi : X.N[i]? = some x) (hx : Loc X.env.scope x) (hb : PSs X body tb)
    (hf : X.fn x = true ∨ X.env.scope.names.lookup x = some .local) (hs : ∀ x, foldedSetIterable e X.env x = pure x := by intro _; rfl) : PS X (.For (.Name x p) e body [] pos) (tForG tg i tb) := by
  refine ⟨fun pins s σ H D I h => ?_⟩
  refine wpAny_For (thn (hg.run pins s σ H _ I h) fun u s1 h1 => ?_) hs
  obtain ⟨H1, sc, I1, a, g, c, rfl, ha1, ha2, hgn, hgs, hos, hba, hlim, hkp, wake⟩ := h1
  refine wpAny_pyIter_gen hgn ?_
  refine codeAny_forLoop_any (fun n s' => n = 0 ∧ s' = s1) ?_ 0 ⟨rfl, rfl⟩
  rintro n s2 ⟨rfl, rfl⟩
  have hh : X.A.handled = none := I.ok.hd hc
  have back : ∀ {H' : Hp} {s' s'' : Shared} {x : GenState}, LeftY X.prog X.w X.stack H1 H' sc s' → x.bare = true → s''.os = s'.os → s''.gens = (s'.setGen g x).gens → (∀ b o, s'.heap.get? b = some o → s''.heap.get? b = some o) → Inv X pins σ H' s'' := fun {H' s' s'' x} l hx h1 h2 h3 =>
    I1.call' (ch := []) (h1.trans l.os) (l.un.trans (Un.kept h3)) (l.hok.kept h3) (by rw [h2]; exact allBare_setGen l.bare hx) fun b z => by simp at z
  have body' : ∀ (v : Value) (y : V) (H' : Hp) (s' : Shared), Inv X pins σ H' s' → RelV y v → tb { rt := D.rt, nx := fun _ _ => False, ct := fun _ _ => False, bk := D.nx } (σ.set i (some y)) H' → wpAny (model X.prog X.w) X.A (letOwnedTupleGo (.Name x p) (.ref a) v) (fun _ s₁' =>
          wpAny (model X.prog X.w) X.A (assign (.Name x p) X.env v) (fun _ s₂ => wpAny (model X.prog X.w) X.A (execs body X.env) (fun f s₃ => match f with
            | .next | .cont => ∃ m, m < 0 ∧ m = 0 ∧ s₃ = s2
            | .brk => SP X pins D .next s₃
            | .ret v => SP X pins D (.ret v) s₃) (notedBy (model X.prog X.w) X.A X.env fun e s' => cameBackBy (model X.prog X.w) X.A X.env X.xe e s') s₂) (notedBy (model X.prog X.w) X.A X.env fun e s' => cameBackBy (model X.prog X.w) X.A X.env X.xe e s') s₁') (notedBy (model X.prog X.w) X.A X.env fun e s' => cameBackBy (model X.prog X.w) X.A X.env X.xe e s') s' := fun v y H' s' J rv q => by
    refine wpAny_pure ?_
    refine wpAny_passesOwn hp (thn ((pg_name (pos := p) hN hi hx hf).run pins s' σ H' y v _ J rv q) fun _ s6 ⟨σ6, H6, I6, q6⟩ => ?_)
    refine wpAny_passesOwn hp (thn (hb.run _ s6 σ6 H6 _ I6 q6) fun f s7 q7 => ?_)
    cases f with
    | next => obtain ⟨_, _, _, z⟩ := q7; exact z.elim
    | cont => obtain ⟨_, _, _, z⟩ := q7; exact z.elim
    | brk => obtain ⟨σ7, H7, I7, q7⟩ := q7; exact ⟨σ7, H7, I7, q7⟩
    | ret v => exact q7
  refine next_genG (n := 1) (F := fun _ _ s1 => ∃ H', LeftY X.prog X.w X.stack H1 H' sc s1 ∧ (match (none : Option V) with | none => D.nx σ H' | some v => tb { rt := D.rt, nx := fun _ _ => False, ct := fun _ _ => False, bk := D.nx } (σ.set i (some v)) H')) (Er := fun _ _ => False)
    (Y := FItem X.prog X.w X.stack H1 sc fun eo H1 => match eo with | none => D.nx σ H1 | some v => tb { rt := D.rt, nx := fun _ _ => False, ct := fun _ _ => False, bk := D.nx } (σ.set i (some v)) H1) hh hlim ?_ hgn hgs ⟨rfl, ?_⟩ (fun v s3 gs' hgb hv => ?_) (fun s3 hv h' hk => ?_) fun _ _ z => z.elim
  · have := hr.dp; omega
  · refine seg_imp (R := FEnd X.prog X.w X.stack H1 sc (fun eo H1 => match eo with | none => D.nx σ H1 | some v => tb { rt := D.rt, nx := fun _ _ => False, ct := fun _ _ => False, bk := D.nx } (σ.set i (some v)) H1)) (Y := FItem X.prog X.w X.stack H1 sc (fun eo H1 => match eo with | none => D.nx σ H1 | some v => tb { rt := D.rt, nx := fun _ _ => False, ct := fun _ _ => False, bk := D.nx } (σ.set i (some v)) H1)) (Y' := FItem X.prog X.w X.stack H1 sc (fun eo H1 => match eo with | none => D.nx σ H1 | some v => tb { rt := D.rt, nx := fun _ _ => False, ct := fun _ _ => False, bk := D.nx } (σ.set i (some v)) H1)) (fun n s₀ r s hR => Or.inl hR) (fun n s₀ v s kap kap' _ hY => hY) 1 (wake X.A.in1 (s2.setGen g .running) ⟨hr.hd, ?_, ?_⟩ I.ok.frames (fun b o e => e) hos (allBare_setGen hba rfl))
    · have := hr.dp
      show X.A.in1.depth + 3 * k + 5 < _
      show X.A.depth + 3 * k + 5 < _
      omega
    · have := hr.un
      show X.A.units + 1 + 16 * k + 200 < _
      omega
  · obtain ⟨H', y, l, rv, q⟩ := hv
    exact body' v y H' _ (back l hgb rfl rfl fun _ _ e => e) rv q
  · obtain ⟨H', l, q⟩ := hv
    refine wpAny_execs_nil ⟨σ, H', back (x := .finished) l rfl rfl rfl hk, q⟩
end
end DL

set_option Elab.async false
set_option linter.all false
set_option maxRecDepth 100000
set_option maxHeartbeats 4000000
namespace DL
open PySem PySem.Spec PyProof.Rows L2 GenW
/-! ### the same, of data -/
abbrev PNx := List (Option D) → Om → Prop
abbrev PYl := D → Om → Prop
def tWF (K : PySem.W.Frag) (B : Gd) (ρ : List (Option D)) (O : Om) (nxp : PNx) (ylp : PYl) : TF := fun nx yl σ H => StOk K B ρ O σ H ∧ (∀ ρ' O' σ' H', nxp ρ' O' → StOk K B ρ' O' σ' H' → Same (vis B.F O H) (vis B.F O' H') → nx σ' H') ∧ ∀ d O' v H', ylp d O' → MOk K B O' H' → Rp K (vis B.F O' H') v d → yl v H'
abbrev FJ (X : Cx) (B : Gd) (ss : List Stmt) (ρ : List (Option D)) (O : Om) (nxp : PNx) (ylp : PYl) : Prop := FSs X ss (tWF X.K B ρ O nxp ylp)
abbrev FJ1 (X : Cx) (B : Gd) (st : Stmt) (ρ : List (Option D)) (O : Om) (nxp : PNx) (ylp : PYl) : Prop := FS1 X st (tWF X.K B ρ O nxp ylp)
/-- a block of one statement, as a statement -/
theorem ps_of_pss {X : Cx} {st : Stmt} {t : TS} (h : PSs X [st] t) : PS X st t := ⟨fun pins s σ H D I q Γ p hΓ => by
  have z := h.run pins s σ H D I q Γ p hΓ
  rw [execs_cons, Sem.wp_bind'] at z
  refine Sem.wp_mono (model X.prog X.w) Γ _ (fun f p2 s2 h2 => ?_) (fun _ _ _ x => x) _ _ z
  cases f <;> exact h2⟩
section
variable {X : Cx} {B : Gd} {ρ : List (Option D)} {O : Om} {nxp : PNx} {ylp : PYl} {st : Stmt} {rest s1 s2 : List Stmt} {c e : Expr} {d : D} {b1 : Bool} {pos yp : Pos}
theorem fj_nil (h : nxp ρ O) : FJ X B [] ρ O nxp ylp := fss_imp fss_nil fun nx yl σ H ⟨st, n, y⟩ => n ρ O σ H h st (Same.refl _)
theorem fj_imp {nxp' : PNx} {ylp' : PYl} (h : FJ X B rest ρ O nxp ylp) (hn : ∀ ρ O, nxp ρ O → nxp' ρ O) (hy : ∀ d O, ylp d O → ylp' d O) : FJ X B rest ρ O nxp' ylp' := fss_imp h fun nx yl σ H ⟨st, n, y⟩ => ⟨st, fun ρ' O' σ' H' q => n ρ' O' σ' H' (hn _ _ q), fun d O' v H' q => y d O' v H' (hy _ _ q)⟩
theorem fj_any (B : Gd) (rest : List Stmt) (nxp : PNx) (ylp : PYl) : FSs X rest (fun nx yl σ H => ∃ ρ' O', FJ X B rest ρ' O' nxp ylp ∧ tWF X.K B ρ' O' nxp ylp nx yl σ H) :=
  ⟨fun A R Y s₀ c fs K J gd lv pins s σ H nx yl g k I ⟨ρ', O', q, s'⟩ => q.run A R Y s₀ c fs K J gd lv pins s σ H nx yl g k I s'⟩
theorem fj_pre (h : J1 X B st ρ O { nx := fun ρ' O' => FJ X B rest ρ' O' nxp ylp, rt := fun _ _ => False }) : FJ X B (st :: rest) ρ O nxp ylp :=
  fss_imp (fss_pre h (fj_any B rest nxp ylp)) fun nx yl σ H ⟨s, n, y⟩ => ⟨s, fun ρ' O' σ' H' q s' e => ⟨ρ', O', q, s', fun ρ2 O2 σ2 H2 a b c => n ρ2 O2 σ2 H2 a b (e.trans c), y⟩, fun _ _ _ _ z => z.elim, fun _ _ _ _ z => z.elim, fun _ _ _ _ z => z.elim, fun _ _ _ _ _ _ _ _ _ z => z.elim⟩
theorem fj_cons (h : FJ1 X B st ρ O (fun ρ' O' => FJ X B rest ρ' O' nxp ylp) ylp) : FJ X B (st :: rest) ρ O nxp ylp :=
  fss_imp (fss_cons h (fj_any B rest nxp ylp)) fun nx yl σ H ⟨s, n, y⟩ => ⟨s, fun ρ' O' σ' H' q s' e => ⟨ρ', O', q, s', fun ρ2 O2 σ2 H2 a b c => n ρ2 O2 σ2 H2 a b (e.trans c), y⟩, y⟩
theorem fj_if (hc : ET X B ρ O c b1) (h1 : b1 = true → FJ X B s1 ρ O nxp ylp) (h2 : b1 = false → FJ X B s2 ρ O nxp ylp) : FJ1 X B (.If c s1 s2 pos) ρ O nxp ylp := by
  have gr : ∀ {H H1 : Hp} {nx : L2.St → Hp → Prop}, Same H H1 → (∀ ρ' O' σ' H', nxp ρ' O' → StOk X.K B ρ' O' σ' H' → Same (vis B.F O H) (vis B.F O' H') → nx σ' H') → ∀ ρ' O' σ' H', nxp ρ' O' → StOk X.K B ρ' O' σ' H' → Same (vis B.F O H1) (vis B.F O' H') → nx σ' H' := fun e n ρ' O' σ' H' a b c => n ρ' O' σ' H' a b ((vis_same e).trans c)
  cases b1 with
  | true => exact fs1_imp (fs1_if hc (h1 rfl) (u := fun _ _ _ _ => False) ⟨fun _ _ _ _ _ _ _ _ _ _ _ _ _ _ _ _ _ _ _ h => h.elim⟩) fun nx yl σ H ⟨st, n, y⟩ => ⟨st, fun H1 e1 => iteT ⟨st.same e1, gr e1 n, y⟩⟩
  | false => exact fs1_imp (fs1_if hc (t := fun _ _ _ _ => False) ⟨fun _ _ _ _ _ _ _ _ _ _ _ _ _ _ _ _ _ _ _ h => h.elim⟩ (h2 rfl)) fun nx yl σ H ⟨st, n, y⟩ => ⟨st, fun H1 e1 => iteF ⟨st.same e1, gr e1 n, y⟩⟩
theorem fj_yield (he : EV X B ρ O e d) (h : ylp d O) (hco : X.env.scope.isCoroutine = false := by rfl) (hi : interactive X.env = false := by rfl) : FJ1 X B (.Expr (.Yield (some e) yp) pos) ρ O nxp ylp :=
  fs1_imp (fs1_yield he hco hi) fun nx yl σ H ⟨st, n, y⟩ => ⟨st, fun v H1 e1 r1 => y d O v H1 h (st.same e1).m r1⟩
theorem fj_for {ds : List D} {iter tg : Expr} {body : List Stmt} {wi : TI} {sl : List Nat} {f} {g : TG} {G : Om → Prop} (R : Nat → List (Option D) → Om → Prop)
    (hc : X.calm = true) (hi : EI X B ρ O tg iter wi G ds) (hg : EB X tg g sl f) (hv : ∀ i ρ O, R i ρ O → G O) (h0 : ∃ ρ0, Wk ρ0 ρ ∧ R 0 ρ0 O)
    (hs : ∀ i d ρ O, ds[i]? = some d → R i ρ O → ∃ ρ', f d ρ = some ρ' ∧ FJ X B body ρ' O (fun ρ2 O2 => ∃ ρ3, Wk ρ3 ρ2 ∧ R (i + 1) ρ3 O2) ylp)
    (hd : ∀ ρ O, R ds.length ρ O → nxp ρ O)
    (hfs : ∀ x, foldedSetIterable iter X.env x = pure x := by intro _; rfl) : FJ1 X B (.For tg iter body [] pos) ρ O nxp ylp := by
  have any_ : FSs X body (fun nx yl σ H => ∃ ρ' O' np, FJ X B body ρ' O' np ylp ∧ tWF X.K B ρ' O' np ylp nx yl σ H) := ⟨fun A R Y s₀ c fs K J gd lv pins s σ H nx yl g k I ⟨ρ', O', np, q, s'⟩ => q.run A R Y s₀ c fs K J gd lv pins s σ H nx yl g k I s'⟩
  refine fs1_imp (fs1_for hc hi.pi hg.pg any_ hfs) fun nx yl σ H ⟨st, n, y⟩ => hi.is σ H _ st fun J H1 e1 S => ?_
  obtain ⟨ρ0, w0, h0⟩ := h0
  have s1 := (st.same e1).weak w0
  refine ⟨fun i m σ' H' => m = ds.length - i ∧ i ≤ ds.length ∧ ∃ ρ' O', R i ρ' O' ∧ StOk X.K B ρ' O' σ' H' ∧ Same (vis B.F O H1) (vis B.F O' H'), ⟨ds.length, by simp, Nat.zero_le _, ρ0, O, h0, s1, Same.refl _⟩, ?_⟩
  rintro i m σ' H' ⟨rfl, hi', ρ', O', hr, s', e'⟩
  by_cases hlt : i < ds.length
  · refine .inr ⟨S.goes i B O' H' rfl hlt s'.m e' (hv _ _ _ hr), fun σ2 H2 => ∃ ρ2 O2, R (i + 1) ρ2 O2 ∧ StOk X.K B ρ2 O2 σ2 H2 ∧ Same (vis B.F O H1) (vis B.F O2 H2), fun σ2 H2 ⟨ρ2, O2, h2, s2, e2⟩ => ⟨ds.length - (i + 1), by omega, rfl, hlt, ρ2, O2, h2, s2, e2⟩, fun x H2 yy => ?_⟩
    obtain ⟨e2, d, hd', rv⟩ := S.yields i B O' H' x H2 rfl hlt s'.m e' (hv _ _ _ hr) yy
    obtain ⟨ρ1, hf, j⟩ := hs i d ρ' O' hd' hr
    refine hg.is B O' d ρ' ρ1 x σ' H2 _ hf (s'.same e2) rv fun σ2 s2 _ => ⟨ρ1, O', _, j, s2, ?_, y⟩
    have e'' := e'.trans (vis_same (F := B.F) (O := O') e2)
    exact fun ρ3 O3 σ3 H3 ⟨ρ4, w, h4⟩ s3 e3 => ⟨ρ4, O3, h4, s3.weak w, e''.trans e3⟩
  · have e : i = ds.length := by omega
    subst e
    exact .inl ⟨S.stops B O' H' rfl s'.m e' (hv _ _ _ hr), n ρ' O' σ' H' (hd ρ' O' hr) s' ((vis_same e1).trans e')⟩
end
/-! ### mirrors -/
abbrev FJC {α : Type} (X : Cx) (B : Gd) (ss : List Stmt) (ρ : List (Option D)) (O : Om) (nxp : α → PNx) (ylp : α → PYl) (m : Cmp α) : Prop := m.ok → FJ X B ss ρ O (nxp m.val) (ylp m.val)
abbrev FJC1 {α : Type} (X : Cx) (B : Gd) (s : Stmt) (ρ : List (Option D)) (O : Om) (nxp : α → PNx) (ylp : α → PYl) (m : Cmp α) : Prop := m.ok → FJ1 X B s ρ O (nxp m.val) (ylp m.val)
def nxO {α : Type} (v : Option α) : PNx := fun _ _ => v = none
def ylO {α : Type} (E : α → D) (v : Option α) : PYl := fun d O => ∃ y, v = some y ∧ Frz O d (E y)
def nxF {S L R : Type} (st : S → List (Option D) → Om → Prop) : Ctl S L R → PNx
  | .nx s => fun ρ O => ∃ ρ', Wk ρ' ρ ∧ st s ρ' O
  | _ => fun _ _ => False
def ylF {S L α : Type} (E : α → D) : Ctl S L (Option α) → PYl
  | .rt r => ylO E r
  | _ => fun _ _ => False
section
variable {X : Cx} {B : Gd} {ρ : List (Option D)} {O : Om} {st : Stmt} {rest s1 s2 body : List Stmt} {c e : Expr} {d : D} {b1 : Bool} {pos yp : Pos} {α β S L : Type} {nxp : α → PNx} {ylp : α → PYl} {E : α → D}
theorem fjc_req {q : Prop} {m : Cmp α} (h : q → FJC X B rest ρ O nxp ylp m) : FJC X B rest ρ O nxp ylp (.req q m) := fun ok => h ok.1 ok.2
theorem fjc_nil {v : α} (h : nxp v ρ O) : FJC X B [] ρ O nxp ylp (.ret v) := fun _ => fj_nil h
theorem fjc_pre {v : β} {m : β → Cmp α} (h : JC X B [st] ρ O (fun y => { nx := fun ρ' O' => FJC X B rest ρ' O' nxp ylp (m y), rt := fun _ _ => False }) (.bnd v fun y => .ret y)) : FJC X B (st :: rest) ρ O nxp ylp (.bnd v m) := fun ok =>
  fj_pre (ps_of_pss (j_imp (h trivial) (fun ρ' O' (q : FJC X B rest ρ' O' nxp ylp (m v)) => q ok) (fun _ _ z => z) (fun _ _ z => z) (fun _ _ z => z) (fun _ _ _ _ _ z => z)))
theorem fjc_ite {m1 m2 : Cmp α} (hc : ET X B ρ O c b1) (h1 : b1 = true → FJC X B s1 ρ O nxp ylp m1) (h2 : b1 = false → FJC X B s2 ρ O nxp ylp m2) : FJC X B [.If c s1 s2 pos] ρ O nxp ylp (if b1 = true then m1 else m2) := fun ok => by
  cases b1 with
  | true => exact fj_cons (fs1_imp (fj_if hc (fun _ => h1 rfl ok) (fun h => nomatch h)) fun nx yl σ H ⟨st, n, y⟩ => ⟨st, fun ρ' O' σ' H' q => n ρ' O' σ' H' (fj_nil q), y⟩)
  | false => exact fj_cons (fs1_imp (fj_if hc (fun h => nomatch h) (fun _ => h2 rfl ok)) fun nx yl σ H ⟨st, n, y⟩ => ⟨st, fun ρ' O' σ' H' q => n ρ' O' σ' H' (fj_nil q), y⟩)
theorem fjc_yield {v : α} (he : EV X B ρ O e d) (h : ylp v d O) (hco : X.env.scope.isCoroutine = false := by rfl) (hi : interactive X.env = false := by rfl) : FJC X B [.Expr (.Yield (some e) yp) pos] ρ O nxp ylp (.ret v) := fun _ =>
  fj_cons (fs1_imp (fj_yield he h hco hi) fun nx yl σ H ⟨st, n, y⟩ => ⟨st, fun _ _ _ _ (z : False) => z.elim, y⟩)
theorem fjc_for {γ : Type} {xs : List γ} {E' : γ → D} {iter tg : Expr} {wi : TI} {sl : List Nat} {bf} {g : TG} {G : Om → Prop} {f : γ → S → Cmp (Ctl S S (Option α))} {s0 : S} {st : S → List (Option D) → Om → Prop}
    (hc : X.calm = true) (hi : EI X B ρ O tg iter wi G (xs.map E')) (hg : EB X tg g sl bf) (hv : ∀ s ρ O, st s ρ O → G O) (h0 : ∃ ρ0, Wk ρ0 ρ ∧ st s0 ρ0 O)
    (hb : ∀ y s ρ O, st s ρ O → ∃ ρ', bf (E' y) ρ = some ρ' ∧ FJC X B body ρ' O (nxF st) (ylF E) (f y s))
    (hfs : ∀ x, foldedSetIterable iter X.env x = pure x := by intro _; rfl) : FJC1 X B (.For tg iter body [] pos) ρ O (nxF (L := L) st) (ylF E) (forC f xs s0) := fun ok => by
  refine fj_for (fun i ρ' O' => ∃ s, st s ρ' O' ∧ (forC (L := L) f (xs.drop i) s).ok ∧ (forC (L := L) f (xs.drop i) s).val = (forC f xs s0).val) hc hi hg (fun i ρ O ⟨s, q, _⟩ => hv s ρ O q) (by
    obtain ⟨ρ0, w, q⟩ := h0
    exact ⟨ρ0, w, s0, q, ok, rfl⟩) (fun i d ρ' O' hd ⟨s, q, k1, k2⟩ => ?_) (fun ρ' O' ⟨s, q, k1, k2⟩ => ?_) hfs
  · obtain ⟨y, hy, rfl⟩ := map_item hd
    obtain ⟨hl, ey⟩ := List.getElem?_eq_some_iff.mp hy
    have e1 : xs.drop i = y :: xs.drop (i + 1) := by rw [List.drop_eq_getElem_cons hl, ey]
    rw [e1] at k1 k2
    obtain ⟨ρ2, f1, j⟩ := hb y s ρ' O' q
    obtain ⟨ok1, ok2⟩ := k1
    have k2' : ((f y s).val.goOn (forC (L := L) f (xs.drop (i + 1)))).val = (forC f xs s0).val := k2
    have j' := j ok1
    refine ⟨ρ2, f1, ?_⟩
    cases hv' : (f y s).val with
    | nx s' =>
      rw [hv'] at ok2 k2' j'
      exact fj_imp j' (fun ρ3 O3 ⟨ρ4, w, q4⟩ => ⟨ρ4, w, _, q4, ok2, k2'⟩) (fun _ _ z => z.elim)
    | ct s' =>
      rw [hv'] at j'
      exact fj_imp j' (fun _ _ z => z.elim) (fun _ _ z => z.elim)
    | bk s' =>
      rw [hv'] at j'
      exact fj_imp j' (fun _ _ z => z.elim) (fun _ _ z => z.elim)
    | rt r =>
      rw [hv'] at ok2 k2' j'
      rw [← k2']
      exact fj_imp j' (fun _ _ z => z.elim) (fun _ _ z => z)
    | ex r =>
      rw [hv'] at j'
      exact fj_imp j' (fun _ _ z => z.elim) (fun _ _ z => z.elim)
  · have e1 : xs.drop (xs.map E').length = [] := by rw [List.length_map]; exact List.drop_length
    rw [e1] at k2
    rw [← k2]
    exact ⟨ρ', wk_refl, q⟩
theorem fjc_seqR {st1 : S → List (Option D) → Om → Prop} {m1 : Cmp (Ctl S L (Option α))} {m2 : S → Cmp (Option α)} (h1 : FJC1 X B st ρ O (nxF st1) (ylF E) m1) (h2 : ∀ s ρ' O', st1 s ρ' O' → FJC X B rest ρ' O' nxO (ylO E) (m2 s)) :
    FJC X B (st :: rest) ρ O nxO (ylO E) (m1.bindR m2) := fun ok => by
  obtain ⟨q, v⟩ := m1
  obtain ⟨ok1, ok2⟩ := ok
  have h := h1 ok1
  refine fj_cons ?_
  cases v with
  | nx s => exact fs1_imp h fun nx yl σ H ⟨w, n, y⟩ => ⟨w, fun ρ' O' σ' H' ⟨ρ2, wk, q⟩ s' e => n ρ' O' σ' H' (fss_imp (h2 _ _ _ q ok2) fun nx yl σ H ⟨s, p⟩ => ⟨s.weak wk, p⟩) s' e, fun _ _ _ _ z => z.elim⟩
  | rt r => exact fs1_imp h fun nx yl σ H ⟨w, n, y⟩ => ⟨w, fun _ _ _ _ z => z.elim, y⟩
  | bk r => exact False.elim ok2
  | ct r => exact False.elim ok2
  | ex r => exact False.elim ok2
end
/-! ### the def, its call -/
def spF (K : PySem.W.Frag) (Ar : Om → List D → Option D → Prop) : SpF := fun vs H Q => ∃ (F : Addr → Bool) (L : Om) (ds : List D) (eo : Option D), Bor K F L [] H ∧ RpL K (vis F [] H) vs ds ∧ Ar L ds eo ∧
  (eo = none → ∀ H', (∀ a o, H a = some o → H' a = some o) → Q none H') ∧ ∀ d, eo = some d → ∀ v H', (∀ a o, H a = some o → H' a = some o) → Rp K (vis F [] H') v d → Q (some v) H'
structure CalG (P : Program) (w : World) (K : PySem.W.Frag) (mg : Str → Option Value) (base : Heap) (k : Nat) (x : Str) (sp : SpF) : Prop where
  ex : ∃ f fd ps, FFn P w K mg base k f fd ps sp ∧ mg x = some (.ref f) ∧ PySem.W.keepIn K (.ref f) = true ∧ Binds K fd ps []
section
variable {P : Program} {w : World} {K : PySem.W.Frag} {mg : Str → Option Value} {base : Heap}
theorem fn_genF {Ar : Om → List D → Option D → Prop} {x qual : Str} {st : Stmt} {f : Addr} {fd : FuncData} {N ps : List Str} {dvs : List V} {k : Nat} (F : FunD K x qual (defArgs st) (defBody st) (defScope st) dvs [] f fd) (S : GScope N ps (defScope st)) (len : ∀ L ds d, Ar L ds d → ds.length = ps.length)
    (h : ∀ (cdv : Value) (A : Around) (outer : List Env) (s : Shared) (H : Hp) (B : Gd) (ds : List D) (eo : Option D), Room k (A.deeper (envOfC qual (defScope st) s.heap.objs.size f cdv)) → Ar B.L ds eo →
      FJ (gcx0 P w K mg base N qual (defScope st) f cdv A outer s H) B (defBody st) (startD N ds) [] (fun _ _ => eo = none) (fun d' O' => ∃ d, eo = some d ∧ Frz O' d' d)) : FFn P w K mg base (k + 1) f fd ps (spF K Ar) := by
  obtain ⟨oc, od, dV, kV, doc, pm, an, cdv, ct, osl, rfl, lk, hcd, _, _⟩ := F.ex
  refine ffn_of lk hcd S (fun vs H Q q => ?_) (fun A outer s H vs Q hr q => ?_)
  · obtain ⟨F', L, ds, d, _, r, ha, _⟩ := q
    rw [r.length]; exact len L ds d ha
  · obtain ⟨F', L, ds, eo, bo, r, ha, k0, kk⟩ := q
    refine ⟨_, h cdv A outer s H ⟨F', H, fun _ _ _ _ => False, L, bo.ok, bo.lF⟩ ds eo hr ha, ⟨⟨fun a o e => ⟨e, rfl⟩, (fun a m hm => nomatch hm), (by simp), bo.lent⟩, start_env r⟩, ?_, ?_⟩
    · exact fun ρ O σ H' z s' _ => k0 z H' fun a o q => (s'.m.base a o q).1
    · rintro d' O' v H' ⟨d, rfl, fz⟩ m r'
      exact kk d rfl v H' (fun a o q => (m.base a o q).1) (Rp.frz vis_all m.frz fz r')
theorem calg_mk {x qual : Str} {st : Stmt} {f : Addr} {fd : FuncData} {ps : List Str} {n k : Nat} {sp : SpF} (F : FunN K x qual st f fd) (G : FFn P w K mg base k f fd ps sp) (hm : mg x = some (.ref f)) (hl : ps.length = n + 1)
    (ha : ∀ (T : Addr) (kV doc pm : Value) (an : Option Addr) (cdv ct : Value) (us its : List Value), us.length = n + 1 → its.length = 1 →
      ∃ k, bindArgs (PySem.W.fnOf x qual (defArgs st) (defBody st) (defScope st) (.ref T) kV doc pm an cdv ct) ⟨us, []⟩ = seqItems? (.ref T) >>= k ∧ k (some its.toArray) = pure (ps.zip (us ++ its.drop 1))) : CalG P w K mg base k x sp := by
  obtain ⟨dz, rz, b1⟩ := F.binds1 (ps := ps) (n + 1) 1 (by simp) (by simp [hl]) ha
  cases rz
  exact ⟨f, fd, ps, G, hm, F.kp, b1⟩
end
section
variable {X : Cx} {B : Gd} {ρ : List (Option D)} {O : Om} {body rest : List Stmt} {e iter : Expr} {es : List Expr} {ds : List D} {pos pos' p p1 : Pos} {x y : Str} {k i : Nat} {α β : Type}
abbrev EGf (X : Cx) (k : Nat) (B : Gd) (ρ : List (Option D)) (O : Om) (e : Expr) (eo : Option D) : Prop := PGf X k e (fun σ H Q => StOk X.K B ρ O σ H ∧ (eo = none → ∀ H', Same H H' → Q none H') ∧ ∀ d, eo = some d → ∀ v H', Same H H' → Rp X.K (vis B.F O H') v d → Q (some v) H')
theorem egf_call {Ar : Om → List D → Option D → Prop} {eo : Option D} (c : CalG X.prog X.w X.K X.mg X.base k x (spF X.K Ar)) (hr : Room k X.A) (hg : Gl X x) (ha : EA X B ρ O (e :: es) ds) (h : Ar (B.L ++ O) ds eo) (hdb : (x == ("__debug__" : Str)) = false := by decide)
    (he : starEach (e :: es) X.env = (false, eval e X.env) :: starEach es X.env := by rfl) (hpl : (backTo pos' (starEach es X.env)).any (·.1) = false := by rfl) : EGf X k B ρ O (.Call (.Name x p) (e :: es) [] pos') eo := by
  obtain ⟨f, fd, ps, F, hm, hk, hb⟩ := c.ex
  have z := pgf_call (p := p) (pos' := pos') (dvs := []) F hr hg hm hk hb .nil ha hdb he hpl
  refine ⟨fun pins s σ H Q I ⟨st, q0, q1⟩ => z.run pins s σ H Q I ⟨st, fun vs H1 e1 r1 => ?_⟩⟩
  have m := (st.same e1).m
  show spF X.K Ar (vs ++ []) H1 Q
  rw [List.append_nil]
  exact ⟨frF B O, B.L ++ O, ds, eo, bor_of m, by rw [vis_fr]; exact r1, h, fun z H' e2 => q0 z H' (e1.trans e2), fun d z v H' e2 r' => q1 d z v H' (e1.trans e2) (by rw [vis_fr] at r'; exact r')⟩
theorem j_forG {eo : Option D} {A : AE} (hp : PassesOwn (model X.prog X.w) X.A X.env X.xe) (hc : X.calm = true) (hg : EGf X k B ρ O iter eo) (hr : Room (k + 3) X.A) (hN : X.N.Nodup) (hi : X.N[i]? = some x) (hx : Loc X.env.scope x) (hf : X.fn x = true ∨ X.env.scope.names.lookup x = some .local)
    (hn : eo = none → A.nx ρ O) (hb : ∀ d, eo = some d → J X B body (ρ.set i (some d)) O { nx := fun _ _ => False, rt := A.rt, bk := A.nx }) (hs : ∀ x, foldedSetIterable iter X.env x = pure x := by intro _; rfl) : J1 X B (.For (.Name x p) iter body [] pos) ρ O A := by
  refine ps_imp (ps_forG hp hc hg hr hN hi hx (any_ok (B := B)) hf hs) fun Dn σ H ⟨st, q⟩ => ⟨st, fun z H' e1 => ?_, fun d z v H' e1 r => ?_⟩
  · exact q.nx ρ O σ H' (hn z) (st.same e1) (vis_same e1)
  · exact ⟨_, _, _, hb d z, (st.same e1).set r, fun _ _ _ _ z => z.elim, q.rt, fun ρ' O' σ' H2 a s' e2 => q.nx ρ' O' σ' H2 a s' ((vis_same e1).trans e2), fun _ _ _ _ z => z.elim, fun _ _ _ _ _ _ _ _ _ z => z.elim⟩
theorem jc_forG {E : α → D} {v : Option α} {A : β → AE} {m0 : Unit → Cmp β} {m1 : α → Cmp β} (i : Nat) (nd : X.N.Nodup) (hp : PassesOwn (model X.prog X.w) X.A X.env X.xe) (hc : X.calm = true) (hg : EGf X k B ρ O iter (v.map E)) (hr : Room (k + 3) X.A)
    (h0 : JC X B rest ρ O A (m0 ())) (h1 : ∀ y, JC X B body (ρ.set i (some (E y))) O (fun w => { nx := fun _ _ => False, rt := (A w).rt }) (m1 y)) (hi : X.N[i]? = some x := by rfl) (hx : Loc X.env.scope x := by first | exact .inl rfl | exact .inr rfl)
    (hf : X.fn x = true ∨ X.env.scope.names.lookup x = some .local := by first | exact .inr rfl | exact .inl rfl) (hs : ∀ x, foldedSetIterable iter X.env x = pure x := by intro _; rfl) : JC X B (.For (.Name x p) iter body [] pos :: rest) ρ O A (.bndO v m0 m1) := fun ok => by
  cases v with
  | none => exact j_cons (j_forG hp hc hg hr nd hi hx hf (fun _ => h0 ok) (fun d z => nomatch z) hs)
  | some y => exact j_cons (j_forG hp hc hg hr nd hi hx hf (fun z => nomatch z) (fun d z => by cases z; exact j_imp (h1 y ok) (fun _ _ z => z) (fun _ _ z => z) (fun _ _ z => z.elim) (fun _ _ z => z) (fun _ _ _ _ _ z => z.elim)) hs)
end
end DL

set_option Elab.async false
set_option linter.all false
set_option maxRecDepth 100000
set_option maxHeartbeats 4000000
namespace L2
open PySem PySem.Spec PyProof.Rows
theorem pe_methRS {X : Cx} {CX : CXT} {k : Nat} {C f : Addr} {m : Str} {sp : Sp} {E : St → XK} {o e : Expr} {es : List Expr} {ta : TE} {t : TA} {apos pos : Pos} {pl : Sem Bool} (he : PE X o ta) (c : Cls X.K C) (hm : Meth X.K C m f)
    (F : FnR X.prog X.w X.K X.mg X.base CX k f sp) (hr : Room k X.A) (hx : ∀ σ, PassesAt CX X σ (E σ)) (ha : PA X (e :: es) t)
    (hst : starEach (e :: es) X.env = (false, eval e X.env) :: starEach es X.env := by rfl) (hpl : (backTo pos (starEach es X.env)).any (·.1) = false := by rfl)
    (ht : eval (.Call (.Attribute o m apos) (e :: es) [] pos) X.env = (do
      let ov ← eval o X.env
      standAt apos.atName
      let (f, first) ← holding [ov] (getMethod ov m pl)
      callWith pos f first (backTo pos (starEach (e :: es) X.env)) (backToKw pos (keywordEach [] X.env))) := by rfl) :
    PE X (.Call (.Attribute o m apos) (e :: es) [] pos) (fun σ H Q => tMethR C m sp (E σ) ta t σ H Q) := by
  refine ⟨fun pins s σ H Q I h => ?_⟩
  refine PySem.W.methodCall_KW (pl := pl) (thn (he.run pins s σ H _ I h) fun u s1 ⟨x, H1, I1, rx, a, dx, fs, ex, ea, l, q⟩ => ?_) ht
  subst ex
  obtain rfl : u = Value.ref a := rx
  refine getmeth_ok I1 ea c hm l ?_
  refine PySem.W.callWith_K (first := [.ref a]) (h₀ := X.base) I.ok.mod.kin hm.kp (thn (ha.run pos pins s1 σ H1 _ I1 q) fun us s2 ⟨vs, H2, I2, r, q2⟩ => ⟨I2.kIn, ?_⟩) hst hpl
  exact wpAny_call (run_fnRS (us := .ref a :: us) (vs := .ref a :: vs) F hr (hx σ) I2 (.cons rfl r) q2)
theorem setprop_okS {X : Cx} {CX : CXT} {k : Nat} {C p g a dx : Addr} {fs : List (Str × V)} {f : Str} {sp : Sp} {E : XK} {pins : List (Addr × Obj)} {σ : St} {H : Hp} {s : Shared} {Q : VK} {v : V} {u : Value} (I : Inv X pins σ H s) (ea : H a = some (.ins C dx fs)) (c : Cls X.K C) (hp : PSetOf X.K C f p g)
    (F : FnR X.prog X.w X.K X.mg X.base CX k g sp) (hr : Room (k + 2) X.A) (hx : PassesAt CX X σ E) (rv : RelV v u) (h : sp [.ref a, v] H Q E) :
    wpAny (model X.prog X.w) X.A (setAttr (.ref a) f u) (fun _ s' => ∃ w H', Inv X pins σ H' s' ∧ Q w H') X.xe s := by
  obtain ⟨mA, O, _, _, _, _⟩ := ins_get I.hok ea
  obtain ⟨od, J, _⟩ := O.look
  obtain ⟨b, rest, hrec⟩ := hp.rc
  have I1 := I.tok (s.toks + 1)
  refine PySem.W.set_plain I.kIn J c.sa (PySem.W.osa_descr (s := { s with toks := s.toks + 1 }) PySem.W.KF.slot_pset I1.kIn J c.po hp.tk hp.ty (PySem.W.prop_set (s := { s with toks := s.toks + 1 }) I1.kIn hrec ?_))
  refine codeAny_mono (F X.A.in1.in1 X.stack { s with toks := s.toks + 1 } H [.ref a, u] [.ref a, v] Q E hr.in1.in1 I1.env0.in1.in1 (.cons rfl (.cons rv .nil)) h) fun r s' hq => ?_
  cases r with
  | error er => exact hx pins H { s with toks := s.toks + 1 } er s' I1 hq
  | ok fl =>
    cases fl with
    | ret u' =>
      obtain ⟨w, H', I3, rv', q3⟩ := I1.after hq
      exact ⟨w, H', I3, q3⟩
    | next => exact False.elim hq
    | brk => exact False.elim hq
    | cont => exact False.elim hq
theorem ps_psetS {X : Cx} {CX : CXT} {k : Nat} {C p g : Addr} {f : Str} {sp : Sp} {E : St → XK} {o value : Expr} {ta tv : TE} {pos pos' : Pos} (c : Cls X.K C) (hp : PSetOf X.K C f p g) (F : FnR X.prog X.w X.K X.mg X.base CX k g sp) (hr : Room (k + 2) X.A) (hx : ∀ σ, PassesAt CX X σ (E σ))
    (ha : PE X o ta) (hv : PE X value tv) (hs : swapsWith value (some (.Attribute o f pos')) pos.line X.env = pure false) :
    PS X (.Assign [.Attribute o f pos'] value pos) (fun D σ H => tv σ H fun y H1 => ta σ H1 fun x H2 => ∃ a dx fs, x = .ref a ∧ H2 a = some (.ins C dx fs) ∧ sp [.ref a, y] H2 (fun _ H3 => D.nx σ H3) (E σ)) := by
  refine ⟨fun pins s σ H D I h => ?_⟩
  refine plainObj_wpAny_Assign_Attribute (thn (hv.run pins s σ H _ I h) fun u s1 ⟨y, H1, I1, ry, q⟩ => thn (ha.run pins s1 σ H1 _ I1 q) fun ov s2 ⟨x, H2, I2, rx, a, dx, fs, ex, ea, q2⟩ => ?_) hs
  subst ex
  obtain rfl : ov = Value.ref a := rx
  exact wpAny_mono (setprop_okS I2 ea c hp F hr (hx σ) ry q2) (fun _ s3 ⟨w, H3, I3, q3⟩ => ⟨σ, _, I3, q3⟩) fun _ _ z => z
end L2
namespace DL
open PySem PySem.Spec PyProof.Rows L2 TL
/-! ### contracts that change mutables, or raise -/
inductive OutE where
  | val (d : D) (O' : Om)
  | exn (C : Addr) (n : Str) (d : D) (O' : Om)
def spEX (K : PySem.W.Frag) (Ar : Om → Om → List D → OutE → Prop) : Sp := fun vs H Q E => ∃ (F : Addr → Bool) (L O : Om) (ds : List D) (out : OutE), BorE K F L O H ∧ RpL K (vis F O H) vs ds ∧ Ar L O ds out ∧ match out with
  | .val d O' => ∀ v H', (∀ a o, has O a = false → H a = some o → H' a = some o) → (∀ a m, (a, m) ∈ O' → MRp K (vis F O' H') H' a m) → (O'.map (·.1)).Nodup → (∀ a, has O' a = true → has O a = true ∨ H a = none) → Rp K (vis F O' H') v d → Q v H'
  | .exn C n d O' => ∀ dx v H', (∀ a o, has O a = false → H a = some o → H' a = some o) → (∀ a m, (a, m) ∈ O' → MRp K (vis F O' H') H' a m) → (O'.map (·.1)).Nodup → (∀ a, has O' a = true → has O a = true ∨ H a = none) → H' dx = some (.xd [(n, v)]) → Rp K (vis F O' H') v d → E (.ref C) (some dx) H'
/-- the raising side alone -/
def spER (K : PySem.W.Frag) (C : Addr) (n : Str) (Ar : Om → Om → List D → D → Om → Prop) : Sp := fun vs H _ E => ∃ (F : Addr → Bool) (L O : Om) (ds : List D) (d : D) (O' : Om), BorE K F L O H ∧ RpL K (vis F O H) vs ds ∧ Ar L O ds d O' ∧
  ∀ dx v H', (∀ a o, has O a = false → H a = some o → H' a = some o) → (∀ a m, (a, m) ∈ O' → MRp K (vis F O' H') H' a m) → (O'.map (·.1)).Nodup → (∀ a, has O' a = true → has O a = true ∨ H a = none) → H' dx = some (.xd [(n, v)]) → Rp K (vis F O' H') v d → E (.ref C) (some dx) H'
def postE : OutE → AE
  | .val d O' => { nx := fun _ Oe => ∃ O1, Oe = O1 ++ O' ∧ Frz O1 .non d, rt := fun d' Oe => ∃ O1, Oe = O1 ++ O' ∧ Frz O1 d' d }
  | .exn C n d O' => { nx := fun _ _ => False, rt := fun _ _ => False, ex := fun C' n' d' _ Oe => C' = C ∧ n' = n ∧ d' = d ∧ ∃ O1, Oe = O1 ++ O' }
section
variable {P : Program} {w : World} {K : PySem.W.Frag} {mg : Str → Option Value} {base : Heap}
theorem spEX_E {CX : CXT} {k : Nat} {f : Addr} {fd : FuncData} {ps : List Str} {Ar : Om → Om → List D → OutE → Prop} (F : FnOk P w K mg base CX k f fd ps (spEX K Ar)) : FnOk P w K mg base CX k f fd ps (spE K fun L O ds d O' => Ar L O ds (.val d O')) :=
  F.imp fun vs H Q E ⟨F', L, O, ds, d, O', a, b, c, e⟩ => ⟨F', L, O, ds, .val d O', a, b, c, e⟩
theorem spEX_R {CX : CXT} {k : Nat} {f C : Addr} {n : Str} {fd : FuncData} {ps : List Str} {Ar : Om → Om → List D → OutE → Prop} (F : FnOk P w K mg base CX k f fd ps (spEX K Ar)) : FnOk P w K mg base CX k f fd ps (spER K C n fun L O ds d O' => Ar L O ds (.exn C n d O')) :=
  F.imp fun vs H Q E ⟨F', L, O, ds, d, O', a, b, c, e⟩ => ⟨F', L, O, ds, .exn C n d O', a, b, c, e⟩
theorem fn_effX {Ar : Om → Om → List D → OutE → Prop} {x qual : Str} {st : Stmt} {f : Addr} {fd : FuncData} {N ps : List Str} {k : Nat} (F : Fun K x qual st f fd) (S : FnScope N ps (defScope st)) (len : ∀ L O ds out, Ar L O ds out → ds.length = ps.length)
    (h : ∀ (cdv : Value) (A : Around) (outer : List Env) (s : Shared) (H : Hp) (E : XK) (B : Gd) (O : Om) (ds : List D) (out : OutE), Room k (A.deeper (envOfC qual (defScope st) s.heap.objs.size f cdv)) → Takes (cxOf (L2.CX P w) P w K mg base N qual (defScope st) f cdv A outer s H E) B.W →
      PassesOwn (model P w) (cxOf (L2.CX P w) P w K mg base N qual (defScope st) f cdv A outer s H E).A (cxOf (L2.CX P w) P w K mg base N qual (defScope st) f cdv A outer s H E).env (cxOf (L2.CX P w) P w K mg base N qual (defScope st) f cdv A outer s H E).xe → Ar B.L O ds out →
      J (cxOf (L2.CX P w) P w K mg base N qual (defScope st) f cdv A outer s H E) B (defBody st) (startD N ds) O (postE out)) : FnOk P w K mg base (L2.CX P w) (k + 1) f fd ps (spEX K Ar) := by
  refine F.okX S (fun vs H Q E q => ?_) (fun cdv A outer s H vs Q E hr q => ?_)
  · obtain ⟨F', L, O, ds, out, _, r, ha, _⟩ := q
    rw [r.length]; exact len L O ds out ha
  · obtain ⟨F', L, O, ds, out, bo, r, ha, kk⟩ := q
    let Hb : Hp := fun a => if has O a = true then none else H a
    have hbx : ∀ a o, Hb a = some o ↔ has O a = false ∧ H a = some o := fun a o => by
      show (if has O a = true then none else H a) = some o ↔ _
      cases has O a <;> simp
    have hF' : ∀ a, F' a = true → ∃ o, Hb a = some o := fun a h => by
      obtain ⟨o, e⟩ := bo.ok a h
      refine ⟨o, (hbx a o).mpr ⟨?_, e⟩⟩
      cases q : has O a with
      | false => rfl
      | true => rw [bo.nF a q] at h; cases h
    have hend : ∀ (O1 O' : Om) (H' : Hp), MOk K ⟨F', Hb, fun c d _ H => E c d H, L, hF', bo.lF⟩ (O1 ++ O') H' → (∀ a o, has O a = false → H a = some o → H' a = some o) ∧ (∀ a m, (a, m) ∈ O' → MRp K (vis F' O' H') H' a m) ∧ (O'.map (·.1)).Nodup ∧ (∀ a, has O' a = true → has O a = true ∨ H a = none) ∧
        Same (vis F' (O1 ++ O') H') (vis F' O' H') ∧ ∀ p mm, (p, mm) ∈ O1 → MRp K (vis F' (O1 ++ O') H') H' p mm ∧ ∀ o, H' p = some o → vis F' O' H' p = some o := fun O1 O' H' m => by
      have nd := m.nd
      rw [List.map_append, List.nodup_append] at nd
      have sub : ∀ q ∈ O', q ∈ O1 ++ O' := fun q hq => List.mem_append_right _ hq
      have no1 : ∀ p mm, (p, mm) ∈ O1 → has O' p = false := fun p mm hp => by
        cases q : has O' p with
        | false => rfl
        | true =>
          obtain ⟨m2, h2⟩ := has_mem.mp q
          exact absurd rfl (nd.2.2 p (List.mem_map_of_mem (f := (·.1)) hp) p (List.mem_map_of_mem (f := (·.1)) h2))
      refine ⟨fun a o na q => (m.base a o ((hbx a o).mpr ⟨na, q⟩)).1, fun a mm hm => (m.mem a mm (sub _ hm)).mono (vis_sub sub) fun o q => q, nd.2.1, fun a ha' => ?_, vis_sub sub, fun p mm hp => ⟨m.mem p mm (List.mem_append_left _ hp), fun o q => ?_⟩⟩
      · cases q : has O a with
        | true => exact .inl rfl
        | false =>
          refine .inr ?_
          cases q2 : H a with
          | none => rfl
          | some o =>
            obtain ⟨m2, h2⟩ := has_mem.mp ha'
            have := (m.base a o ((hbx a o).mpr ⟨q, q2⟩)).2
            rw [has_mem.mpr ⟨m2, sub _ h2⟩] at this; cases this
      · have q' := m.visM (has_mem.mpr ⟨mm, List.mem_append_left _ hp⟩) q
        obtain ⟨g1, _, g3⟩ := vis_some.mp q'
        exact vis_some.mpr ⟨g1, no1 p mm hp, g3⟩
    refine ⟨_, h cdv A outer s H E ⟨F', Hb, fun c d _ H => E c d H, L, hF', bo.lF⟩ O ds out hr (takes_of rfl rfl rfl rfl) (passes_of rfl) ha, ⟨⟨fun a o e => ⟨((hbx a o).mp e).2, ((hbx a o).mp e).1⟩, bo.mem, bo.nd, bo.lent⟩, start_env r⟩, ?_⟩
    cases out with
    | val d O' =>
      refine ⟨?_, ?_, fun _ _ _ _ z => z.elim, fun _ _ _ _ z => z.elim, fun _ _ _ _ _ _ _ _ _ z => z.elim⟩
      · rintro ρ Oe σ H' ⟨O1, rfl, fz⟩ s' _
        obtain ⟨e1, e2, e3, e4, e5, e6⟩ := hend O1 O' H' s'.m
        exact kk .non H' e1 e2 e3 e4 (Rp.frz e5 (fun p mm hp => (e6 p mm hp).1.mono (Same.refl _) (e6 p mm hp).2) fz .non)
      · rintro d' Oe v H' ⟨O1, rfl, fz⟩ m r'
        obtain ⟨e1, e2, e3, e4, e5, e6⟩ := hend O1 O' H' m
        exact kk v H' e1 e2 e3 e4 (Rp.frz e5 (fun p mm hp => (e6 p mm hp).1.mono (Same.refl _) (e6 p mm hp).2) fz r')
    | exn C n d O' =>
      refine ⟨fun _ _ _ _ z => z.elim, fun _ _ _ _ z => z.elim, fun _ _ _ _ z => z.elim, fun _ _ _ _ z => z.elim, ?_⟩
      rintro C' n' d' ρ Oe σ H' dx v ⟨rfl, rfl, rfl, O1, rfl⟩ s' _ hx _ r'
      obtain ⟨e1, e2, e3, e4, e5, _⟩ := hend O1 O' H' s'.m
      exact kk dx v H' e1 e2 e3 e4 hx (r'.mono e5)
end
section
variable {X : Cx} {B : Gd} {ρ ρ' : List (Option D)} {O O' O1 O1' R O'' : Om} {a b c e o e1 e2 : Expr} {es : List Expr} {d d0 d1 d2 d3 : D} {ds : List D} {pos pos' p apos spos : Pos} {rest body s1 s2 : List Stmt} {x n : Str} {k : Nat} {C C0 : Addr} {b1 b2 : Bool}
theorem has_xd' {K : PySem.W.Frag} {H' : Hp} {dx : Addr} {q : List (Str × V)} (m : MOk K B O H') (h : H' dx = some (.xd q)) : has O dx = false := has_xd m (Same.refl _) h
/-- an expression that changes mutables and raises -/
def tERx (K : PySem.W.Frag) (B : Gd) (ρ : List (Option D)) (O : Om) (C : Addr) (n : Str) (d : D) (O' : Om) : TE := fun σ H _ => StOk K B ρ O σ H ∧
  ∀ dx v H', StOk K B ρ O' σ H' → Same (vis B.F O H) (vis B.F O' H') → H' dx = some (.xd [(n, v)]) → Rp K (vis B.F O' H') v d → B.W (.ref C) (some dx) σ H'
abbrev ERx (X : Cx) (B : Gd) (ρ : List (Option D)) (O : Om) (e : Expr) (C : Addr) (n : Str) (d : D) (O' : Om) : Prop := PE X e (tERx X.K B ρ O C n d O')
theorem erx_of (h : ER X B ρ O e C n d) : ERx X B ρ O e C n d O := pe_imp h fun σ H Q ⟨st, k⟩ => ⟨st, fun dx v H' e1 hx r => k dx v H' (st.same e1) (vis_same e1) hx r⟩
theorem j_exprRx {A : AE} (he : ERx X B ρ O e C n d O') (h : A.ex C n d ρ O') (hs : swapsWith e none pos.line X.env = pure false := by rfl) : J1 X B (.Expr e pos) ρ O A :=
  ps_imp (ps_expr he hs) fun Dn σ H ⟨st, pp⟩ => ⟨st, fun dx v H1 s1 e1 hx r1 => pp.ex C n d ρ O' σ H1 dx v h s1 e1 hx (has_xd' s1.m hx) r1⟩
theorem spER_use {K : PySem.W.Frag} {Ar : Om → Om → List D → D → Om → Prop} {σ : L2.St} {H : Hp} {Q : VK} {E : XK} {vs : List V} (s : StOk K B ρ O σ H) (hp : O.Perm (O1 ++ R)) (hp' : (O1' ++ R).Perm O'') (r : RpL K (vis B.F O H) vs ds) (h : Ar (B.L ++ R) O1 ds d O1')
    (k : ∀ dx v H', StOk K B ρ O'' σ H' → Same (vis B.F O H) (vis B.F O'' H') → H' dx = some (.xd [(n, v)]) → Rp K (vis B.F O'' H') v d → E (.ref C) (some dx) H') : spER K C n Ar vs H Q E := by
  -- the same bookkeeping as spE_use's: handed the exception for the value
  obtain ⟨F', L', O2, ds2, d2, O2', bo, r2, ⟨rfl, rfl, rfl, rfl, rfl⟩, kk⟩ := spE_use (Ar := fun L O ds' d' O' => L = B.L ++ R ∧ O = O1 ∧ ds' = ds ∧ d' = d ∧ O' = O1') (E := E) (Q := fun v H' => ∀ dx, H' dx = some (.xd [(n, v)]) → E (.ref C) (some dx) H') s hp hp' r ⟨rfl, rfl, rfl, rfl, rfl⟩ (fun v H' s' e' r' dx hx => k dx v H' s' e' hx r')
  exact ⟨F', _, _, _, _, _, bo, r2, h, fun dx v H' k1 k2 k3 k4 hx r' => kk v H' k1 k2 k3 k4 r' dx hx⟩
/-- o.m(..), o a mutable, and it raises -/
theorem er_methE {Ar : Om → Om → List D → D → Om → Prop} {ns : List Str} {m : Str} {f q : Addr} {es' : List D} (ho : EV X B ρ O o (.rf q)) (hq : (q, M.ins C0 ns ds) ∈ O) (c : Cls X.K C0) (hm : Meth X.K C0 m f) (F : Fok X.prog X.w X.K X.mg X.base (L2.CX X.prog X.w) k f (spER X.K C n Ar)) (hr : Room k X.A) (tk : Takes X B.W) (ha : EA X B ρ O (e :: es) es') (hn : ns.idxOf? m = none)
    (hp : O.Perm (O1 ++ R)) (hp' : (O1' ++ R).Perm O'') (h : Ar (B.L ++ R) O1 (.rf q :: es') d O1') (pl : Sem Bool)
    (hst : starEach (e :: es) X.env = (false, eval e X.env) :: starEach es X.env := by rfl) (hpl : (backTo pos (starEach es X.env)).any (·.1) = false := by rfl)
    (ht : eval (.Call (.Attribute o m apos) (e :: es) [] pos) X.env = (do
      let ov ← eval o X.env
      standAt apos.atName
      let (f, first) ← holding [ov] (getMethod ov m pl)
      callWith pos f first (backTo pos (starEach (e :: es) X.env)) (backToKw pos (keywordEach [] X.env))) := by rfl) :
    ERx X B ρ O (.Call (.Attribute o m apos) (e :: es) [] pos) C n d O'' :=
  pe_imp (pe_methRS (E := WE B.W) (pl := pl) ho c hm F.raw hr (fun σ => passAt tk σ) ha hst hpl ht) fun σ H Q ⟨st, k⟩ => ⟨st, fun v H1 e1 r1 => by
    cases r1
    have s1 := st.same e1
    obtain ⟨dx, fv, h1, h2, h3⟩ := s1.m.mem _ _ hq
    exact ⟨_, _, _, rfl, h1, look_no h2 hn, s1, fun vs H2 e2 r2 => spER_use (s1.same e2) hp hp' (.cons (.rf q) r2) h fun dx v H3 s3 e3 hx r3 => k dx v H3 s3 (((vis_same e1).trans (vis_same e2)).trans e3) hx r3⟩⟩
/-- o.f = e, f a property whose setter raises -/
theorem j_psetR {A : AE} {Ar : Om → Om → List D → D → Om → Prop} {ns : List Str} {f : Str} {pp g q : Addr} (ho : EV X B ρ O o (.rf q)) (he : EV X B ρ O e d0) (hq : (q, M.ins C0 ns ds) ∈ O) (c : Cls X.K C0) (hps : PSetOf X.K C0 f pp g) (F : Fok X.prog X.w X.K X.mg X.base (L2.CX X.prog X.w) k g (spER X.K C n Ar)) (hr : Room (k + 2) X.A) (tk : Takes X B.W)
    (hp : O.Perm (O1 ++ R)) (hp' : (O1' ++ R).Perm O'') (h : Ar (B.L ++ R) O1 [.rf q, d0] d O1') (hn : A.ex C n d ρ O'') (hs : swapsWith e (some (.Attribute o f pos')) pos.line X.env = pure false) : J1 X B (.Assign [.Attribute o f pos'] e pos) ρ O A := by
  exact ps_imp (ps_psetS (E := WE B.W) c hps F.raw hr (fun σ => passAt tk σ) ho he hs) fun Dn σ H ⟨st, kk⟩ => ⟨st, fun v H1 e1 r1 => ⟨st.same e1, fun u H2 e2 r2 => by
    cases r2
    have s2 := (st.same e1).same e2
    obtain ⟨dx, fv, h1, h2, h3⟩ := s2.m.mem _ _ hq
    exact ⟨q, dx, fv, rfl, h1, spER_use s2 hp hp' (.cons (.rf q) (.cons (r1.mono (vis_same e2)) .nil)) h fun dx v H3 s3 e3 hx r3 => kk.ex C n d ρ O'' σ H3 dx v hn s3 (((vis_same e1).trans (vis_same e2)).trans e3) hx (has_xd' s3.m hx) r3⟩⟩⟩
end
end DL

set_option Elab.async false
set_option linter.all false
set_option maxRecDepth 100000
set_option maxHeartbeats 4000000
namespace DL
open PySem PySem.Spec PyProof.Rows L2 TL
section
variable {X : Cx} {B : Gd} {ρ ρ' : List (Option D)} {O O' O1 O1' R O'' : Om} {a b c e o e1 e2 : Expr} {es : List Expr} {d d0 d1 d2 d3 : D} {ds : List D} {pos pos' p apos spos : Pos} {ss rest body s1 s2 : List Stmt} {x n : Str} {k : Nat} {C C0 : Addr} {b1 b2 : Bool}
variable {α β γ S : Type} {E : β → D} {st : S → Om}
/-! ### comparisons of what changes -/
theorem egm_cmp {op : CmpOp} {r : R2} {m : Cmp (γ × S)} {Eγ : γ → D} {cd : γ → S → Prop} {v : γ → S → β} {d2 : γ → S → D} (ho : OpR X (compareOp op) r) (ha : EGm X B ρ O a Eγ st m)
    (hb : ∀ y s, cd y s → EV X B ρ (st s) b (d2 y s) ∧ RD X.K B (st s) r (Eγ y) (d2 y s) (E (v y s))) (hm : behindInMarks op b = false) : EGm X B ρ O (.Compare a [op] [b] pos) E st (callM m cd v) := fun ok => by
  obtain ⟨h1, h2⟩ := hb _ _ ok.2.1
  exact pe_imp (pe_cmpR ho (ha ok.1) h1 hm) fun σ H Q ⟨w, kk⟩ => ⟨w, fun y1 H1 s1 e1 r1 => ⟨s1, fun y2 H2 e2 r2 => h2 y1 y2 H2 Q (s1.same e2).m (r1.mono (vis_same e2)) r2 fun z H3 e3 r3 => kk z H3 ((s1.same e2).same e3) ((e1.trans (vis_same e2)).trans (vis_same e3)) r3⟩⟩
theorem etm_cmp {op : CmpOp} {r : R2} {m : Cmp (γ × S)} {Eγ : γ → D} {cd : γ → S → Prop} {v : γ → S → Bool} {d2 : γ → S → D} (ho : OpR X (compareOp op) r) (ha : EGm X B ρ O a Eγ st m)
    (hb : ∀ y s, cd y s → EV X B ρ (st s) b (d2 y s) ∧ RD X.K B (st s) r (Eγ y) (d2 y s) (.bl (v y s))) (hm : behindInMarks op b = false) : ETm X B ρ O (.Compare a [op] [b] pos) st (callM m cd v) := fun ok => by
  obtain ⟨h1, h2⟩ := hb _ _ ok.2.1
  exact pt_imp (pt_cmpR ho (ha ok.1) h1 hm) fun σ H Q ⟨w, kk⟩ => ⟨w, fun y1 H1 s1 e1 r1 => ⟨s1, fun y2 H2 e2 r2 => h2 y1 y2 H2 _ (s1.same e2).m (r1.mono (vis_same e2)) r2 fun z H3 e3 r3 => by
    cases r3
    exact ⟨_, rfl, kk H3 ((s1.same e2).same e3) ((e1.trans (vis_same e2)).trans (vis_same e3))⟩⟩⟩
/-! ### a def of the program that changes a mutable, called by its name -/
theorem eg_callE {Ar : Om → Om → List D → D → Om → Prop} (cl : Cal X.prog X.w X.K X.mg X.base CX0 k x (spE X.K Ar)) (hr : Room k X.A) (hg : Gl X x) (ha : EA X B ρ O (e :: es) ds)
    (hp : O.Perm (O1 ++ R)) (hp' : (O1' ++ R).Perm O'') (h : Ar (B.L ++ R) O1 ds d O1') (hdb : (x == ("__debug__" : Str)) = false := by decide)
    (he : starEach (e :: es) X.env = (false, eval e X.env) :: starEach es X.env := by rfl) (hpl : (backTo pos (starEach es X.env)).any (·.1) = false := by rfl) : EG X B ρ O (.Call (.Name x p) (e :: es) [] pos) d O'' := by
  obtain ⟨f, F, hm⟩ := cl.ex
  exact pe_imp (pe_callR (E := E0) F.raw hr hg hm F.kp pass0 ha hdb he hpl) fun σ H Q ⟨w, kk⟩ => ⟨w, fun vs H1 e1 r1 => spE_use (w.same e1) hp hp' r1 h fun v H2 s2 e2 r2 => kk v H2 s2 ((vis_same e1).trans e2) r2⟩
theorem egm_callE {Ar : Om → Om → List D → D → Om → Prop} {mc : Cmp (β × γ)} {vals : γ → List D} {v0 : γ} {upd : γ → S} {ns : List Str} {q : Addr} {ds' : List D} (cl : Cal X.prog X.w X.K X.mg X.base CX0 k x (spE X.K Ar)) (hr : Room k X.A) (hg : Gl X x) (ha : EA X B ρ O (e :: es) ds')
    (hput : ∀ v, Put O q (.ins C ns (vals v0)) (.ins C ns (vals v)) (st (upd v))) (h : mc.ok → ∀ R : Om, (∀ z ∈ R, z ∈ O) → Ar (B.L ++ R) [(q, .ins C ns (vals v0))] ds' (E mc.val.1) [(q, .ins C ns (vals mc.val.2))]) (hdb : (x == ("__debug__" : Str)) = false := by decide)
    (he : starEach (e :: es) X.env = (false, eval e X.env) :: starEach es X.env := by rfl) (hpl : (backTo pos (starEach es X.env)).any (·.1) = false := by rfl) : EGm X B ρ O (.Call (.Name x p) (e :: es) [] pos) E st (methM mc upd) := fun ok => by
  have hp0 := hput mc.val.2
  obtain ⟨R, h1, h2⟩ := hp0.split
  exact eg_callE cl hr hg ha h1 h2 (h ok.1 R fun z hz => h1.mem_iff.mpr (List.mem_append_right _ hz)) hdb he hpl
/-! ### tests that raise -/
def tERxT (K : PySem.W.Frag) (B : Gd) (ρ : List (Option D)) (O : Om) (C : Addr) (n : Str) (d : D) (O' : Om) : TT := fun σ H _ => StOk K B ρ O σ H ∧
  ∀ dx v H', StOk K B ρ O' σ H' → Same (vis B.F O H) (vis B.F O' H') → H' dx = some (.xd [(n, v)]) → Rp K (vis B.F O' H') v d → B.W (.ref C) (some dx) σ H'
abbrev ETRx (X : Cx) (B : Gd) (ρ : List (Option D)) (O : Om) (e : Expr) (C : Addr) (n : Str) (d : D) (O' : Om) : Prop := PT X e (tERxT X.K B ρ O C n d O')
theorem etrx_of (h : ERx X B ρ O e C n d O') (he : ∀ whole, isTrue e X.env whole = (do let v ← whole; standAt e.pos; holding [v] (truthy v)) := by intro _; rfl) : ETRx X B ρ O e C n d O' := pt_imp (pt_val h he) fun σ H Q h => h
theorem etrx_cmp {op : CmpOp} {r : R2} {tb : TE} (ho : OpR X (compareOp op) r) (ha : ERx X B ρ O a C n d O') (hb : PE X b tb) (hm : behindInMarks op b = false) : ETRx X B ρ O (.Compare a [op] [b] pos) C n d O' := pt_imp (pt_cmpR ho ha hb hm) fun σ H Q h => h
theorem erx_cmp {op : CmpOp} {r : R2} {tb : TE} (ho : OpR X (compareOp op) r) (ha : ERx X B ρ O a C n d O') (hb : PE X b tb) (hm : behindInMarks op b = false) : ERx X B ρ O (.Compare a [op] [b] pos) C n d O' := pe_imp (pe_cmpR ho ha hb hm) fun σ H Q h => h
theorem j_ifRx {A : AE} (hc : ETRx X B ρ O c C n d O') (h : A.ex C n d ρ O') : J1 X B (.If c s1 s2 pos) ρ O A :=
  ps_imp (ps_if hc (t := fun _ _ _ => False) (u := fun _ _ _ => False) ⟨fun _ _ _ _ _ _ h => h.elim⟩ ⟨fun _ _ _ _ _ _ h => h.elim⟩) fun Dn σ H ⟨w, pp⟩ => ⟨w, fun dx v H1 s1 e1 hx r1 => pp.ex C n d ρ O' σ H1 dx v h s1 e1 hx (has_xd' s1.m hx) r1⟩
end
end DL

set_option Elab.async false
set_option linter.all false
set_option maxRecDepth 100000
set_option maxHeartbeats 4000000
namespace DL
open PySem PySem.Spec PyProof.Rows L2 TL
/-! ### defs that change mutables, or raise with all as it was -/
def outXE {R S : Type} (ce : ErrTab) (E : R → D) (o : S → Om) (O0 : Om) : Ctl Unit Unit (R × S) → OutE
  | .rt p => .val (E p.1) (o p.2)
  | .ex e => .exn (ce e.c).1 (ce e.c).2 e.d O0
  | _ => .val .non []
def exqO (ce : ErrTab) (O0 : Om) : Exn → Addr → Str → D → List (Option D) → Om → Prop := fun er C n d _ O => (C = (ce er.c).1 ∧ n = (ce er.c).2 ∧ d = er.d) ∧ O = O0
/-- a body that ends by itself -/
def Cmp.ended {S L : Type} (m : Cmp (Ctl S L (Unit × S))) : Cmp (Ctl Unit Unit (Unit × S)) := m.bind fun c => match c with
  | .nx s => .ret (.rt ((), s))
  | .rt p => .ret (.rt p)
  | .ex e => .ret (.ex e)
  | _ => ⟨False, .ex ⟨0, .non⟩⟩
section
variable {X : Cx} {B : Gd} {ρ ρ' : List (Option D)} {O O0 : Om} {ss : List Stmt} {ce : ErrTab} {R S L : Type} {E : R → D} {o : S → Om}
theorem j_outXE {c : Ctl Unit Unit (R × S)} (h : J X B ss ρ O (aC (fun _ _ _ => False) (fun _ _ _ => False) (rtE E o) (exqO ce O0) c)) : J X B ss ρ O (postE (outXE ce E o O0 c)) := by
  cases c with
  | nx s => exact j_imp h (fun _ _ ⟨_, _, z⟩ => z.elim) (fun _ _ z => z.elim) (fun _ _ z => z.elim) (fun _ _ z => z.elim) (fun _ _ _ _ _ z => z.elim)
  | rt v => exact j_imp h (fun _ _ z => z.elim) (fun _ _ z => z) (fun _ _ z => z.elim) (fun _ _ z => z.elim) (fun _ _ _ _ _ z => z.elim)
  | bk s => exact j_imp h (fun _ _ z => z.elim) (fun _ _ z => z.elim) (fun _ _ ⟨_, _, z⟩ => z.elim) (fun _ _ z => z.elim) (fun _ _ _ _ _ z => z.elim)
  | ct s => exact j_imp h (fun _ _ z => z.elim) (fun _ _ z => z.elim) (fun _ _ z => z.elim) (fun _ _ ⟨_, _, z⟩ => z.elim) (fun _ _ _ _ _ z => z.elim)
  | ex e => exact j_imp h (fun _ _ z => z.elim) (fun _ _ z => z.elim) (fun _ _ z => z.elim) (fun _ _ z => z.elim) (fun _ _ _ _ _ ⟨⟨a, b, c⟩, d⟩ => ⟨a, b, c, [], d⟩)
theorem j_outXEn {m : Cmp (Ctl S L (Unit × S))} (ok : m.ended.ok) (h : m.ok → J X B ss ρ O (aC (fun s _ O' => ∃ O1, O' = O1 ++ o s) (fun _ _ _ => False) (rtE (fun _ => .non) o) (exqO ce O0) m.val)) : J X B ss ρ O (postE (outXE ce (fun _ => .non) o O0 m.ended.val)) := by
  obtain ⟨h1, h2⟩ := ok
  have h := h h1
  unfold Cmp.ended Cmp.bind
  cases q : m.val with
  | nx s => rw [q] at h; exact j_imp h (fun _ _ ⟨_, _, O1, z⟩ => ⟨O1, z, .refl _⟩) (fun _ _ z => z.elim) (fun _ _ z => z.elim) (fun _ _ z => z.elim) (fun _ _ _ _ _ z => z.elim)
  | rt v => rw [q] at h; exact j_imp h (fun _ _ z => z.elim) (fun _ _ z => z) (fun _ _ z => z.elim) (fun _ _ z => z.elim) (fun _ _ _ _ _ z => z.elim)
  | bk s => rw [q] at h2; exact h2.elim
  | ct s => rw [q] at h2; exact h2.elim
  | ex e => rw [q] at h; exact j_imp h (fun _ _ z => z.elim) (fun _ _ z => z.elim) (fun _ _ z => z.elim) (fun _ _ z => z.elim) (fun _ _ _ _ _ ⟨⟨a, b, c⟩, d⟩ => ⟨a, b, c, [], d⟩)
end
section
variable {P : Program} {w : World} {K : PySem.W.Frag} {mg : Str → Option Value} {base : Heap} {k : Nat} {f : Addr} {C : Addr} {n : Str}
theorem spE_mono {Ar Ar' : Om → Om → List D → D → Om → Prop} (h : ∀ L O ds d O', Ar' L O ds d O' → Ar L O ds d O') : ∀ vs H Q E, spE K Ar' vs H Q E → spE K Ar vs H Q E := fun _ _ _ _ ⟨F, L, O, ds, d, O', a, b, c, e⟩ => ⟨F, L, O, ds, d, O', a, b, h _ _ _ _ _ c, e⟩
theorem fn_calmE {fd : FuncData} {ps : List Str} {Ar : Om → Om → List D → OutE → Prop} {Ar' : Om → Om → List D → D → Om → Prop} (F : FnOk P w K mg base (L2.CX P w) k f fd ps (spEX K Ar)) (h : ∀ L O ds d O', Ar' L O ds d O' → Ar L O ds (.val d O')) : FnOk P w K mg base CX0 k f fd ps (spE K Ar') :=
  calm_fn (CX := CX0) ((spEX_E F).imp (spE_mono h)) fun _ _ _ _ _ z => z
theorem Fok.xE {Ar : Om → Om → List D → OutE → Prop} (F : Fok P w K mg base (L2.CX P w) k f (spEX K Ar)) : Fok P w K mg base CX0 k f (spE K fun L O ds d O' => Ar L O ds (.val d O')) := by
  obtain ⟨fd, ps, G, b⟩ := F.ex
  exact ⟨⟨fd, ps, fn_calmE G fun _ _ _ _ _ z => z, b⟩, F.kp⟩
theorem Fok.xER {Ar : Om → Om → List D → OutE → Prop} (F : Fok P w K mg base (L2.CX P w) k f (spEX K Ar)) : Fok P w K mg base (L2.CX P w) k f (spER K C n fun L O ds d O' => Ar L O ds (.exn C n d O')) := by
  obtain ⟨fd, ps, G, b⟩ := F.ex
  exact ⟨⟨fd, ps, spEX_R (CX := L2.CX P w) G, b⟩, F.kp⟩
end
section
variable {X : Cx} {B : Gd} {ρ ρ' : List (Option D)} {O O' O1 O1' R0 O'' : Om} {a b c e o e1 e2 : Expr} {es : List Expr} {d d0 d1 d2 d3 : D} {ds : List D} {pos pos' p apos spos : Pos} {ss rest body s1 s2 : List Stmt} {x n : Str} {k : Nat} {C C0 : Addr} {ce : ErrTab}
variable {α β γ S S' L R : Type} {E : β → D} {st : S' → Om}
/-- an expression that changes mutables, or raises with all as it was -/
structure EXm (X : Cx) (B : Gd) (ρ : List (Option D)) (O : Om) (e : Expr) (ce : ErrTab) (E : β → D) (st : S' → Om) (m : Cmp (Ctl Unit Unit (β × S'))) : Prop where
  v : ∀ p, m.ok → m.val = .rt p → EG X B ρ O e (E p.1) (st p.2)
  x : ∀ er, m.ok → m.val = .ex er → ERx X B ρ O e (ce er.c).1 (ce er.c).2 er.d O
def methX (mc : Cmp (Ctl Unit Unit (β × γ))) (upd : γ → S') : Cmp (Ctl Unit Unit (β × S')) := mc.bindX fun p => .ret (.rt (p.1, upd p.2))
theorem methX_val {mc : Cmp (Ctl Unit Unit (β × γ))} {upd : γ → S'} (ok : (methX mc upd).ok) : mc.ok ∧ ((∃ p, mc.val = .rt p ∧ (methX mc upd).val = .rt (p.1, upd p.2)) ∨ ∃ er, mc.val = .ex er ∧ (methX mc upd).val = .ex er) := by
  obtain ⟨h1, ⟨v, h2, _⟩ | ⟨er, h2⟩⟩ := bindX_ok ok
  · exact ⟨h1, .inl ⟨v, h2, (bindX_rt h2).2⟩⟩
  · exact ⟨h1, .inr ⟨er, h2, bindX_ex h2⟩⟩
theorem exm_meth {Ar : Om → Om → List D → OutE → Prop} {mc : Cmp (Ctl Unit Unit (β × γ))} {vals : γ → List D} {v0 : γ} {upd : γ → S'} {ns : List Str} {m : Str} {f q : Addr} {es' : List D} (ho : EV X B ρ O o (.rf q)) (c : Cls X.K C0) (hm : Meth X.K C0 m f) (F : Fok X.prog X.w X.K X.mg X.base (L2.CX X.prog X.w) k f (spEX X.K Ar)) (hr : Room k X.A) (tk : Takes X B.W) (ha : EA X B ρ O (e :: es) es') (hn : ns.idxOf? m = none)
    (hput : ∀ v, Put O q (.ins C0 ns (vals v0)) (.ins C0 ns (vals v)) (st (upd v))) (h : mc.ok → ∀ R : Om, (∀ z ∈ R, z ∈ O) → Ar (B.L ++ R) [(q, .ins C0 ns (vals v0))] (.rf q :: es') (outXE ce E (fun v => [(q, .ins C0 ns (vals v))]) [(q, .ins C0 ns (vals v0))] mc.val)) (pl : Sem Bool)
    (hst : starEach (e :: es) X.env = (false, eval e X.env) :: starEach es X.env := by rfl) (hpl : (backTo pos (starEach es X.env)).any (·.1) = false := by rfl)
    (ht : eval (.Call (.Attribute o m apos) (e :: es) [] pos) X.env = (do
      let ov ← eval o X.env
      standAt apos.atName
      let (f, first) ← holding [ov] (getMethod ov m pl)
      callWith pos f first (backTo pos (starEach (e :: es) X.env)) (backToKw pos (keywordEach [] X.env))) := by rfl) :
    EXm X B ρ O (.Call (.Attribute o m apos) (e :: es) [] pos) ce E st (methX mc upd) where
  v := fun p ok hp => by
    obtain ⟨h1, ⟨v, h2, h3⟩ | ⟨er, h2, h3⟩⟩ := methX_val ok
    · rw [h3] at hp; cases hp
      have hp0 := hput v.2
      obtain ⟨R, g1, g2⟩ := hp0.split
      have hA := h h1 R fun z hz => g1.mem_iff.mpr (List.mem_append_right _ hz)
      rw [h2] at hA
      exact eg_methE ho hp0.mem c hm F.xE hr ha hn g1 g2 hA pl hst hpl ht
    · rw [h3] at hp; cases hp
  x := fun er ok hp => by
    obtain ⟨h1, ⟨v, h2, h3⟩ | ⟨er', h2, h3⟩⟩ := methX_val ok
    · rw [h3] at hp; cases hp
    · rw [h3] at hp; cases hp
      have hp0 := hput v0
      obtain ⟨R, g1, g2⟩ := hp0.split
      have hA := h h1 R fun z hz => g1.mem_iff.mpr (List.mem_append_right _ hz)
      rw [h2] at hA
      exact er_methE ho hp0.mem c hm F.xER hr tk ha hn g1 g1.symm hA pl hst hpl ht
/-- o.f = e, f a property whose setter may raise -/
theorem jc_psetX {δ : Type} {A : Ctl S L R → AE} {Ar : Om → Om → List D → OutE → Prop} {vals : γ → List D} {vals' : δ → List D} {s : γ} {mc : Cmp (Ctl Unit Unit (Unit × δ))} {ns ns' : List Str} {f : Str} {pp g q : Addr} {m : δ → Cmp (Ctl S L R)} {O2 : δ → Om} (ho : EV X B ρ O o (.rf q)) (he : EV X B ρ O e d0) (c : Cls X.K C0) (hps : PSetOf X.K C0 f pp g) (F : Fok X.prog X.w X.K X.mg X.base (L2.CX X.prog X.w) k g (spEX X.K Ar)) (hr : Room (k + 2) X.A) (tk : Takes X B.W)
    (hm0 : (q, M.ins C0 ns (vals s)) ∈ O) (hp : ∀ y, Put O q (.ins C0 ns (vals s)) (.ins C0 ns' (vals' y)) (O2 y)) (ha : mc.ok → ∀ R : Om, (∀ z ∈ R, z ∈ O) → Ar (B.L ++ R) [(q, .ins C0 ns (vals s))] [.rf q, d0] (outXE ce (fun _ => .non) (fun v => [(q, .ins C0 ns' (vals' v))]) [(q, .ins C0 ns (vals s))] mc.val))
    (hex : ∀ er, (A (.ex er)).ex (ce er.c).1 (ce er.c).2 er.d ρ O) (hd : δ) (h : ∀ y, JC X B rest ρ (O2 y) A (m y)) (hs : swapsWith e (some (.Attribute o f pos')) pos.line X.env = pure false := by rfl) : JC X B (.Assign [.Attribute o f pos'] e pos :: rest) ρ O A (mc.bindX fun p => m p.2) := fun ok => by
  obtain ⟨h1, ⟨v, h2, ok2⟩ | ⟨er, h2⟩⟩ := bindX_ok ok
  · rw [(bindX_rt h2).2]
    have hp0 := hp v.2
    obtain ⟨R, g1, g2⟩ := hp0.split
    have hA := ha h1 R fun z hz => g1.mem_iff.mpr (List.mem_append_right _ hz)
    rw [h2] at hA
    exact j_cons (j_pset ho he hp0.mem c hps F.xE hr g1 g2 hA (h _ ok2) hs)
  · rw [bindX_ex h2]
    have hp0 := hp hd
    obtain ⟨R, g1, g2⟩ := hp0.split
    have hA := ha h1 R fun z hz => g1.mem_iff.mpr (List.mem_append_right _ hz)
    rw [h2] at hA
    exact j_cons (j_psetR ho he hp0.mem c hps F.xER hr tk g1 g1.symm hA (hex er) hs)
/-- if e is not None: .., e changes or raises -/
theorem jc1_ifNX {A : Ctl S L R → AE} {mc : Cmp (Ctl Unit Unit (β × S'))} {m1 m2 : S' → Cmp (Ctl S L R)} {kk : Nat} {j : Pos} (h : EXm X B ρ O e ce E st mc) (hn : ∀ y, isNonD (E y) = true) (hex : ∀ er, (A (.ex er)).ex (ce er.c).1 (ce er.c).2 er.d ρ O) (h2 : ∀ s, JC X B s2 ρ (st s) A (m2 s)) :
    JC1 X B (.If (.Compare e [.IsNot] [.Constant .none kk j] pos') s1 s2 pos) ρ O A (mc.bindX fun p => m2 p.2) := fun ok => by
  obtain ⟨g1, ⟨v, g2, ok2⟩ | ⟨er, g2⟩⟩ := bindX_ok ok
  · rw [(bindX_rt g2).2]
    have hc : ETm X B ρ O (.Compare e [.IsNot] [.Constant .none kk j] pos') st (callM (.ret v) (fun _ _ => True) fun y _ => !isNonD (E y)) := etm_cmp (Eγ := E) (d2 := fun _ _ => .non) op_notN (fun _ => h.v v g1 g2) (fun y s _ => ⟨ev_non, rd_notN⟩) (nomark _)
    have hf := hc ⟨trivial, trivial, trivial⟩
    have e0 : (!isNonD (E v.1)) = false := by rw [hn]; rfl
    exact ps_imp (ps_if hf (t := fun _ _ _ => False) ⟨fun _ _ _ _ _ _ h => h.elim⟩ (h2 v.2 ok2)) fun Dn σ H ⟨w, pp⟩ => ⟨w, fun H1 s' e' => by
      show if (!isNonD (E v.1)) = true then _ else _
      rw [e0]
      exact iteF ⟨s', pp.grow e'⟩⟩
  · rw [bindX_ex g2]
    exact j_ifRx (etrx_cmp op_notN (h.x er g1 g2) (ev_non (B := B) (ρ := ρ) (O := O)) (nomark _)) (hex er)
end
end DL

set_option Elab.async false
set_option linter.all false
set_option maxRecDepth 100000
set_option maxHeartbeats 4000000
namespace L2
open PySem PySem.Spec PyProof.Rows
section
variable {X : Cx} {CX : CXT} {k n : Nat} {f C : Addr} {fd : FuncData} {ps ks : List Str} {sp : Sp} {x : Str} {p pos : Pos} {e : Expr} {es : List Expr} {kws : List Keyword} {t tk : TA} {g : List Value → List Value → List Value} {gV : List V → List V → List V}
theorem run_makeKS {pins : List (Addr × Obj)} {σ : St} {E : XK} {H : Hp} {s : Shared} {Q : VK} {us ws : List Value} {vs zs : List V} (M : Mk X.K C f) (F : FnOk X.prog X.w X.K X.mg X.base CX k f fd ps sp) (hr : Room (k + 1) X.A) (hb : KBn X.K fd ps (n + 1) ks g gV) (hx : PassesAt CX X σ E)
    (I : Inv X pins σ H s) (r : Vals vs us) (rz : Vals zs ws) (l1 : vs.length = n) (l2 : zs.length = ks.length)
    (h : ∀ x dx, H x = none → H dx = none → dx ≠ x → sp (gV (.ref x :: vs) zs) (upd (upd H dx (.own x)) x (.ins C dx [])) (fun v H2 => v = .non ∧ Q (.ref x) H2) E) :
    wpAny (model X.prog X.w) X.A (call (.ref C) us (ks.zip ws)) (EP X pins σ Q) X.xe s := by
  have hq := h (s.heap.objs.size + 1) s.heap.objs.size (I.hok.fresh (Nat.le_succ _)) (I.hok.fresh (Nat.le_refl _)) (Nat.ne_of_lt (Nat.lt_succ_self _))
  have I2 := Inv.made (C := C) I
  have r1 : Vals (V.ref (s.heap.objs.size + 1) :: vs) (Value.ref (s.heap.objs.size + 1) :: us) := .cons rfl r
  have r2 := hb.rel r1 rz
  have n1 : (Value.ref (s.heap.objs.size + 1) :: us).length = n + 1 := by
    rw [List.length_cons, ← r.length, l1]
  refine wpAny_call (make_map (f := f) I.kIn M.makes M.init (beq_iff_eq.mp M.fn) (codeAny_mono (F.run _ X.stack _ _ ⟨Value.ref (s.heap.objs.size + 1) :: us, ks.zip ws⟩ (g (Value.ref (s.heap.objs.size + 1) :: us) ws) _ _ E (hr.make C us (ks.zip ws))
    (I2.env0.make C us (ks.zip ws)) (hb.to _ (Value.ref (s.heap.objs.size + 1) :: us) ws I2.kIn n1 (rz.length.symm.trans l2)) r2 hq) fun r s' hq' => ?_))
  cases r with
  | error e => exact hx pins _ _ e s' I2 hq'
  | ok fl =>
    cases fl with
    | ret u =>
      obtain ⟨v, H', I3, rv, ev, q3⟩ := I2.after hq'
      subst ev
      exact ⟨rv, ⟨V.ref (s.heap.objs.size + 1), H', I3, rfl, q3⟩⟩
    | next => exact False.elim hq'
    | brk => exact False.elim hq'
    | cont => exact False.elim hq'
theorem pe_makeKS {E : St → XK} (M : Mk X.K C f) (F : FnOk X.prog X.w X.K X.mg X.base CX k f fd ps sp) (hr : Room (k + 1) X.A) (hg : Gl X x) (hm : X.mg x = some (.ref C)) (hb : KBn X.K fd ps (n + 1) ks g gV) (hx : ∀ σ, PassesAt CX X σ (E σ)) (ha : PA X (e :: es) t) (hkw : PK X kws tk)
    (hall : (backToKw pos (keywordEach kws X.env)).all (·.1.isSome) = true := by rfl) (hks : (backToKw pos (keywordEach kws X.env)).filterMap (·.1) = ks := by rfl) (hdb : (x == ("__debug__" : Str)) = false := by decide)
    (he : starEach (e :: es) X.env = (false, eval e X.env) :: starEach es X.env := by rfl) (hpl : ((backTo pos (starEach (e :: es) X.env)).any (·.1) || (backToKw pos (keywordEach kws X.env)).any (·.1.isNone)) = false := by rfl) :
    PE X (.Call (.Name x p) (e :: es) kws pos) (fun σ H Q => tMakeK C n ks.length sp gV (E σ) t tk σ H Q) := by
  refine ⟨fun pins s σ H Q I h => ?_⟩
  refine wpAny_Call_Name_kw (ld_glob I hg hm ?_ hdb)
  refine PySem.W.callWith_KW (h₀ := X.base) I.ok.mod.kin M.kp hall (thn (ha.run pos pins s σ H _ I h) fun us s1 ⟨vs, H1, I1, r, q⟩ => ?_) hpl he
  refine thn (hkw.run pos pins s1 σ H1 _ I1 q) fun ws s2 ⟨zs, H2, I2, rz, l1, l2, q2⟩ => ⟨I2.kIn, ?_⟩
  rw [hks]
  exact run_makeKS M F hr hb (hx σ) I2 r rz l1 l2 q2
end
end L2
namespace DL
open PySem PySem.Spec PyProof.Rows L2 TL
/-- a call's value and state, or its error: the rest takes the state -/
def setX {β δ S L R : Type} (mc : Cmp (Ctl Unit Unit (β × δ))) (m : δ → Cmp (Ctl S L R)) : Cmp (Ctl S L R) := mc.bindX fun p => m p.2
structure KwInitX (P : Program) (w : World) (K : PySem.W.Frag) (mg : Str → Option Value) (base : Heap) (k : Nat) (f : Addr) (n : Nat) (ks : List Str) (sp : Sp) : Prop where
  ex : ∃ fd ps, FnOk P w K mg base (L2.CX P w) k f fd ps sp ∧ KBn K fd ps (n + 1) ks (fun a b => a ++ b) (fun a b => a ++ b)
theorem KwInitX.calm {P : Program} {w : World} {K : PySem.W.Frag} {mg : Str → Option Value} {base : Heap} {k n : Nat} {f C : Addr} {ks : List Str} {Ar : Om → List D → OutI → Prop} (h : KwInitX P w K mg base k f n ks (spXI K C Ar)) : KwInit P w K mg base k f n ks (spI K C fun L ds ns fs => Ar L ds (.val ns fs)) := by
  obtain ⟨fd, ps, F, b⟩ := h.ex
  exact ⟨fd, ps, fn_calmI F fun _ _ _ _ z => z, b⟩
section
variable {X : Cx} {B : Gd} {ρ ρ' : List (Option D)} {O O' : Om} {a b c e o : Expr} {es : List Expr} {d : D} {ds : List D} {pos p : Pos} {x n : Str} {k : Nat} {C C0 : Addr}
/-- C(e, .., k = v, ..), and it raises -/
theorem er_makeA {Ar : Om → List D → D → Prop} {f : Addr} {fd : FuncData} {ps ks : List Str} {dz : List D} {nn : Nat} {kws : List Keyword} (Mk : Mk X.K C0 f) (F : FnOk X.prog X.w X.K X.mg X.base (L2.CX X.prog X.w) k f fd ps (spRI X.K C0 C n Ar)) (hb : KBn X.K fd ps (nn + 1) ks (fun a b => a ++ b) (fun a b => a ++ b)) (hr : Room (k + 1) X.A) (tk : Takes X B.W) (hg : Gl X x) (hm : X.mg x = some (.ref C0))
    (ha : EA X B ρ O (e :: es) ds) (hkw : PK X kws (tA X.K B ρ O dz)) (hl : ds.length = nn) (h : Ar (B.L ++ O) (ds ++ dz) d) (hz : dz.length = ks.length := by rfl)
    (hall : (backToKw pos (keywordEach kws X.env)).all (·.1.isSome) = true := by rfl) (hks : (backToKw pos (keywordEach kws X.env)).filterMap (·.1) = ks := by rfl) (hdb : (x == ("__debug__" : Str)) = false := by decide)
    (he : starEach (e :: es) X.env = (false, eval e X.env) :: starEach es X.env := by rfl) (hpl : ((backTo pos (starEach (e :: es) X.env)).any (·.1) || (backToKw pos (keywordEach kws X.env)).any (·.1.isNone)) = false := by rfl) :
    ER X B ρ O (.Call (.Name x p) (e :: es) kws pos) C n d :=
  pe_imp (pe_makeKS (E := WE B.W) Mk F hr hg hm hb (fun σ => passAt tk σ) ha hkw hall hks hdb he hpl) fun σ H Q ⟨st, kk⟩ => ⟨st, fun vs H1 e1 r1 => ⟨st.same e1, fun zs H2 e2 r2 => by
    have s2 := (st.same e1).same e2
    refine ⟨by rw [r1.length]; exact hl, by rw [r2.length]; exact hz, fun y dy hy hdy ne => ?_⟩
    exact madeR_use (vs := vs ++ zs) s2.m ((r1.mono (vis_same e2)).append r2) h (fun dx v H3 e3 hx r3 => kk dx v H3 ((e1.trans e2).trans e3) hx r3) y dy hy hdy ne⟩⟩
/-- .. by the contract with both outcomes -/
theorem er_makeAX {Ar : Om → List D → OutI → Prop} {f : Addr} {ks : List Str} {dz : List D} {nn : Nat} {kws : List Keyword} (Mk : Mk X.K C0 f) (kw : KwInitX X.prog X.w X.K X.mg X.base k f nn ks (spXI X.K C0 Ar)) (hr : Room (k + 1) X.A) (tk : Takes X B.W) (hg : Gl X x) (hm : X.mg x = some (.ref C0))
    (ha : EA X B ρ O (e :: es) ds) (hkw : PK X kws (tA X.K B ρ O dz)) (hl : ds.length = nn) (h : Ar (B.L ++ O) (ds ++ dz) (.exn C n d) ∧ FlatD d) (hz : dz.length = ks.length := by rfl)
    (hall : (backToKw pos (keywordEach kws X.env)).all (·.1.isSome) = true := by rfl) (hks : (backToKw pos (keywordEach kws X.env)).filterMap (·.1) = ks := by rfl) (hdb : (x == ("__debug__" : Str)) = false := by decide)
    (he : starEach (e :: es) X.env = (false, eval e X.env) :: starEach es X.env := by rfl) (hpl : ((backTo pos (starEach (e :: es) X.env)).any (·.1) || (backToKw pos (keywordEach kws X.env)).any (·.1.isNone)) = false := by rfl) :
    ER X B ρ O (.Call (.Name x p) (e :: es) kws pos) C n d := by
  obtain ⟨fd, ps, F, b⟩ := kw.ex
  exact er_makeA Mk (spXI_R (CX := L2.CX X.prog X.w) F) b hr tk hg hm ha hkw hl h hz hall hks hdb he hpl
/-- a new instance that nothing keeps -/
theorem j_exprM {A : AE} {ns : List Str} {fs : List D} (he : EM X B ρ O e C ns fs) (h : A.nx ρ O) (hs : swapsWith e none pos.line X.env = pure false := by rfl) : J1 X B (.Expr e pos) ρ O A :=
  ps_imp (ps_expr he hs) fun Dn σ H ⟨st, pp⟩ => ⟨st, fun q dx fv H1 hp e1 hv hns r => pp.nx ρ O σ H1 h (st.same e1) (vis_same e1)⟩
theorem jc_exprMX {β S L R : Type} {A : Ctl S L R → AE} {m : Cmp (Ctl Unit Unit β)} {f : Cmp (Ctl S L R)} {ce : ErrTab} {ns : List Str} {fs : β → List D} {rest : List Stmt} (hv : ∀ v, m.ok → m.val = .rt v → EM X B ρ O e C ns (fs v)) (hx : ∀ er, m.ok → m.val = .ex er → ER X B ρ O e (ce er.c).1 (ce er.c).2 er.d)
    (h : JC X B rest ρ O A f) (hex : ∀ er, (A (.ex er)).ex (ce er.c).1 (ce er.c).2 er.d ρ O) (hs : swapsWith e none pos.line X.env = pure false := by rfl) : JC X B (.Expr e pos :: rest) ρ O A (m.bindX fun _ => f) := fun ok => by
  obtain ⟨ok1, ⟨v, hm, ok2⟩ | ⟨er, hm⟩⟩ := bindX_ok ok
  · rw [(bindX_rt hm).2]
    exact j_cons (j_exprM (hv v ok1 hm) (h ok2) hs)
  · rw [bindX_ex hm]
    exact j_cons (j_exprRx (erx_of (hx er ok1 hm)) (hex er) hs)
theorem jc1_ifF {α : Type} {A : α → AE} {m : Cmp α} {s1 s2 : List Stmt} (hc : ET X B ρ O c false) (h : JC X B s2 ρ O A m) : JC1 X B (.If c s1 s2 pos) ρ O A m := fun ok => j_if hc (fun h => nomatch h) (fun _ => h ok)
theorem jc1_ifT {α : Type} {A : α → AE} {m : Cmp α} {s1 s2 : List Stmt} (hc : ET X B ρ O c true) (h : JC X B s1 ρ O A m) : JC1 X B (.If c s1 s2 pos) ρ O A m := fun ok => j_if hc (fun _ => h ok) (fun h => nomatch h)
end
end DL

set_option Elab.async false
set_option linter.all false
set_option maxRecDepth 100000
set_option maxHeartbeats 4000000
namespace DL
open PySem PySem.Spec PyProof.Rows L2 TL
/-! ### an __init__ whose lacking parameters have values that are known -/
structure KwDef (P : Program) (w : World) (K : PySem.W.Frag) (mg : Str → Option Value) (base : Heap) (k : Nat) (f : Addr) (dvs : List V) (sp : Sp) : Prop where
  ex : ∃ fd ps ds, FnOk P w K mg base CX0 k f fd ps sp ∧ Vals dvs ds ∧ Binds K fd ps ds
theorem kwdef_mk {P : Program} {w : World} {K : PySem.W.Frag} {mg : Str → Option Value} {base : Heap} {k n : Nat} {x qual kw : Str} {st : Stmt} {f D : Addr} {ps : List Str} {sp : Sp} {v : V} {u doc pm cdv ct oc : Value} {od an : Option Addr} {osl : Array (Option Value)}
    (l : K.lookup f = some ⟨oc, od, .func (PySem.W.fnOf x qual (defArgs st) (defBody st) (defScope st) .none (.ref D) doc pm an cdv ct), osl⟩) (c : PySem.W.codeIn K cdv qual = true) (hk : PySem.W.keepIn K (.ref f) = true) (hq : PySem.W.nsIn K D kw = some (some u)) (rv : RelV v u)
    (G : FnOk P w K mg base CX0 k f (PySem.W.fnOf x qual (defArgs st) (defBody st) (defScope st) .none (.ref D) doc pm an cdv ct) ps sp) (hn : n + 1 = ps.length)
    (h : ∀ (D : Addr) (doc pm : Value) (an : Option Addr) (cdv ct : Value) (us ks : List Value), us.length = n → ks.length = 1 → KwChain D (([(kw, v)].map (·.1)).zip ks) (bindArgs (PySem.W.fnOf x qual (defArgs st) (defBody st) (defScope st) .none (.ref D) doc pm an cdv ct) ⟨us, []⟩) (ps.zip (us ++ ks))) :
    KwDef P w K mg base k f [v] sp := by
  have F : FunD K x qual (defArgs st) (defBody st) (defScope st) [] [(kw, v)] f (PySem.W.fnOf x qual (defArgs st) (defBody st) (defScope st) .none (.ref D) doc pm an cdv ct) :=
    ⟨⟨oc, od, _, _, doc, pm, an, cdv, ct, osl, rfl, l, c, .inl ⟨rfl, rfl⟩, .inr ⟨D, rfl, fun q hq' => by cases List.mem_singleton.mp hq'; exact ⟨u, hq, rv⟩⟩⟩, hk⟩
  obtain ⟨ds, r, b⟩ := F.binds0 (ps := ps) n (by simp) hn h
  exact ⟨_, _, ds, G, r, b⟩
section
variable {X : Cx} {B : Gd} {ρ ρ' : List (Option D)} {O O' : Om} {a b c e o : Expr} {es : List Expr} {d : D} {ds : List D} {pos p : Pos} {x n : Str} {k : Nat} {C C0 : Addr}
theorem em_makeD {Ar : Om → List D → List Str → List D → Prop} {f : Addr} {ns : List Str} {fs : List D} {dvs : List V} {dvd : List D} (Mk : Mk X.K C f) (kd : KwDef X.prog X.w X.K X.mg X.base k f dvs (spI X.K C Ar)) (hr : Room (k + 1) X.A) (hg : Gl X x) (hm : X.mg x = some (.ref C)) (ha : EA X B ρ O (e :: es) ds)
    (hd : ∀ Hv, RpL X.K Hv dvs dvd) (h : Ar (B.L ++ O) (ds ++ dvd) ns fs) (hdb : (x == ("__debug__" : Str)) = false := by decide)
    (he : starEach (e :: es) X.env = (false, eval e X.env) :: starEach es X.env := by rfl) (hpl : (backTo pos (starEach es X.env)).any (·.1) = false := by rfl) : EM X B ρ O (.Call (.Name x p) (e :: es) [] pos) C ns fs := by
  obtain ⟨fd, ps, dz, F, rz, b⟩ := kd.ex
  exact em_makeR Mk (F.raw b rz) hr hg hm ha (fun _ _ _ _ z => z) hd h hdb he hpl
end
section
variable {X : Cx} {B : Gd} {ρ ρ' : List (Option D)} {O O' : Om} {a b c e o : Expr} {es : List Expr} {d d0 : D} {ds : List D} {pos pos' p : Pos} {x n : Str} {k : Nat} {C C0 : Addr} {ce : ErrTab} {rest s1 s2 : List Stmt}
variable {β γ S S' L R : Type} {E : β → D} {st : S' → Om}
theorem jc_psetX' {δ : Type} {A : Ctl S L R → AE} {Ar : Om → Om → List D → OutE → Prop} {vals : γ → List D} {vals' : δ → List D} {s : γ} {mc : Cmp (Ctl Unit Unit (Unit × δ))} {ns ns' : List Str} {f : Str} {pp g q : Addr} {m : δ → Cmp (Ctl S L R)} {O2 : δ → Om} (ho : EV X B ρ O o (.rf q)) (he : EV X B ρ O e d0) (c : Cls X.K C0) (hps : PSetOf X.K C0 f pp g) (F : Fok X.prog X.w X.K X.mg X.base (L2.CX X.prog X.w) k g (spEX X.K Ar)) (hr : Room (k + 2) X.A) (tk : Takes X B.W)
    (hm0 : (q, M.ins C0 ns (vals s)) ∈ O) (hp : ∀ y, Put O q (.ins C0 ns (vals s)) (.ins C0 ns' (vals' y)) (O2 y)) (ha : mc.ok → ∀ R : Om, (∀ z ∈ R, z ∈ O) → Ar (B.L ++ R) [(q, .ins C0 ns (vals s))] [.rf q, d0] (outXE ce (fun _ => .non) (fun v => [(q, .ins C0 ns' (vals' v))]) [(q, .ins C0 ns (vals s))] mc.val))
    (hex : ∀ er, (A (.ex er)).ex (ce er.c).1 (ce er.c).2 er.d ρ O) (hd : δ) (h : ∀ y, JC X B rest ρ (O2 y) A (m y)) (hs : swapsWith e (some (.Attribute o f pos')) pos.line X.env = pure false := by rfl) : JC X B (.Assign [.Attribute o f pos'] e pos :: rest) ρ O A (setX mc m) :=
  jc_psetX ho he c hps F hr tk hm0 hp ha hex hd h hs
theorem jc1_ifNX' {A : Ctl S L R → AE} {mc : Cmp (Ctl Unit Unit (β × S'))} {m2 : S' → Cmp (Ctl S L R)} {kk : Nat} {j : Pos} (h : EXm X B ρ O e ce E st mc) (hn : ∀ y, isNonD (E y) = true) (hex : ∀ er, (A (.ex er)).ex (ce er.c).1 (ce er.c).2 er.d ρ O) (h2 : ∀ s, JC X B s2 ρ (st s) A (m2 s)) :
    JC1 X B (.If (.Compare e [.IsNot] [.Constant .none kk j] pos') s1 s2 pos) ρ O A (setX mc m2) := jc1_ifNX (m1 := m2) h hn hex h2
end
end DL

set_option Elab.async false
set_option linter.all false
set_option maxRecDepth 100000
set_option maxHeartbeats 4000000
namespace DL
open PySem PySem.Spec PyProof.Rows L2 TL
structure Ads where
  (CBadFormula CBadKey CBadPlan CBadRoom CBest CClash CFormula CKeep CKeys CNoOrder CNoRanking CNoRow CNoStep CPlan CRank CReader CTableError CTooHeavy CTooLong CTooManySteps CTwoSided aOPERANDS f_BadRoom___init__ f_Formula___init__ f_Formula_read f_Reader___init__ f_Reader_resize f_Reader_room f_Reader_room_setter f_Reader_room_setter_new p_Formula_read p_Reader_room p_Reader_room_w : Addr)
structure FormV where
  words : List Str
  code : List (Str × Int × Int)
deriving Inhabited
def fFForm : List Str := ["words", "code"]
abbrev fVForm (v : FormV) : List D := [dU D.str v.words, dL (dP3 D.str D.int D.int) v.code]
abbrev eForm (ad : Ads) (v : FormV) : D := .obj ad.CFormula fFForm (fVForm v)
structure KeysV where
  names : List Str
deriving Inhabited
def fFKeys : List Str := ["names"]
abbrev fVKeys (v : KeysV) : List D := [dU D.str v.names]
abbrev eKeys (ad : Ads) (v : KeysV) : D := .obj ad.CKeys fFKeys (fVKeys v)
structure StpV where
  formula : FormV
deriving Inhabited
def fFStp : List Str := ["formula"]
abbrev fVStp (ad : Ads) (v : StpV) : List D := [eForm ad v.formula]
abbrev eRank (ad : Ads) (v : StpV) : D := .obj ad.CRank fFStp (fVStp ad v)
abbrev eKeep (ad : Ads) (v : StpV) : D := .obj ad.CKeep fFStp (fVStp ad v)
abbrev eBest (ad : Ads) (v : StpV) : D := .obj ad.CBest fFStp (fVStp ad v)
inductive StepV where
  | keep (s : StpV) | best (s : StpV) | rank (s : StpV)
deriving Inhabited
@[reducible] def eStep (ad : Ads) : StepV → D
  | .keep s => eKeep ad s
  | .best s => eBest ad s
  | .rank s => eRank ad s
def StepV.formula : StepV → FormV
  | .keep s => s.formula
  | .best s => s.formula
  | .rank s => s.formula
@[reducible] def StepV.isBest : StepV → Bool
  | .keep _ => false
  | .best _ => true
  | .rank _ => true
structure PlanV where
  steps : List StepV
deriving Inhabited
def fFPlan : List Str := ["steps"]
abbrev fVPlan (ad : Ads) (v : PlanV) : List D := [dL (eStep ad) v.steps]
abbrev ePlan (ad : Ads) (v : PlanV) : D := .obj ad.CPlan fFPlan (fVPlan ad v)
def stepsL : List (Str × Int) := [("keep", 0), ("best", 1), ("rank", 2)]
def stepsT (z : Str) : Option Int := lookS stepsL z
def ceT (ad : Ads) : ErrTab := fun i => match i with | 0 => (ad.CTooLong, "many") | 1 => (ad.CBadFormula, "place") | 2 => (ad.CBadKey, "name") | 3 => (ad.CTooManySteps, "many") | 4 => (ad.CTooHeavy, "weight") | 5 => (ad.CTwoSided, "place") | 6 => (ad.CBadPlan, "at") | 7 => (ad.CNoStep, "at") | 8 => (ad.CBadRoom, "given") | 9 => (ad.CNoRow, "name") | 10 => (ad.CClash, "name") | 11 => (ad.CNoOrder, "rows") | 12 => (ad.CNoRanking, "rows") | _ => (0, Str.empty)
abbrev keyNames : List Str := [Str.ofString "a", Str.ofString "b", Str.ofString "c", Str.ofString "ab", Str.ofString "ac", Str.ofString "bc", Str.ofString "abc"]
def opsT (z : Str) : Option Int := lookS opsL z
inductive ChartV where
  | keep (k : List Row) | best (k : List (Row × Row))
deriving Inhabited
@[reducible] def eChart : ChartV → D
  | .keep k => dK kRow k
  | .best k => dK kRR k
inductive PartV where
  | plan (p : PlanV) | keys (k : KeysV)
deriving Inhabited
@[reducible] def ePart (ad : Ads) : PartV → D
  | .plan p => ePlan ad p
  | .keys k => eKeys ad k
def Cmp.mapC {α β : Type} (f : α → β) (m : Cmp α) : Cmp β := ⟨m.ok, f m.val⟩
structure Reader0V where
  formula : FormV
  passes : Int
deriving Inhabited
def fFReader0 : List Str := ["formula", "passes"]
abbrev fVReader0 (ad : Ads) (v : Reader0V) : List D := [eForm ad v.formula, .int v.passes]
structure ReaderV where
  formula : FormV
  passes : Int
  space : Int
deriving Inhabited
def fFReader : List Str := ["formula", "passes", "space"]
abbrev fVReader (ad : Ads) (v : ReaderV) : List D := [eForm ad v.formula, .int v.passes, .int v.space]
abbrev eReader (ad : Ads) (v : ReaderV) : D := .obj ad.CReader fFReader (fVReader ad v)
def m_law_pool (v_script : List Int) (v_k : Int) (v_many : Int) : Cmp (List Int) :=
  .bnd ((0 : Int) : Int) fun v_cell => .bind (if (decide (v_k < (v_script.length : Int))) = true then (.req ((0 ≤ v_k ∧ v_k < (v_script.length : Int))) (.bnd ((ixL v_script v_k) : Int) fun v_cell => .ret v_cell)) else (.ret v_cell) : Cmp Int) (fun (v_cell : Int) => .bnd ((decide (v_cell ≥ (((10 : Int) : Int) ^ ((18 : Int) : Int).toNat))) : Bool) fun v_great => .bnd ([] : List Int) fun v_pool_here => .req ((-(2 ^ 62) ≤ v_many ∧ v_many < 2 ^ 62)) (.bind (forN (fun (v_j : Int) ((v_cell, v_pool_here) : Int × (List Int)) => if (v_great && (decide (v_cell > (0 : Int)))) = true then (.req ((v_pool_here.length < sizeLine)) (.bnd (v_pool_here ++ [(v_cell % (1000 : Int))]) fun v_pool_here => .bnd ((v_cell / (1000 : Int)) : Int) fun v_cell => .ret (v_cell, v_pool_here))) else (.bnd ((v_j + ((11 : Int) * v_k)) : Int) fun v_i => .bnd (((((v_cell * (37 : Int)) + (v_i * (71 : Int))) + (5 : Int)) % (509 : Int)) : Int) fun v_first => .req ((CMul v_first v_first) ∧ (v_pool_here.length < sizeLine)) (.bnd (v_pool_here ++ [((((v_first * v_first) + v_cell) + (v_i * (13 : Int))) % (499 : Int))]) fun v_pool_here => .ret (v_cell, v_pool_here)))) (rangeL 0 v_many) (v_cell, v_pool_here)) (fun ((v_cell, v_pool_here) : Int × (List Int)) => .ret v_pool_here)))
def m_constant_of (v_text : Str) : Cmp (Option Int) :=
  .req ((0 ≤ (0 : Int) ∧ (0 : Int) < (v_text.length : Int)) ∧ (v_text.length ≤ sizeLine) ∧ (∀ (hb3 : (decide ((cS (ixS v_text (0 : Int))) = (Str.ofString "-"))) = true), v_text.length ≤ sizeLine)) (.bnd ((if (decide ((cS (ixS v_text (0 : Int))) = (Str.ofString "-"))) = true then (cutS v_text (some (1 : Int)) none) else v_text) : Str) fun v_digits => .req ((v_digits.length ≤ sizeLine)) (if (!(decide ((1 : Int) ≤ (v_digits.length : Int)) && decide ((v_digits.length : Int) ≤ (18 : Int)))) = true then (.ret none) else (.bindR (forC (L := Unit) (R := Option Int) (fun (v_char : Nat) (_ : Unit) => if (!decide (v_char ∈ charsL (Str.ofString "0123456789"))) = true then (.ret (.rt none)) else (.ret (.nx ()))) (charsL v_digits) ()) (fun (_ : Unit) => .req ((0 ≤ (0 : Int) ∧ (0 : Int) < (v_digits.length : Int))) (if ((decide ((cS (ixS v_digits (0 : Int))) = (Str.ofString "0"))) && (!decide (v_text = (Str.ofString "0")))) = true then (.ret none) else (.req ((IntOk v_text)) (.ret (some (intD v_text)))))))))
def m_decoded (v_word : Str) : Cmp (Option (Str × Int × Int)) :=
  if (opsT v_word).isSome = true then (.ret (some (v_word, (-(1 : Int)), (0 : Int)))) else (.req ((v_word.length ≤ sizeLine) ∧ (∀ (hb3 : (decide ((v_word.length : Int) = (2 : Int))) = true), 0 ≤ (0 : Int) ∧ (0 : Int) < (v_word.length : Int)) ∧ (∀ (hb3 : (decide ((v_word.length : Int) = (2 : Int))) = true), v_word.length ≤ sizeLine) ∧ (∀ (hb3 : (decide ((v_word.length : Int) = (2 : Int))) = true), ∀ (hb6 : (decide ((ixS v_word (0 : Int)) ∈ charsL (Str.ofString "<>="))) = true), 0 ≤ (1 : Int) ∧ (1 : Int) < (v_word.length : Int)) ∧ (∀ (hb3 : (decide ((v_word.length : Int) = (2 : Int))) = true), ∀ (hb6 : (decide ((ixS v_word (0 : Int)) ∈ charsL (Str.ofString "<>="))) = true), v_word.length ≤ sizeLine)) (if ((decide ((v_word.length : Int) = (2 : Int))) && ((decide ((ixS v_word (0 : Int)) ∈ charsL (Str.ofString "<>="))) && (decide ((ixS v_word (1 : Int)) ∈ charsL (Str.ofString "abc"))))) = true then (.req ((0 ≤ (0 : Int) ∧ (0 : Int) < (v_word.length : Int)) ∧ (0 ≤ (1 : Int) ∧ (1 : Int) < (v_word.length : Int))) (.ret (some ((cS (ixS v_word (0 : Int))), (Txt.find (Str.ofString "abc") (cS (ixS v_word (1 : Int)))), (0 : Int))))) else (.req ((∀ (hb12 : (decide ((v_word.length : Int) < (3 : Int))) = false), 0 ≤ (0 : Int) ∧ (0 : Int) < (v_word.length : Int)) ∧ (∀ (hb12 : (decide ((v_word.length : Int) < (3 : Int))) = false), ∀ (hb14 : (!decide ((ixS v_word (0 : Int)) ∈ charsL (Str.ofString "abc"))) = false), 0 ≤ (1 : Int) ∧ (1 : Int) < (v_word.length : Int))) (if ((decide ((v_word.length : Int) < (3 : Int))) || ((!decide ((ixS v_word (0 : Int)) ∈ charsL (Str.ofString "abc"))) || (!decide ((ixS v_word (1 : Int)) ∈ charsL (Str.ofString "<>="))))) = true then (.ret none) else (.req (((m_constant_of (cutS v_word (some (2 : Int)) none)).ok)) (.bnd ((m_constant_of (cutS v_word (some (2 : Int)) none)).val : Option Int) fun v_constant => if v_constant.isNone = true then (.ret none) else (.req ((0 ≤ (1 : Int) ∧ (1 : Int) < (v_word.length : Int)) ∧ (0 ≤ (0 : Int) ∧ (0 : Int) < (v_word.length : Int)) ∧ (v_constant.isSome = true)) (.ret (some (((Str.ofString "row") ++ (cS (ixS v_word (1 : Int)))), (Txt.find (Str.ofString "abc") (cS (ixS v_word (0 : Int)))), (v_constant.getD default)))))))))))
def m_Formula___init__ (v_words : List Str) : Cmp FormV :=
  if (decide ((v_words.length : Int) > (40 : Int))) = true then (⟨False, default⟩) else (.bnd ([] : List (Str × Int × Int)) fun v_code => .bnd ((1 : Int) : Int) fun v_missing => .bind (forN (fun ((v_at, v_word) : Int × Str) ((v_code, v_missing) : (List (Str × Int × Int)) × Int) => .req (((m_decoded v_word).ok)) (.bnd ((m_decoded v_word).val : Option (Str × Int × Int)) fun v_step => if ((decide (v_missing = (0 : Int))) || v_step.isNone) = true then (⟨False, default⟩) else (.bnd (((v_missing + ((opsT v_word).getD (0 : Int))) - (1 : Int)) : Int) fun v_missing => .req ((v_step.isSome = true) ∧ (v_code.length < sizeLine)) (.bnd (v_code ++ [(v_step.getD default)]) fun v_code => .ret (v_code, v_missing))))) (enumL v_words) (v_code, v_missing)) (fun ((v_code, v_missing) : (List (Str × Int × Int)) × Int) => if (decide (v_missing > (0 : Int))) = true then (⟨False, default⟩) else (.bnd (v_words : List Str) fun v_self_words => .bnd (v_code.reverse : List (Str × Int × Int)) fun v_self_code => .ret ⟨v_self_words, v_self_code⟩)))
def m_Formula_read (v_text : Str) : Cmp FormV :=
  .req ((v_text.length + 2 ≤ sizeLine) ∧ ((m_Formula___init__ (Txt.split v_text (Str.ofString " "))).ok)) (.ret ((m_Formula___init__ (Txt.split v_text (Str.ofString " "))).val))
def mx_Reader_room_setter_new (v_self : Reader0V) (v_value : Int) : Cmp (Ctl ReaderV Unit (Unit × ReaderV)) :=
  if (!(decide ((1 : Int) ≤ v_value) && decide (v_value ≤ (1000 : Int)))) = true then (.ret (.ex ⟨8, D.int v_value⟩)) else (.bnd (⟨v_self.formula, v_self.passes, v_value⟩ : ReaderV) fun v_self => .ret (.nx v_self))
def m_Reader_room_setter_new (v_self : Reader0V) (v_value : Int) : Cmp (Unit × ReaderV) := (mx_Reader_room_setter_new v_self v_value).ended.calm
def mx_Reader___init__ (v_formula : FormV) (v_room : Int) : Cmp (Ctl ReaderV Unit Unit) :=
  .bnd (v_formula : FormV) fun v_self_formula => .bnd ((0 : Int) : Int) fun v_self_passes => setX ((mx_Reader_room_setter_new (⟨v_self_formula, v_self_passes⟩ : Reader0V) v_room).ended) (fun (v_self_w : ReaderV) => .ret (.nx v_self_w))
def m_Reader___init__ (v_formula : FormV) (v_room : Int) : Cmp ReaderV := (mx_Reader___init__ v_formula v_room).made.calm
def mx_Reader_room_setter (v_self : ReaderV) (v_value : Int) : Cmp (Ctl ReaderV Unit (Unit × ReaderV)) :=
  if (!(decide ((1 : Int) ≤ v_value) && decide (v_value ≤ (1000 : Int)))) = true then (.ret (.ex ⟨8, D.int v_value⟩)) else (.bnd ({ v_self with space := v_value } : ReaderV) fun v_self => .ret (.nx v_self))
def m_Reader_room_setter (v_self : ReaderV) (v_value : Int) : Cmp (Unit × ReaderV) := (mx_Reader_room_setter v_self v_value).ended.calm
def mx_Reader_resize (v_self : ReaderV) (v_room : Int) : Cmp (Ctl ReaderV Unit (Unit × ReaderV)) :=
  setX ((mx_Reader_room_setter v_self v_room).ended) (fun (v_self : ReaderV) => .ret (.nx v_self))
def m_Reader_resize (v_self : ReaderV) (v_room : Int) : Cmp (Unit × ReaderV) := (mx_Reader_resize v_self v_room).ended.calm
def m_Reader_room (v_self : ReaderV) : Cmp Int :=
  .ret v_self.space
def m_law_number (v_one : Int) (v_two : Int) : Cmp Int :=
  .bnd ((((v_two * (7 : Int)) % (1008 : Int)) - (3 : Int)) : Int) fun v_number_here => .ret (ixL ([(0 : Int), (1 : Int), (1000 : Int), (1001 : Int), (-(1 : Int)), (2 : Int), v_number_here, v_number_here] : List Int) (v_one % (8 : Int)))
def m_law_refused_n (v_reader : Unit) (v_formula : FormV) (v_number_here : Int) : Cmp Str :=
  .bindR (tryM (S := Unit) (L := Unit) (R := Str) (.req ((FlatX (mx_Reader___init__ v_formula v_number_here).made.val)) (((mx_Reader___init__ v_formula v_number_here).made).bindX fun _ => .ret (.nx ()))) (fun er => onErr 8 er fun v_e_given => if (false || ((!true) || (!true))) = true then (.ret (Str.ofString "wrong")) else (if (false || (!true)) = true then (.ret (Str.ofString "wrong")) else (.req ((v_e_given.natAbs.log2 < 1920) ∧ ((Str.ofString "refused ").length + (Str.ofString (toString v_e_given)).length ≤ sizeLine)) (.ret ((Str.ofString "refused ") ++ (Str.ofString (toString v_e_given)))))))) (fun (_ : Unit) => .ret (Str.ofString ""))
def m_law_refused (v_reader : ReaderV) (v_formula : FormV) (v_number_here : Int) : Cmp (Str × ReaderV) :=
  .bindR (tryM (S := ReaderV) (L := Unit) (R := Str × ReaderV) (setX (methX ((mx_Reader_resize v_reader v_number_here).ended) (fun (v_reader : ReaderV) => v_reader)) (fun (v_reader : ReaderV) => .ret (.nx v_reader))) (fun er => onErr 8 er fun v_e_given => if (false || ((!true) || (!true))) = true then (.ret ((Str.ofString "wrong"), v_reader)) else (if (false || (!true)) = true then (.ret ((Str.ofString "wrong"), v_reader)) else (.req ((v_e_given.natAbs.log2 < 1920) ∧ ((Str.ofString "refused ").length + (Str.ofString (toString v_e_given)).length ≤ sizeLine)) (.ret (((Str.ofString "refused ") ++ (Str.ofString (toString v_e_given))), v_reader)))))) (fun (v_reader : ReaderV) => .ret ((Str.ofString ""), v_reader))
def m_law (v_script : List Int) : Cmp Bool :=
  .req (((m_law_pool v_script (0 : Int) (14 : Int)).ok)) (.bnd ((m_law_pool v_script (0 : Int) (14 : Int)).val : List Int) fun v_pool_here => .req ((0 ≤ (6 : Int) ∧ (6 : Int) < (v_pool_here.length : Int)) ∧ (0 ≤ (7 : Int) ∧ (7 : Int) < (v_pool_here.length : Int)) ∧ ((m_Formula_read ((cS (ixS (Str.ofString "<>") ((ixL v_pool_here (6 : Int)) % (2 : Int)))) ++ (cS (ixS (Str.ofString "abc") ((ixL v_pool_here (7 : Int)) % (3 : Int)))))).ok)) (.bnd ((m_Formula_read ((cS (ixS (Str.ofString "<>") ((ixL v_pool_here (6 : Int)) % (2 : Int)))) ++ (cS (ixS (Str.ofString "abc") ((ixL v_pool_here (7 : Int)) % (3 : Int)))))).val : FormV) fun v_formula => .req (((m_Reader___init__ v_formula (7 : Int)).ok)) (.bnd ((m_Reader___init__ v_formula (7 : Int)).val : ReaderV) fun v_reader => .req (((m_Reader___init__ v_formula (2 : Int)).ok)) (.bnd ((m_Reader___init__ v_formula (2 : Int)).val : ReaderV) fun v_other => .bnd ((7 : Int) : Int) fun v_room => .bindR (forC (L := Unit) (R := Bool) (fun (v_k : Int) ((v_reader, v_room) : ReaderV × Int) => .req ((0 ≤ v_k ∧ v_k < (v_pool_here.length : Int)) ∧ (0 ≤ ((8 : Int) + v_k) ∧ ((8 : Int) + v_k) < (v_pool_here.length : Int)) ∧ ((m_law_number (ixL v_pool_here v_k) (ixL v_pool_here ((8 : Int) + v_k))).ok)) (.bnd ((m_law_number (ixL v_pool_here v_k) (ixL v_pool_here ((8 : Int) + v_k))).val : Int) fun v_number_here => .bnd ((Str.ofString "") : Str) fun v_due => .bind (if ((decide (v_number_here < (1 : Int))) || (decide (v_number_here > (1000 : Int)))) = true then (.req ((v_number_here.natAbs.log2 < 1920) ∧ ((Str.ofString "refused ").length + (Str.ofString (toString v_number_here)).length ≤ sizeLine)) (.bnd (((Str.ofString "refused ") ++ (Str.ofString (toString v_number_here))) : Str) fun v_due => .ret (v_room, v_due))) else (.bnd (v_number_here : Int) fun v_room => .ret (v_room, v_due)) : Cmp (Int × Str)) (fun ((v_room, v_due) : Int × Str) => iteM (orM (callM (methM (m_law_refused v_reader v_formula v_number_here) (fun (v_reader : ReaderV) => v_reader)) (fun (y_ : Str) => fun (v_reader : ReaderV) => True) (fun (y_ : Str) => fun (v_reader : ReaderV) => (!decide (y_ = v_due)))) (fun (v_reader : ReaderV) => .req (((m_law_refused_n () v_formula v_number_here).ok)) (.ret ((!decide ((m_law_refused_n () v_formula v_number_here).val = v_due)), v_reader)))) (fun (v_reader : ReaderV) => .ret (.rt false)) (fun (v_reader : ReaderV) => .req (((m_Reader_room v_reader).ok) ∧ (∀ (hb18 : false = false), (m_Reader_room v_reader).ok) ∧ (∀ (hb18 : false = false), ∀ (hb20 : (!true) = false), (m_Reader_room v_reader).ok)) (if (false || ((!true) || (!decide ((m_Reader_room v_reader).val = v_room)))) = true then (.ret (.rt false)) else (.req ((∀ (hb23 : (decide (v_due = (Str.ofString ""))) = true), (m_Reader___init__ v_formula v_number_here).ok) ∧ (∀ (hb23 : (decide (v_due = (Str.ofString ""))) = true), (m_Reader_room ((m_Reader___init__ v_formula v_number_here).val)).ok)) (if ((decide (v_due = (Str.ofString ""))) && (!decide ((m_Reader_room ((m_Reader___init__ v_formula v_number_here).val)).val = v_number_here))) = true then (.ret (.rt false)) else (.ret (.nx (v_reader, v_room)))))))))) (rangeL 0 (6 : Int)) (v_reader, v_room)) (fun ((v_reader, v_room) : ReaderV × Int) => .req (((m_Reader_room v_other).ok)) (.ret ((decide ((m_Reader_room v_other).val = (2 : Int))) && (decide ((1000 : Int) = (1000 : Int))))))))))
end DL

set_option Elab.async false
set_option linter.all false
set_option maxRecDepth 100000
set_option maxHeartbeats 4000000
namespace DL
open PySem PySem.Spec PyProof.Rows L2 TL
def top (i : Nat) : Stmt := PySem.Challenge.pw_unbettered_k35_rooms_of_a_reader.main.body.getD i (.Pass ⟨0, 0, 0, 0⟩)
section
variable {P : Program} {w : World} {K : PySem.W.Frag} {mg : Str → Option Value} {base : Heap} {ad : Ads}{mcFormula mcReader uFormulaMOST uReaderMOST : Value}
def ar_law_pool (ad : Ads) (L : Om) (ds : List D) (es : List D) : Prop := ∃ (d_script : D) (v_script : List Int) (v_k : Int) (v_many : Int), ds = [d_script, D.int v_k, D.int v_many] ∧ Vw L d_script (v_script.map D.int) ∧ (m_law_pool v_script v_k v_many).ok ∧ es = (m_law_pool v_script v_k v_many).val.map D.int
abbrev s_law_pool : Stmt := top 29
abbrev N_law_pool : List Str := ["_law_script", "_law_k", "_law_many", "_law_cell", "_law_great", "_law_pool_here", "_law_j", "_law_i", "_law_first"]
theorem sc_law_pool : FnScope N_law_pool ["_law_script", "_law_k", "_law_many"] (defScope s_law_pool) := ⟨rfl, rfl, rfl, by decide +kernel, rfl, by decide +kernel, by decide +kernel⟩
theorem ok_law_pool {f : Addr} {fd : FuncData} (F : Fun K "_law_pool" "_law_pool" s_law_pool f fd) (b_len : mg "len" = none) (b_range : mg "range" = none) (b_int : mg "int" = none) : FnOk P w K mg base CX0 (1) f fd ["_law_script", "_law_k", "_law_many"] (spN K (ar_law_pool ad)) := by
  refine fn_newV F sc_law_pool (fun L ds d h => ?_) (fun cdv A outer s H E B ds d hr h => ?_)
  · obtain ⟨d_script, v_script, v_k, v_many, rfl, _⟩ := h; rfl
  · obtain ⟨d_script, v_script, v_k, v_many, rfl, w_script, hok, rfl⟩ := h
    have nd := sc_law_pool.nd
    refine (show JC _ B (defBody s_law_pool) [some (d_script), some (D.int v_k), some (D.int v_many), none, none, none, none, none, none] [] (aR (rtN D.int)) (m_law_pool v_script v_k v_many) from ?_) hok
    unfold m_law_pool
    refine jc_set (E := D.int) (v := ((0 : Int) : Int)) 3 nd ev_int (fun v_cell => ?_)
    show JC _ _ _ [some (d_script), some (D.int v_k), some (D.int v_many), some (D.int v_cell), none, none, none, none, none] _ _ _
    refine jc_seqN (st1 := (fun (v_cell : Int) (ρ : List (Option D)) (O : Om) => ρ = [some (d_script), some (D.int v_k), some (D.int v_many), some (D.int v_cell), none, none, none, none, none] ∧ O = [])) (jc1_ite (et_cmp op_lt rd_B0 (nm 1 rfl) (ev_conv (ev_callB call_len_seq (rc_len (Vw.vq (vwL w_script))) (by rfl) b_len PySem.boot_len (ea_cons (nm 0 rfl) ea_nil)) (by rw [List.length_map])) (nomark _)) (fun hc1 => ?_) (fun hc1 => ?_)) (fun v_cell _ _ hst => ?_)
    · refine jc_req fun h2 => ?_
      refine jc_set (E := D.int) (v := ((ixL v_script v_k) : Int)) 3 nd (ev_ixL (nm 0 rfl) (nm 1 rfl) (vwL w_script) (atG (E := D.int) h2)) (fun v_cell => ?_)
      show JC _ _ _ [some (d_script), some (D.int v_k), some (D.int v_many), some (D.int v_cell), none, none, none, none, none] _ _ _
      exact jc_nil ⟨_, (wk_some rfl (wk_some rfl (wk_some rfl (wk_some rfl (wk_nn (wk_nn (wk_nn (wk_nn (wk_nn wk_nil))))))))), rfl, rfl⟩
    · exact jc_nil ⟨_, (wk_some rfl (wk_some rfl (wk_some rfl (wk_some rfl (wk_nn (wk_nn (wk_nn (wk_nn (wk_nn wk_nil))))))))), rfl, rfl⟩
    obtain ⟨rfl, rfl⟩ := hst
    show JC _ _ _ [some (d_script), some (D.int v_k), some (D.int v_many), some (D.int v_cell), none, none, none, none, none] _ _ _
    refine jc_set (E := D.bl) (v := ((decide (v_cell ≥ (((10 : Int) : Int) ^ ((18 : Int) : Int).toNat))) : Bool)) 4 nd (ev_cmp op_ge rd_B0 (nm 3 rfl) (ev_op op_pow (rd_I ⟨by decide, by decide, by decide⟩) ev_int ev_int) (nomark _)) (fun v_great => ?_)
    show JC _ _ _ [some (d_script), some (D.int v_k), some (D.int v_many), some (D.int v_cell), some (D.bl v_great), none, none, none, none] _ _ _
    refine jc_setN (E := D.int) 5 nd (en_lst ea_nil (by show 0 ≤ sizeLine; decide)) (fun q3 v_pool_here _ => ?_)
    show JC _ _ _ [some (d_script), some (D.int v_k), some (D.int v_many), some (D.int v_cell), some (D.bl v_great), some (.rf q3), none, none, none] _ _ _
    refine jc_req fun h4 => ?_
    refine jc_seqN (st1 := (fun ((v_cell, v_pool_here) : Int × (List Int)) (ρ : List (Option D)) (O : Om) => ρ = [some (d_script), some (D.int v_k), some (D.int v_many), some (D.int v_cell), some (D.bl v_great), some (.rf q3), none, none, none] ∧ O = [(q3, M.lst (v_pool_here.map D.int))])) (jc1_for (E := D.int) PassesOwn.never rfl (ei_rng1 (by rfl) b_range (ea_cons (nm 2 rfl) ea_nil) h4) (bnm 6 nd) (fun ⟨v_cell, v_pool_here⟩ _ _ hst => by obtain ⟨rfl, rfl⟩ := hst; exact trivial) ⟨_, (wk_some rfl (wk_some rfl (wk_some rfl (wk_some rfl (wk_some rfl (wk_some rfl (wk_nn (wk_nn (wk_nn wk_nil))))))))), rfl, rfl⟩ (fun v_j ⟨v_cell, v_pool_here⟩ _ _ hst => ?_)) (fun ⟨v_cell, v_pool_here⟩ _ _ hst => ?_)
    · obtain ⟨rfl, rfl⟩ := hst
      refine ⟨_, rfl, ?_⟩
      show JC _ _ _ [some (d_script), some (D.int v_k), some (D.int v_many), some (D.int v_cell), some (D.bl v_great), some (.rf q3), some (D.int v_j), none, none] _ _ _
      refine jc_one (jc1_ite (et_w (ew_and (et_of (nm 4 rfl)) (fun hb5 => (ew_and1 (et_cmp op_gt rd_B0 (nm 3 rfl) ev_int (nomark _)))))) (fun hc6 => ?_) (fun hc6 => ?_))
      · refine jc_req fun h7 => ?_
        refine jc_append (E := D.int) (v := (v_cell % (1000 : Int))) (nm 5 rfl) (.head _) (ev_op op_mod (rd_I (by decide)) (ev_callTy call_int1 rc_int (by rfl) b_int (by decide +kernel) (ea_cons (nm 3 rfl) ea_nil)) ev_int) (fun _ => .head) h7 (fun v_pool_here => ?_)
        refine jc_set (E := D.int) (v := ((v_cell / (1000 : Int)) : Int)) 3 nd (ev_op op_fdiv (rd_I ⟨by decide, by decide⟩) (nm 3 rfl) ev_int) (fun v_cell => ?_)
        show JC _ _ _ [some (d_script), some (D.int v_k), some (D.int v_many), some (D.int v_cell), some (D.bl v_great), some (.rf q3), some (D.int v_j), none, none] _ _ _
        exact jc_nil ⟨_, (wk_some rfl (wk_some rfl (wk_some rfl (wk_some rfl (wk_some rfl (wk_some rfl (wk_none (wk_nn (wk_nn wk_nil))))))))), rfl, rfl⟩
      · refine jc_set (E := D.int) (v := ((v_j + ((11 : Int) * v_k)) : Int)) 7 nd (ev_op op_add rd_I0 (nm 6 rfl) (ev_op op_mul (rd_I (.inl ⟨by decide, by decide⟩)) ev_int (nm 1 rfl))) (fun v_i => ?_)
        show JC _ _ _ [some (d_script), some (D.int v_k), some (D.int v_many), some (D.int v_cell), some (D.bl v_great), some (.rf q3), some (D.int v_j), some (D.int v_i), none] _ _ _
        refine jc_set (E := D.int) (v := (((((v_cell * (37 : Int)) + (v_i * (71 : Int))) + (5 : Int)) % (509 : Int)) : Int)) 8 nd (ev_op op_mod (rd_I (by decide)) (ev_callTy call_int1 rc_int (by rfl) b_int (by decide +kernel) (ea_cons (ev_op op_add rd_I0 (ev_op op_add rd_I0 (ev_op op_mul (rd_I (.inr ⟨by decide, by decide⟩)) (nm 3 rfl) ev_int) (ev_op op_mul (rd_I (.inr ⟨by decide, by decide⟩)) (nm 7 rfl) ev_int)) ev_int) ea_nil)) ev_int) (fun v_first => ?_)
        show JC _ _ _ [some (d_script), some (D.int v_k), some (D.int v_many), some (D.int v_cell), some (D.bl v_great), some (.rf q3), some (D.int v_j), some (D.int v_i), some (D.int v_first)] _ _ _
        refine jc_req fun ⟨h8, h9⟩ => ?_
        refine jc_append (E := D.int) (v := ((((v_first * v_first) + v_cell) + (v_i * (13 : Int))) % (499 : Int))) (nm 5 rfl) (.head _) (ev_op op_mod (rd_I (by decide)) (ev_callTy call_int1 rc_int (by rfl) b_int (by decide +kernel) (ea_cons (ev_op op_add rd_I0 (ev_op op_add rd_I0 (ev_op op_mul (rd_I h8) (nm 8 rfl) (nm 8 rfl)) (nm 3 rfl)) (ev_op op_mul (rd_I (.inr ⟨by decide, by decide⟩)) (nm 7 rfl) ev_int)) ea_nil)) ev_int) (fun _ => .head) h9 (fun v_pool_here => ?_)
        exact jc_nil ⟨_, (wk_some rfl (wk_some rfl (wk_some rfl (wk_some rfl (wk_some rfl (wk_some rfl (wk_none (wk_none (wk_none wk_nil))))))))), rfl, rfl⟩
    obtain ⟨rfl, rfl⟩ := hst
    show JC _ _ _ [some (d_script), some (D.int v_k), some (D.int v_many), some (D.int v_cell), some (D.bl v_great), some (.rf q3), none, none, none] _ _ _
    exact jc_ret (nm 5 rfl) ⟨_, rfl, rfl⟩
def ar_constant_of (ad : Ads) (L : Om) (ds : List D) (d : D) : Prop := ∃ (v_text : Str), ds = [D.str v_text] ∧ (m_constant_of v_text).ok ∧ d = dO D.int ((m_constant_of v_text).val)
abbrev s_constant_of : Stmt := top 23
abbrev N_constant_of : List Str := ["text", "digits", "char"]
theorem sc_constant_of : FnScope N_constant_of ["text"] (defScope s_constant_of) := ⟨rfl, rfl, rfl, by decide +kernel, rfl, by decide +kernel, by decide +kernel⟩
theorem ok_constant_of {f : Addr} {fd : FuncData} (F : Fun K "constant_of" "constant_of" s_constant_of f fd) (b_len : mg "len" = none) (b_int : mg "int" = none) : FnOk P w K mg base CX0 (1) f fd ["text"] (spP K (ar_constant_of ad)) := by
  refine fn_pureV F sc_constant_of (fun L ds d h => ?_) (fun cdv A outer s H E B ds d hr h => ?_)
  · obtain ⟨v_text, rfl, _⟩ := h; rfl
  · obtain ⟨v_text, rfl, hok, rfl⟩ := h
    have nd := sc_constant_of.nd
    refine (show JC _ B (defBody s_constant_of) [some (D.str v_text), none, none] [] (aR (rtP (dO D.int))) (m_constant_of v_text) from ?_) hok
    unfold m_constant_of
    refine jc_req fun ⟨h1, h2, h4⟩ => ?_
    refine jc_set (E := D.str) (v := ((if (decide ((cS (ixS v_text (0 : Int))) = (Str.ofString "-"))) = true then (cutS v_text (some (1 : Int)) none) else v_text) : Str)) 1 nd (ev_ifG (E := D.str) (et_cmp op_eq rd_eqS (ev_ixS (nm 0 rfl) ev_int h2 (atS2 h1)) ev_str (nomark _)) (fun hb3 => (ev_sliceS (nm 0 rfl) (eo_some ev_int) eo_none (h4 hb3))) (fun hb3 => (nm 0 rfl))) (fun v_digits => ?_)
    show JC _ _ _ [some (D.str v_text), some (D.str v_digits), none] _ _ _
    refine jc_req fun h5 => ?_
    refine jc_ifr (et_not (et_chainI op_le op_le ev_int (ev_callB call_len_str (rc_lenS h5) rfl b_len PySem.boot_len (ea_cons (nm 1 rfl) ea_nil)) ev_int)) (fun hc6 => ?_) (fun hc6 => ?_)
    · exact jc_ret (d := dO D.int (none : Option Int)) ev_non (.refl _)
    · refine jc_seqR (st1 := (fun (_ : Unit) (ρ : List (Option D)) (O : Om) => ρ = [some (D.str v_text), some (D.str v_digits), none] ∧ O = [])) (sl := fun (_ : Unit) _ _ => False) (ex := fun _ _ _ _ _ _ => False) (jc1_forC (E := eC) PassesOwn.never rfl (ei_chars (nm 1 rfl)) (bnm 2 nd) (fun _ _ _ hst => by obtain ⟨rfl, rfl⟩ := hst; exact trivial) ⟨_, (wk_some rfl (wk_some rfl (wk_nn wk_nil))), rfl, rfl⟩ (fun v_char _ _ _ hst => ?_)) (fun _ _ _ hst => ?_)
      · obtain ⟨rfl, rfl⟩ := hst
        refine ⟨_, rfl, ?_⟩
        show JC _ _ _ [some (D.str v_text), some (D.str v_digits), some (eC v_char)] _ _ _
        refine jc_one (jc1_ite (et_cmp op_notIn_sign rd_notinC (nm 2 rfl) ev_str (by rfl)) (fun hc7 => ?_) (fun hc7 => ?_))
        · exact jc_ret (d := dO D.int (none : Option Int)) ev_non (.refl _)
        · exact jc_nil ⟨_, (wk_some rfl (wk_some rfl (wk_none wk_nil))), rfl, rfl⟩
      obtain ⟨rfl, rfl⟩ := hst
      show JC _ _ _ [some (D.str v_text), some (D.str v_digits), none] _ _ _
      refine jc_req fun h8 => ?_
      refine jc_ifr (et_w (ew_and (et_cmp op_eq rd_eqS (ev_ixS (nm 1 rfl) ev_int h5 (atS2 h8)) ev_str (nomark _)) (fun hb9 => (ew_and1 (et_cmp op_ne rd_neS (nm 0 rfl) ev_str (nomark _)))))) (fun hc10 => ?_) (fun hc10 => ?_)
      · exact jc_ret (d := dO D.int (none : Option Int)) ev_non (.refl _)
      · refine jc_req fun h11 => ?_
        exact jc_ret (d := dO D.int ((some (intD v_text)) : Option Int)) (ev_callTy call_int_str (rc_intD h11) rfl b_int (by decide +kernel) (ea_cons (nm 0 rfl) ea_nil)) (.refl _)
def ar_decoded (ad : Ads) (L : Om) (ds : List D) (d : D) : Prop := ∃ (v_word : Str), ds = [D.str v_word] ∧ (m_decoded v_word).ok ∧ d = dO (dP3 D.str D.int D.int) ((m_decoded v_word).val)
abbrev s_decoded : Stmt := top 22
abbrev N_decoded : List Str := ["word", "constant"]
theorem sc_decoded : FnScope N_decoded ["word"] (defScope s_decoded) := ⟨rfl, rfl, rfl, by decide +kernel, rfl, by decide +kernel, by decide +kernel⟩
theorem ok_decoded {f : Addr} {fd : FuncData} (F : Fun K "decoded" "decoded" s_decoded f fd) (g_OPERANDS : mg "OPERANDS" = some (.ref ad.aOPERANDS)) (kd_OPERANDS : KDi K w ad.aOPERANDS (fun z => (opsT z).map D.int)) (b_len : mg "len" = none) (g_COLUMNS : ∃ t, mg "COLUMNS" = some (.str "abc" t)) (c_constant_of : Cal P w K mg base CX0 1 "constant_of" (spP K (ar_constant_of ad))) : FnOk P w K mg base CX0 (2) f fd ["word"] (spP K (ar_decoded ad)) := by
  refine fn_pureV F sc_decoded (fun L ds d h => ?_) (fun cdv A outer s H E B ds d hr h => ?_)
  · obtain ⟨v_word, rfl, _⟩ := h; rfl
  · obtain ⟨v_word, rfl, hok, rfl⟩ := h
    have nd := sc_decoded.nd
    refine (show JC _ B (defBody s_decoded) [some (D.str v_word), none] [] (aR (rtP (dO (dP3 D.str D.int D.int)))) (m_decoded v_word) from ?_) hok
    unfold m_decoded
    refine jc_ifr (et_inDT kd_OPERANDS (nm 0 rfl) (ev_glob (v := .ref ad.aOPERANDS) rfl g_OPERANDS rfl (fun _ => .rf _)) (by rfl)) (fun hc1 => ?_) (fun hc1 => ?_)
    · exact jc_ret (d := dO (dP3 D.str D.int D.int) ((some (v_word, (-(1 : Int)), (0 : Int))) : Option (Str × Int × Int))) (ev_tup (ea_cons (nm 0 rfl) (ea_cons (ev_neg ev_int) (ea_cons ev_int ea_nil))) (by show 3 ≤ sizeLine; decide)) (.refl _)
    · refine jc_req fun ⟨h2, h4, h5, h7, h8⟩ => ?_
      refine jc_ifr (et_w (ew_and (et_cmp op_eq rd_eqI (ev_callB call_len_str (rc_lenS h2) rfl b_len PySem.boot_len (ea_cons (nm 0 rfl) ea_nil)) ev_int (nomark _)) (fun hb3 => (ew_and (et_cmp op_in_sign rd_inC (ev_ixS (nm 0 rfl) ev_int (h5 hb3) (atS2 (h4 hb3))) ev_str (by rfl)) (fun hb6 => (ew_and1 (et_cmp op_in_sign rd_inC (ev_ixS (nm 0 rfl) ev_int (h8 hb3 hb6) (atS2 (h7 hb3 hb6))) (ev_globS rfl g_COLUMNS) (by rfl)))))))) (fun hc9 => ?_) (fun hc9 => ?_)
      · refine jc_req fun ⟨h10, h11⟩ => ?_
        exact jc_ret (d := dO (dP3 D.str D.int D.int) ((some ((cS (ixS v_word (0 : Int))), (Txt.find (Str.ofString "abc") (cS (ixS v_word (1 : Int)))), (0 : Int))) : Option (Str × Int × Int))) (ev_tup (ea_cons (ev_ixS (nm 0 rfl) ev_int h2 (atS2 h10)) (ea_cons (ev_find (ev_globS rfl g_COLUMNS) (ev_ixS (nm 0 rfl) ev_int h2 (atS2 h11))) (ea_cons ev_int ea_nil))) (by show 3 ≤ sizeLine; decide)) (.refl _)
      · refine jc_req fun ⟨h13, h15⟩ => ?_
        refine jc_ifr (et_w (ew_or (et_cmp op_lt rd_B0 (ev_callB call_len_str (rc_lenS h2) rfl b_len PySem.boot_len (ea_cons (nm 0 rfl) ea_nil)) ev_int (nomark _)) (fun hb12 => (ew_or (et_cmp op_notIn_sign rd_notinC (ev_ixS (nm 0 rfl) ev_int h2 (atS2 (h13 hb12))) (ev_globS rfl g_COLUMNS) (by rfl)) (fun hb14 => (ew_or1 (et_cmp op_notIn_sign rd_notinC (ev_ixS (nm 0 rfl) ev_int h2 (atS2 (h15 hb12 hb14))) ev_str (by rfl)))))))) (fun hc16 => ?_) (fun hc16 => ?_)
        · exact jc_ret (d := dO (dP3 D.str D.int D.int) (none : Option (Str × Int × Int))) ev_non (.refl _)
        · refine jc_req fun h17 => ?_
          refine jc_set (E := dO D.int) (v := ((m_constant_of (cutS v_word (some (2 : Int)) none)).val : Option Int)) 1 nd (ev_call c_constant_of (hr.mono (by first | decide | omega)) rfl (ea_cons (ev_sliceS (nm 0 rfl) (eo_some ev_int) eo_none h2) ea_nil) (by exact ⟨(cutS v_word (some (2 : Int)) none), rfl, h17, rfl⟩)) (fun v_constant => ?_)
          show JC _ _ _ [some (D.str v_word), some (dO D.int v_constant)] _ _ _
          refine jc_ifr (et_isN (nm 1 rfl) (fun y => rfl)) (fun hc18 => ?_) (fun hc18 => ?_)
          · exact jc_ret (d := dO (dP3 D.str D.int D.int) (none : Option (Str × Int × Int))) ev_non (.refl _)
          · refine jc_req fun ⟨h19, h20, h21⟩ => ?_
            exact jc_ret (d := dO (dP3 D.str D.int D.int) ((some (((Str.ofString "row") ++ (cS (ixS v_word (1 : Int)))), (Txt.find (Str.ofString "abc") (cS (ixS v_word (0 : Int)))), (v_constant.getD default))) : Option (Str × Int × Int))) (ev_tup (ea_cons (ev_op op_add_str (rd_addS (by show 3 + 1 ≤ sizeLine; decide)) ev_str (ev_ixS (nm 0 rfl) ev_int h2 (atS2 h19))) (ea_cons (ev_find (ev_globS rfl g_COLUMNS) (ev_ixS (nm 0 rfl) ev_int h2 (atS2 h20))) (ea_cons (ev_some (nm 1 rfl) h21) ea_nil))) (by show 3 ≤ sizeLine; decide)) (.refl _)
def ar_Formula___init__ (ad : Ads) (L : Om) (ds : List D) (ns : List Str) (fs : List D) : Prop := ∃ (d_words : D) (v_words : List Str), ds = [d_words] ∧ Vq L d_words (v_words.map D.str) ∧ (m_Formula___init__ v_words).ok ∧ ns = fFForm ∧ fs = fVForm (m_Formula___init__ v_words).val
abbrev s_Formula___init__ : Stmt := inClass (top 21) 1
abbrev N_Formula___init__ : List Str := ["self", "words", "code", "missing", "at", "word", "step"]
theorem sc_Formula___init__ : FnScope N_Formula___init__ ["self", "words"] (defScope s_Formula___init__) := ⟨rfl, rfl, rfl, by decide +kernel, rfl, by decide +kernel, by decide +kernel⟩
theorem ok_Formula___init__ {f : Addr} {fd : FuncData} (F : Fun K "__init__" "Formula.__init__" s_Formula___init__ f fd) (b_len : mg "len" = none) (rd_Formula : ClX.CRead K ad.CFormula mcFormula) (cv_Formula_MOST : ClX.CVal K ad.CFormula mcFormula "MOST" (.int 40) uFormulaMOST) (g_Formula : mg "Formula" = some (.ref ad.CFormula)) (b_enumerate : mg "enumerate" = none) (c_decoded : Cal P w K mg base CX0 2 "decoded" (spP K (ar_decoded ad))) (g_OPERANDS : mg "OPERANDS" = some (.ref ad.aOPERANDS)) (kd_OPERANDS : KDi K w ad.aOPERANDS (fun z => (opsT z).map D.int)) (b_tuple : mg "tuple" = none) (k_Formula : Cls K ad.CFormula) (na_Formula_code : NoAttr K ad.CFormula "code") (na_Formula_words : NoAttr K ad.CFormula "words") : FnOk P w K mg base CX0 (3) f fd ["self", "words"] (spI K ad.CFormula (ar_Formula___init__ ad)) := by
  refine fn_init F sc_Formula___init__ (fun L ds d fs h => ?_) (fun cdv A outer s H E B x_self ds d fs hr h => ?_)
  · obtain ⟨d_words, v_words, rfl, _⟩ := h; rfl
  · obtain ⟨d_words, v_words, rfl, w_words, hok, rfl, rfl⟩ := h
    have nd := sc_Formula___init__.nd
    refine (show JC _ B (defBody s_Formula___init__) [some (.rf x_self), some (d_words), none, none, none, none, none] [(x_self, .ins ad.CFormula [] [])] (fun r => { nx := fun _ O' => ∃ fs' O1, O' = O1 ++ [(x_self, .ins ad.CFormula fFForm fs')] ∧ FrzL O1 fs' (fVForm r), rt := fun _ _ => False }) (m_Formula___init__ v_words) from ?_) hok
    unfold m_Formula___init__
    refine jc_ifr (et_cmp op_gt rd_B0 (ev_conv (ev_callB call_len_seq (rc_len (vqL w_words)) (by rfl) b_len PySem.boot_len (ea_cons (nm 1 rfl) ea_nil)) (by rw [List.length_map])) (ev_cval (ev_glob (v := .ref ad.CFormula) rfl g_Formula rfl (fun _ => .rf _)) rd_Formula cv_Formula_MOST (fun _ => .int _)) (nomark _)) (fun hc1 => ?_) (fun hc1 => ?_)
    · exact fun z => z.elim
    · refine jc_setN (E := dP3 D.str D.int D.int) 2 nd (en_lst ea_nil (by show 0 ≤ sizeLine; decide)) (fun q2 v_code _ => ?_)
      show JC _ _ _ [some (.rf x_self), some (d_words), some (.rf q2), none, none, none, none] _ _ _
      refine jc_set (E := D.int) (v := ((1 : Int) : Int)) 3 nd ev_int (fun v_missing => ?_)
      show JC _ _ _ [some (.rf x_self), some (d_words), some (.rf q2), some (D.int v_missing), none, none, none] _ _ _
      refine jc_seqN (st1 := (fun ((v_code, v_missing) : (List (Str × Int × Int)) × Int) (ρ : List (Option D)) (O : Om) => ρ = [some (.rf x_self), some (d_words), some (.rf q2), some (D.int v_missing), none, none, none] ∧ O = [(q2, M.lst (v_code.map (dP3 D.str D.int D.int))), (x_self, M.ins ad.CFormula [] [])])) (jc1_for (E := dP2 D.int D.str) PassesOwn.never rfl (ei_enumT (by rfl) b_enumerate (ea_cons (nm 1 rfl) ea_nil) (vqL w_words)) (eb_tup rfl (ebs_cons (bnm 4 nd) (ebs_cons (bnm 5 nd) ebs_nil)) (bcons_len (bcons_len bnil_len))) (fun ⟨v_code, v_missing⟩ _ _ hst => by obtain ⟨rfl, rfl⟩ := hst; exact (vqL w_words)) ⟨_, (wk_some rfl (wk_some rfl (wk_some rfl (wk_some rfl (wk_nn (wk_nn (wk_nn wk_nil))))))), rfl, rfl⟩ (fun ⟨v_at, v_word⟩ ⟨v_code, v_missing⟩ _ _ hst => ?_)) (fun ⟨v_code, v_missing⟩ _ _ hst => ?_)
      · obtain ⟨rfl, rfl⟩ := hst
        refine ⟨_, rfl, ?_⟩
        show JC _ _ _ [some (.rf x_self), some (d_words), some (.rf q2), some (D.int v_missing), some (D.int v_at), some (D.str v_word), none] _ _ _
        refine jc_req fun h3 => ?_
        refine jc_set (E := dO (dP3 D.str D.int D.int)) (v := ((m_decoded v_word).val : Option (Str × Int × Int))) 6 nd (ev_call c_decoded (hr.mono (by first | decide | omega)) rfl (ea_cons (nm 5 rfl) ea_nil) (by exact ⟨v_word, rfl, h3, rfl⟩)) (fun v_step => ?_)
        show JC _ _ _ [some (.rf x_self), some (d_words), some (.rf q2), some (D.int v_missing), some (D.int v_at), some (D.str v_word), some (dO (dP3 D.str D.int D.int) v_step)] _ _ _
        refine jc_ifr (et_w (ew_or (et_cmp op_eq rd_eqI (nm 3 rfl) ev_int (nomark _)) (fun hb4 => (ew_or1 (et_isN (nm 6 rfl) (fun y => rfl)))))) (fun hc5 => ?_) (fun hc5 => ?_)
        · exact fun z => z.elim
        · refine jc_set (E := D.int) (v := (((v_missing + ((opsT v_word).getD (0 : Int))) - (1 : Int)) : Int)) 3 nd (ev_op op_sub rd_I0 (ev_op op_add rd_I0 (nm 3 rfl) (ev_getDT (E := D.int) kd_OPERANDS (ev_glob (v := .ref ad.aOPERANDS) rfl g_OPERANDS rfl (fun _ => .rf _)) (nm 5 rfl) ev_int)) ev_int) (fun v_missing => ?_)
          show JC _ _ _ [some (.rf x_self), some (d_words), some (.rf q2), some (D.int v_missing), some (D.int v_at), some (D.str v_word), some (dO (dP3 D.str D.int D.int) v_step)] _ _ _
          refine jc_req fun ⟨h6, h7⟩ => ?_
          refine jc_append (E := dP3 D.str D.int D.int) (v := (v_step.getD default)) (nm 2 rfl) (.head _) (ev_some (nm 6 rfl) h6) (fun _ => .head) h7 (fun v_code => ?_)
          exact jc_nil ⟨_, (wk_some rfl (wk_some rfl (wk_some rfl (wk_some rfl (wk_none (wk_none (wk_none wk_nil))))))), rfl, rfl⟩
      obtain ⟨rfl, rfl⟩ := hst
      show JC _ _ _ [some (.rf x_self), some (d_words), some (.rf q2), some (D.int v_missing), none, none, none] _ _ _
      refine jc_ifr (et_cmp op_gt rd_B0 (nm 3 rfl) ev_int (nomark _)) (fun hc8 => ?_) (fun hc8 => ?_)
      · exact fun z => z.elim
      · refine jc_fldNew (E := dU D.str) (v := (v_words : List Str)) (nm 0 rfl) (ev_callTy call_tuple_of (rc_tuple (vqL w_words)) rfl b_tuple (by decide +kernel) (ea_cons (nm 1 rfl) ea_nil)) k_Formula na_Formula_words (fun _ => .tail (.head)) (by decide +kernel) (by decide) (fun v_self_words => ?_)
        refine jc_fldNew (E := dL (dP3 D.str D.int D.int)) (v := (v_code.reverse : List (Str × Int × Int))) (nm 0 rfl) (ev_new (en_conv (en_rev (nm 2 rfl) (Vs.vw (vsM (.head _)))) (by rw [List.map_reverse]))) k_Formula na_Formula_code (fun _ => .tail (.head)) (by decide +kernel) (by decide) (fun v_self_code => ?_)
        refine jc_drp (.head) ?_
        exact jc_nil ⟨_, [], rfl, .refl _⟩
def ar_Formula_read (ad : Ads) (L : Om) (ds : List D) (d : D) : Prop := ∃ (v_text : Str), ds = [.rf ad.CFormula, D.str v_text] ∧ (m_Formula_read v_text).ok ∧ d = (eForm ad) ((m_Formula_read v_text).val)
abbrev s_Formula_read : Stmt := inClass (top 21) 2
abbrev N_Formula_read : List Str := ["cls", "text"]
theorem sc_Formula_read : FnScope N_Formula_read ["cls", "text"] (defScope s_Formula_read) := ⟨rfl, rfl, rfl, by decide +kernel, rfl, by decide +kernel, by decide +kernel⟩
theorem ok_Formula_read {f : Addr} {fd : FuncData} (F : Fun K "read" "Formula.read" s_Formula_read f fd) (mk_Formula : Mk K ad.CFormula ad.f_Formula___init__) (i_Formula : Fok P w K mg base CX0 3 ad.f_Formula___init__ (spI K ad.CFormula (ar_Formula___init__ ad))) : FnOk P w K mg base CX0 (5) f fd ["cls", "text"] (spP K (ar_Formula_read ad)) := by
  refine fn_pureV F sc_Formula_read (fun L ds d h => ?_) (fun cdv A outer s H E B ds d hr h => ?_)
  · obtain ⟨v_text, rfl, _⟩ := h; rfl
  · obtain ⟨v_text, rfl, hok, rfl⟩ := h
    have nd := sc_Formula_read.nd
    refine (show JC _ B (defBody s_Formula_read) [some (.rf ad.CFormula), some (D.str v_text)] [] (aR (rtP (eForm ad))) (m_Formula_read v_text) from ?_) hok
    unfold m_Formula_read
    refine jc_req fun ⟨h1, h2⟩ => ?_
    exact jc_ret (d := (eForm ad) ((m_Formula___init__ (Txt.split v_text (Str.ofString " "))).val : FormV)) (ev_makeL 0 rfl mk_Formula i_Formula (hr.mono (by first | decide | omega)) (ea_cons (ev_new (en_split (nm 1 rfl) ev_str (by decide +kernel) h1)) ea_nil) (by exact ⟨_, (Txt.split v_text (Str.ofString " ")), rfl, (Vw.vq (Vs.vw vsI)), h2, rfl, rfl⟩)) (.refl _)
def ax_Reader_room_setter_new (ad : Ads) (L O : Om) (ds : List D) (out : OutE) : Prop := ∃ (q_self : Addr) (v_self : Reader0V) (v_value : Int), O = [(q_self, M.ins ad.CReader fFReader0 ((fVReader0 ad) v_self))] ∧ ds = [.rf q_self, D.int v_value] ∧ (mx_Reader_room_setter_new v_self v_value).ended.ok ∧ out = outXE (ceT ad) (fun _ => .non) (fun (v_self : ReaderV) => ([(q_self, M.ins ad.CReader fFReader ((fVReader ad) v_self))] : Om)) [(q_self, M.ins ad.CReader fFReader0 ((fVReader0 ad) v_self))] (mx_Reader_room_setter_new v_self v_value).ended.val
def ar_Reader_room_setter_new (ad : Ads) (L O : Om) (ds : List D) (d : D) (O2 : Om) : Prop := ∃ (q_self : Addr) (v_self : Reader0V) (v_value : Int), O = [(q_self, M.ins ad.CReader fFReader0 ((fVReader0 ad) v_self))] ∧ ds = [.rf q_self, D.int v_value] ∧ (m_Reader_room_setter_new v_self v_value).ok ∧ d = .non ∧ O2 = (fun (v_self : ReaderV) => ([(q_self, M.ins ad.CReader fFReader ((fVReader ad) v_self))] : Om)) (m_Reader_room_setter_new v_self v_value).val.2
abbrev s_Reader_room_setter_new : Stmt := inClass (top 9) 3
abbrev N_Reader_room_setter_new : List Str := ["self", "value"]
theorem sc_Reader_room_setter_new : FnScope N_Reader_room_setter_new ["self", "value"] (defScope s_Reader_room_setter_new) := ⟨rfl, rfl, rfl, by decide +kernel, rfl, by decide +kernel, by decide +kernel⟩
theorem okx_Reader_room_setter_new {f : Addr} {fd : FuncData} (F : Fun K "room" "Reader.room" s_Reader_room_setter_new f fd) (rd_Reader : ClX.CRead K ad.CReader mcReader) (cv_Reader_MOST : ClX.CVal K ad.CReader mcReader "MOST" (.int 1000) uReaderMOST) (g_Reader : mg "Reader" = some (.ref ad.CReader)) (e_BadRoom : PySem.ErX.ErrT P K mg ad.CBadRoom ad.f_BadRoom___init__ "given") (g_BadRoom : mg "BadRoom" = some (.ref ad.CBadRoom)) (k_Reader : Cls K ad.CReader) (na_Reader_space : NoAttr K ad.CReader "space") : FnOk P w K mg base (L2.CX P w) (1) f fd ["self", "value"] (spEX K (ax_Reader_room_setter_new ad)) := by
  refine fn_effX F sc_Reader_room_setter_new (fun L O ds out h => ?_) (fun cdv A outer s H E B O ds out hr tk po_ h => ?_)
  · obtain ⟨q_self, v_self, v_value, _, rfl, _⟩ := h; rfl
  · obtain ⟨q_self, v_self, v_value, rfl, rfl, hok, rfl⟩ := h
    have nd := sc_Reader_room_setter_new.nd
    refine j_outXEn hok (show JC _ B (defBody s_Reader_room_setter_new) [some (.rf q_self), some (D.int v_value)] [(q_self, M.ins ad.CReader fFReader0 ((fVReader0 ad) v_self))] (aC (S := ReaderV) (L := Unit) (R := Unit × ReaderV) (fun s _ O' => ∃ O1, O' = O1 ++ (fun (v_self : ReaderV) => ([(q_self, M.ins ad.CReader fFReader ((fVReader ad) v_self))] : Om)) s) (fun _ _ _ => False) (rtE (fun _ => .non) (fun (v_self : ReaderV) => ([(q_self, M.ins ad.CReader fFReader ((fVReader ad) v_self))] : Om))) (exqO (ceT ad) [(q_self, M.ins ad.CReader fFReader0 ((fVReader0 ad) v_self))])) (mx_Reader_room_setter_new v_self v_value) from ?_)
    unfold mx_Reader_room_setter_new
    refine jc_ifr (et_not (et_chainI op_le op_le ev_int (nm 1 rfl) (ev_cval (ev_glob (v := .ref ad.CReader) rfl g_Reader rfl (fun _ => .rf _)) rd_Reader cv_Reader_MOST (fun _ => .int _)))) (fun hc1 => ?_) (fun hc1 => ?_)
    · exact jc_raise (ce := ceT ad) (er := 8) (m := .non) rfl e_BadRoom g_BadRoom hr tk rfl (nm 1 rfl) (And.intro (And.intro rfl (And.intro rfl rfl)) rfl)
    · refine jc_fldM (vals := (fVReader0 ad)) (vals' := (fVReader ad)) (s := v_self) (nm 0 rfl) (nm 1 rfl) k_Reader na_Reader_space (.inr ⟨by decide +kernel, rfl, rfl⟩) (by decide) (fun _ => .head) (fun v_self => ?_)
      exact jc_nil ⟨_, wk_refl, [], rfl⟩
theorem okc_Reader_room_setter_new {f : Addr} {fd : FuncData} (F : FnOk P w K mg base (L2.CX P w) (1) f fd ["self", "value"] (spEX K (ax_Reader_room_setter_new ad))) : FnOk P w K mg base CX0 (1) f fd ["self", "value"] (spE K (ar_Reader_room_setter_new ad)) := fn_calmE F fun L O ds d O2 h => by
  obtain ⟨q_self, v_self, v_value, rfl, rfl, hok, rfl, rfl⟩ := h
  obtain ⟨h1, h2⟩ := calm_ok hok
  exact ⟨q_self, v_self, v_value, rfl, rfl, h1, by rw [h2]; rfl⟩
def ax_Reader___init__ (ad : Ads) (L : Om) (ds : List D) (out : OutI) : Prop := ∃ (v_formula : FormV) (v_room : Int), ds = [(eForm ad) v_formula, D.int v_room] ∧ (mx_Reader___init__ v_formula v_room).made.ok ∧ FlatX (mx_Reader___init__ v_formula v_room).made.val ∧ out = outXI (ceT ad) fFReader (fVReader ad) (mx_Reader___init__ v_formula v_room).made.val
def ar_Reader___init__ (ad : Ads) (L : Om) (ds : List D) (ns : List Str) (fs : List D) : Prop := ∃ (v_formula : FormV) (v_room : Int), ds = [(eForm ad) v_formula, D.int v_room] ∧ (m_Reader___init__ v_formula v_room).ok ∧ ns = fFReader ∧ fs = (fVReader ad) (m_Reader___init__ v_formula v_room).val
abbrev s_Reader___init__ : Stmt := inClass (top 9) 1
abbrev N_Reader___init__ : List Str := ["self", "formula", "room"]
theorem sc_Reader___init__ : FnScope N_Reader___init__ ["self", "formula", "room"] (defScope s_Reader___init__) := ⟨rfl, rfl, rfl, by decide +kernel, rfl, by decide +kernel, by decide +kernel⟩
theorem okx_Reader___init__ {f : Addr} {fd : FuncData} (F : Fun K "__init__" "Reader.__init__" s_Reader___init__ f fd) (Fxps_Reader_room : Fok P w K mg base (L2.CX P w) 1 ad.f_Reader_room_setter_new (spEX K (ax_Reader_room_setter_new ad))) (ps_Reader_room : PSetOf K ad.CReader "room" ad.p_Reader_room ad.f_Reader_room_setter_new) (k_Reader : Cls K ad.CReader) (na_Reader_passes : NoAttr K ad.CReader "passes") (na_Reader_formula : NoAttr K ad.CReader "formula") : FnOk P w K mg base (L2.CX P w) (4) f fd ["self", "formula", "room"] (spXI K ad.CReader (ax_Reader___init__ ad)) := by
  refine fn_initX F sc_Reader___init__ (fun L ds out h => ?_) (fun cdv A outer s H E B x_self ds out hr tk po_ h => ?_)
  · obtain ⟨v_formula, v_room, rfl, _⟩ := h; rfl
  · obtain ⟨v_formula, v_room, rfl, hok, hfl, rfl⟩ := h
    have nd := sc_Reader___init__.nd
    refine j_outXI hok (show JC _ B (defBody s_Reader___init__) [some (.rf x_self), some ((eForm ad) v_formula), some (D.int v_room)] [(x_self, .ins ad.CReader [] [])] (aC (S := ReaderV) (L := Unit) (R := Unit) (fun v _ O' => ∃ fs' O1, O' = O1 ++ [(x_self, .ins ad.CReader fFReader fs')] ∧ FrzL O1 fs' ((fVReader ad) v)) (fun _ _ _ => False) (fun _ _ _ => False) (exq (ceT ad))) (mx_Reader___init__ v_formula v_room) from ?_)
    unfold mx_Reader___init__
    refine jc_fldNew (E := (eForm ad)) (v := (v_formula : FormV)) (nm 0 rfl) (nm 1 rfl) k_Reader na_Reader_formula (fun _ => .head) (by decide +kernel) (by decide) (fun v_self_formula => ?_)
    refine jc_fldNew (E := D.int) (v := ((0 : Int) : Int)) (nm 0 rfl) ev_int k_Reader na_Reader_passes (fun _ => .head) (by decide +kernel) (by decide) (fun v_self_passes => ?_)
    refine jc_psetX' (ce := ceT ad) (vals := (fVReader0 ad)) (vals' := (fVReader ad)) (s := (⟨v_self_formula, v_self_passes⟩ : Reader0V)) (mc := (mx_Reader_room_setter_new (⟨v_self_formula, v_self_passes⟩ : Reader0V) v_room).ended) (nm 0 rfl) (nm 2 rfl) k_Reader ps_Reader_room Fxps_Reader_room (hr.mono (by first | decide | omega)) tk (.head _) (fun _ => .head) (fun hok _ _ => by exact ⟨_, ⟨v_self_formula, v_self_passes⟩, v_room, rfl, rfl, hok, rfl⟩) (fun er => (And.intro rfl (And.intro rfl rfl))) default (fun v_self_w => ?_)
    exact jc_nil ⟨_, wk_refl, _, [], rfl, .refl _⟩
theorem okc_Reader___init__ {f : Addr} {fd : FuncData} (F : FnOk P w K mg base (L2.CX P w) (4) f fd ["self", "formula", "room"] (spXI K ad.CReader (ax_Reader___init__ ad))) : FnOk P w K mg base CX0 (4) f fd ["self", "formula", "room"] (spI K ad.CReader (ar_Reader___init__ ad)) := fn_calmI F fun L ds ns fs h => by
  obtain ⟨v_formula, v_room, rfl, hok, rfl, rfl⟩ := h
  obtain ⟨h1, h2⟩ := calm_ok hok
  exact ⟨v_formula, v_room, rfl, h1, by rw [h2]; trivial, by rw [h2]; rfl⟩
def ax_Reader_room_setter (ad : Ads) (L O : Om) (ds : List D) (out : OutE) : Prop := ∃ (q_self : Addr) (v_self : ReaderV) (v_value : Int), O = [(q_self, M.ins ad.CReader fFReader ((fVReader ad) v_self))] ∧ ds = [.rf q_self, D.int v_value] ∧ (mx_Reader_room_setter v_self v_value).ended.ok ∧ out = outXE (ceT ad) (fun _ => .non) (fun (v_self : ReaderV) => ([(q_self, M.ins ad.CReader fFReader ((fVReader ad) v_self))] : Om)) [(q_self, M.ins ad.CReader fFReader ((fVReader ad) v_self))] (mx_Reader_room_setter v_self v_value).ended.val
def ar_Reader_room_setter (ad : Ads) (L O : Om) (ds : List D) (d : D) (O2 : Om) : Prop := ∃ (q_self : Addr) (v_self : ReaderV) (v_value : Int), O = [(q_self, M.ins ad.CReader fFReader ((fVReader ad) v_self))] ∧ ds = [.rf q_self, D.int v_value] ∧ (m_Reader_room_setter v_self v_value).ok ∧ d = .non ∧ O2 = (fun (v_self : ReaderV) => ([(q_self, M.ins ad.CReader fFReader ((fVReader ad) v_self))] : Om)) (m_Reader_room_setter v_self v_value).val.2
abbrev s_Reader_room_setter : Stmt := inClass (top 9) 3
abbrev N_Reader_room_setter : List Str := ["self", "value"]
theorem sc_Reader_room_setter : FnScope N_Reader_room_setter ["self", "value"] (defScope s_Reader_room_setter) := ⟨rfl, rfl, rfl, by decide +kernel, rfl, by decide +kernel, by decide +kernel⟩
theorem okx_Reader_room_setter {f : Addr} {fd : FuncData} (F : Fun K "room" "Reader.room" s_Reader_room_setter f fd) (rd_Reader : ClX.CRead K ad.CReader mcReader) (cv_Reader_MOST : ClX.CVal K ad.CReader mcReader "MOST" (.int 1000) uReaderMOST) (g_Reader : mg "Reader" = some (.ref ad.CReader)) (e_BadRoom : PySem.ErX.ErrT P K mg ad.CBadRoom ad.f_BadRoom___init__ "given") (g_BadRoom : mg "BadRoom" = some (.ref ad.CBadRoom)) (k_Reader : Cls K ad.CReader) (na_Reader_space : NoAttr K ad.CReader "space") : FnOk P w K mg base (L2.CX P w) (1) f fd ["self", "value"] (spEX K (ax_Reader_room_setter ad)) := by
  refine fn_effX F sc_Reader_room_setter (fun L O ds out h => ?_) (fun cdv A outer s H E B O ds out hr tk po_ h => ?_)
  · obtain ⟨q_self, v_self, v_value, _, rfl, _⟩ := h; rfl
  · obtain ⟨q_self, v_self, v_value, rfl, rfl, hok, rfl⟩ := h
    have nd := sc_Reader_room_setter.nd
    refine j_outXEn hok (show JC _ B (defBody s_Reader_room_setter) [some (.rf q_self), some (D.int v_value)] [(q_self, M.ins ad.CReader fFReader ((fVReader ad) v_self))] (aC (S := ReaderV) (L := Unit) (R := Unit × ReaderV) (fun s _ O' => ∃ O1, O' = O1 ++ (fun (v_self : ReaderV) => ([(q_self, M.ins ad.CReader fFReader ((fVReader ad) v_self))] : Om)) s) (fun _ _ _ => False) (rtE (fun _ => .non) (fun (v_self : ReaderV) => ([(q_self, M.ins ad.CReader fFReader ((fVReader ad) v_self))] : Om))) (exqO (ceT ad) [(q_self, M.ins ad.CReader fFReader ((fVReader ad) v_self))])) (mx_Reader_room_setter v_self v_value) from ?_)
    unfold mx_Reader_room_setter
    refine jc_ifr (et_not (et_chainI op_le op_le ev_int (nm 1 rfl) (ev_cval (ev_glob (v := .ref ad.CReader) rfl g_Reader rfl (fun _ => .rf _)) rd_Reader cv_Reader_MOST (fun _ => .int _)))) (fun hc1 => ?_) (fun hc1 => ?_)
    · exact jc_raise (ce := ceT ad) (er := 8) (m := .non) rfl e_BadRoom g_BadRoom hr tk rfl (nm 1 rfl) (And.intro (And.intro rfl (And.intro rfl rfl)) rfl)
    · refine jc_fldM (vals := (fVReader ad)) (vals' := (fVReader ad)) (s := v_self) (nm 0 rfl) (nm 1 rfl) k_Reader na_Reader_space (.inl ⟨2, by decide +kernel, rfl, rfl⟩) (by decide) (fun _ => .head) (fun v_self => ?_)
      exact jc_nil ⟨_, wk_refl, [], rfl⟩
theorem okc_Reader_room_setter {f : Addr} {fd : FuncData} (F : FnOk P w K mg base (L2.CX P w) (1) f fd ["self", "value"] (spEX K (ax_Reader_room_setter ad))) : FnOk P w K mg base CX0 (1) f fd ["self", "value"] (spE K (ar_Reader_room_setter ad)) := fn_calmE F fun L O ds d O2 h => by
  obtain ⟨q_self, v_self, v_value, rfl, rfl, hok, rfl, rfl⟩ := h
  obtain ⟨h1, h2⟩ := calm_ok hok
  exact ⟨q_self, v_self, v_value, rfl, rfl, h1, by rw [h2]; rfl⟩
def ax_Reader_resize (ad : Ads) (L O : Om) (ds : List D) (out : OutE) : Prop := ∃ (q_self : Addr) (v_self : ReaderV) (v_room : Int), O = [(q_self, M.ins ad.CReader fFReader ((fVReader ad) v_self))] ∧ ds = [.rf q_self, D.int v_room] ∧ (mx_Reader_resize v_self v_room).ended.ok ∧ out = outXE (ceT ad) (fun _ => .non) (fun (v_self : ReaderV) => ([(q_self, M.ins ad.CReader fFReader ((fVReader ad) v_self))] : Om)) [(q_self, M.ins ad.CReader fFReader ((fVReader ad) v_self))] (mx_Reader_resize v_self v_room).ended.val
def ar_Reader_resize (ad : Ads) (L O : Om) (ds : List D) (d : D) (O2 : Om) : Prop := ∃ (q_self : Addr) (v_self : ReaderV) (v_room : Int), O = [(q_self, M.ins ad.CReader fFReader ((fVReader ad) v_self))] ∧ ds = [.rf q_self, D.int v_room] ∧ (m_Reader_resize v_self v_room).ok ∧ d = .non ∧ O2 = (fun (v_self : ReaderV) => ([(q_self, M.ins ad.CReader fFReader ((fVReader ad) v_self))] : Om)) (m_Reader_resize v_self v_room).val.2
abbrev s_Reader_resize : Stmt := inClass (top 9) 4
abbrev N_Reader_resize : List Str := ["self", "room"]
theorem sc_Reader_resize : FnScope N_Reader_resize ["self", "room"] (defScope s_Reader_resize) := ⟨rfl, rfl, rfl, by decide +kernel, rfl, by decide +kernel, by decide +kernel⟩
theorem okx_Reader_resize {f : Addr} {fd : FuncData} (F : Fun K "resize" "Reader.resize" s_Reader_resize f fd) (Fxps_Reader_room_w : Fok P w K mg base (L2.CX P w) 1 ad.f_Reader_room_setter (spEX K (ax_Reader_room_setter ad))) (ps_Reader_room_w : PSetOf K ad.CReader "room" ad.p_Reader_room_w ad.f_Reader_room_setter) (k_Reader : Cls K ad.CReader) : FnOk P w K mg base (L2.CX P w) (4) f fd ["self", "room"] (spEX K (ax_Reader_resize ad)) := by
  refine fn_effX F sc_Reader_resize (fun L O ds out h => ?_) (fun cdv A outer s H E B O ds out hr tk po_ h => ?_)
  · obtain ⟨q_self, v_self, v_room, _, rfl, _⟩ := h; rfl
  · obtain ⟨q_self, v_self, v_room, rfl, rfl, hok, rfl⟩ := h
    have nd := sc_Reader_resize.nd
    refine j_outXEn hok (show JC _ B (defBody s_Reader_resize) [some (.rf q_self), some (D.int v_room)] [(q_self, M.ins ad.CReader fFReader ((fVReader ad) v_self))] (aC (S := ReaderV) (L := Unit) (R := Unit × ReaderV) (fun s _ O' => ∃ O1, O' = O1 ++ (fun (v_self : ReaderV) => ([(q_self, M.ins ad.CReader fFReader ((fVReader ad) v_self))] : Om)) s) (fun _ _ _ => False) (rtE (fun _ => .non) (fun (v_self : ReaderV) => ([(q_self, M.ins ad.CReader fFReader ((fVReader ad) v_self))] : Om))) (exqO (ceT ad) [(q_self, M.ins ad.CReader fFReader ((fVReader ad) v_self))])) (mx_Reader_resize v_self v_room) from ?_)
    unfold mx_Reader_resize
    refine jc_psetX' (ce := ceT ad) (vals := (fVReader ad)) (vals' := (fVReader ad)) (s := v_self) (mc := (mx_Reader_room_setter v_self v_room).ended) (nm 0 rfl) (nm 1 rfl) k_Reader ps_Reader_room_w Fxps_Reader_room_w (hr.mono (by first | decide | omega)) tk (.head _) (fun _ => .head) (fun hok _ _ => by exact ⟨_, v_self, v_room, rfl, rfl, hok, rfl⟩) (fun er => (And.intro (And.intro rfl (And.intro rfl rfl)) rfl)) default (fun v_self => ?_)
    exact jc_nil ⟨_, wk_refl, [], rfl⟩
theorem okc_Reader_resize {f : Addr} {fd : FuncData} (F : FnOk P w K mg base (L2.CX P w) (4) f fd ["self", "room"] (spEX K (ax_Reader_resize ad))) : FnOk P w K mg base CX0 (4) f fd ["self", "room"] (spE K (ar_Reader_resize ad)) := fn_calmE F fun L O ds d O2 h => by
  obtain ⟨q_self, v_self, v_room, rfl, rfl, hok, rfl, rfl⟩ := h
  obtain ⟨h1, h2⟩ := calm_ok hok
  exact ⟨q_self, v_self, v_room, rfl, rfl, h1, by rw [h2]; rfl⟩
def ar_Reader_room (ad : Ads) (L : Om) (ds : List D) (d : D) : Prop := ∃ (d_self : D) (v_self : ReaderV), ds = [d_self] ∧ Vo L d_self ad.CReader fFReader ((fVReader ad) v_self) ∧ (m_Reader_room v_self).ok ∧ d = D.int ((m_Reader_room v_self).val)
abbrev s_Reader_room : Stmt := inClass (top 9) 2
abbrev N_Reader_room : List Str := ["self"]
theorem sc_Reader_room : FnScope N_Reader_room ["self"] (defScope s_Reader_room) := ⟨rfl, rfl, rfl, by decide +kernel, rfl, by decide +kernel, by decide +kernel⟩
theorem ok_Reader_room {f : Addr} {fd : FuncData} (F : Fun K "room" "Reader.room" s_Reader_room f fd) (k_Reader : Cls K ad.CReader) (na_Reader_space : NoAttr K ad.CReader "space") : FnOk P w K mg base CX0 (1) f fd ["self"] (spP K (ar_Reader_room ad)) := by
  refine fn_pureV F sc_Reader_room (fun L ds d h => ?_) (fun cdv A outer s H E B ds d hr h => ?_)
  · obtain ⟨d_self, v_self, rfl, _⟩ := h; rfl
  · obtain ⟨d_self, v_self, rfl, w_self, hok, rfl⟩ := h
    have nd := sc_Reader_room.nd
    refine (show JC _ B (defBody s_Reader_room) [some (d_self)] [] (aR (rtP D.int)) (m_Reader_room v_self) from ?_) hok
    unfold m_Reader_room
    exact jc_ret (d := D.int (v_self.space : Int)) (ev_fld (i := 2) (nm 0 rfl) (voL w_self) k_Reader na_Reader_space (by decide +kernel) rfl) (.refl _)
def ar_law_number (ad : Ads) (L : Om) (ds : List D) (d : D) : Prop := ∃ (v_one : Int) (v_two : Int), ds = [D.int v_one, D.int v_two] ∧ (m_law_number v_one v_two).ok ∧ d = D.int ((m_law_number v_one v_two).val)
abbrev s_law_number : Stmt := top 30
abbrev N_law_number : List Str := ["_law_one", "_law_two", "_law_number_here"]
theorem sc_law_number : FnScope N_law_number ["_law_one", "_law_two"] (defScope s_law_number) := ⟨rfl, rfl, rfl, by decide +kernel, rfl, by decide +kernel, by decide +kernel⟩
theorem ok_law_number {f : Addr} {fd : FuncData} (F : Fun K "_law_number" "_law_number" s_law_number f fd) (b_int : mg "int" = none) : FnOk P w K mg base CX0 (1) f fd ["_law_one", "_law_two"] (spP K (ar_law_number ad)) := by
  refine fn_pureV F sc_law_number (fun L ds d h => ?_) (fun cdv A outer s H E B ds d hr h => ?_)
  · obtain ⟨v_one, v_two, rfl, _⟩ := h; rfl
  · obtain ⟨v_one, v_two, rfl, hok, rfl⟩ := h
    have nd := sc_law_number.nd
    refine (show JC _ B (defBody s_law_number) [some (D.int v_one), some (D.int v_two), none] [] (aR (rtP D.int)) (m_law_number v_one v_two) from ?_) hok
    unfold m_law_number
    refine jc_set (E := D.int) (v := ((((v_two * (7 : Int)) % (1008 : Int)) - (3 : Int)) : Int)) 2 nd (ev_op op_sub rd_I0 (ev_op op_mod (rd_I (by decide)) (ev_callTy call_int1 rc_int (by rfl) b_int (by decide +kernel) (ea_cons (ev_op op_mul (rd_I (.inr ⟨by decide, by decide⟩)) (nm 1 rfl) ev_int) ea_nil)) ev_int) ev_int) (fun v_number_here => ?_)
    show JC _ _ _ [some (D.int v_one), some (D.int v_two), some (D.int v_number_here)] _ _ _
    exact jc_ret (d := D.int ((ixL ([(0 : Int), (1 : Int), (1000 : Int), (1001 : Int), (-(1 : Int)), (2 : Int), v_number_here, v_number_here] : List Int) (v_one % (8 : Int))) : Int)) (ev_ixL (ev_new (en_lst (ea_cons ev_int (ea_cons ev_int (ea_cons ev_int (ea_cons ev_int (ea_cons (ev_neg ev_int) (ea_cons ev_int (ea_cons (nm 2 rfl) (ea_cons (nm 2 rfl) ea_nil)))))))) (by show 8 ≤ sizeLine; decide))) (ev_op op_mod (rd_I (by decide)) (ev_callTy call_int1 rc_int (by rfl) b_int (by decide +kernel) (ea_cons (nm 0 rfl) ea_nil)) ev_int) (Vs.vw vsI) (atG (xs := ([(0 : Int), (1 : Int), (1000 : Int), (1001 : Int), (-(1 : Int)), (2 : Int), v_number_here, v_number_here] : List Int)) (E := D.int) (mod_ix (k := 8) (by decide) (by decide)))) (.refl _)
def ar_law_refused_n (ad : Ads) (L : Om) (ds : List D) (d : D) : Prop := ∃ (v_reader : Unit) (v_formula : FormV) (v_number_here : Int), ds = [dUnit v_reader, (eForm ad) v_formula, D.int v_number_here] ∧ (m_law_refused_n v_reader v_formula v_number_here).ok ∧ d = D.str ((m_law_refused_n v_reader v_formula v_number_here).val)
abbrev s_law_refused_n : Stmt := top 31
abbrev N_law_refused_n : List Str := ["_law_reader", "_law_formula", "_law_number_here", "e"]
theorem sc_law_refused_n : FnScope N_law_refused_n ["_law_reader", "_law_formula", "_law_number_here"] (defScope s_law_refused_n) := ⟨rfl, rfl, rfl, by decide +kernel, rfl, by decide +kernel, by decide +kernel⟩
theorem ok_law_refused_n {f : Addr} {fd : FuncData} (F : Fun K "_law_refused" "_law_refused" s_law_refused_n f fd) (mk_Reader : Mk K ad.CReader ad.f_Reader___init__) (kwx_Reader : KwInitX P w K mg base 4 ad.f_Reader___init__ 1 ["room"] (spXI K ad.CReader (ax_Reader___init__ ad))) (g_Reader : mg "Reader" = some (.ref ad.CReader)) (e_BadRoom : PySem.ErX.ErrT P K mg ad.CBadRoom ad.f_BadRoom___init__ "given") (g_BadRoom : mg "BadRoom" = some (.ref ad.CBadRoom)) (xm_BadRoom : PySem.W.exmOne K (.ref ad.CBadRoom) (.ref ad.CBadRoom) = some true) (xc_BadRoom : ExcC K ad.CBadRoom) (g_BadKey : mg "BadKey" = some (.ref ad.CBadKey)) (kt_BadRoom_BadKey : PySem.W.kitOne K (.ref ad.CBadRoom) (.ref ad.CBadKey) = some false) (b_isinstance : mg "isinstance" = none) (g_TableError : mg "TableError" = some (.ref ad.CTableError)) (kt_BadRoom_TableError : PySem.W.kitOne K (.ref ad.CBadRoom) (.ref ad.CTableError) = some true) (b_ValueError : mg "ValueError" = none) (kt_BadRoom_ValueError : PySem.W.kitOne K (.ref ad.CBadRoom) (.type "ValueError") = some true) (b_bool : mg "bool" = none) (b_int : mg "int" = none) (b_str : mg "str" = none) : FnOk P w K mg base CX0 (6) f fd ["_law_reader", "_law_formula", "_law_number_here"] (spP K (ar_law_refused_n ad)) := by
  refine fn_pureV F sc_law_refused_n (fun L ds d h => ?_) (fun cdv A outer s H E B ds d hr h => ?_)
  · obtain ⟨v_reader, v_formula, v_number_here, rfl, _⟩ := h; rfl
  · obtain ⟨v_reader, v_formula, v_number_here, rfl, hok, rfl⟩ := h
    have nd := sc_law_refused_n.nd
    refine (show JC _ B (defBody s_law_refused_n) [some (dUnit v_reader), some ((eForm ad) v_formula), some (D.int v_number_here), none] [] (aR (rtP D.str)) (m_law_refused_n v_reader v_formula v_number_here) from ?_) hok
    unfold m_law_refused_n
    refine jc_seqR (st1 := (fun (_ : Unit) (ρ : List (Option D)) (O : Om) => ρ = [some (dUnit v_reader), some ((eForm ad) v_formula), some (D.int v_number_here), none] ∧ O = [])) (sl := fun (_ : Unit) _ _ => False) (ex := fun _ _ _ _ _ _ => False) (jc1_try (ce := ceT ad) (ρ0 := [some (dUnit v_reader), some ((eForm ad) v_formula), some (D.int v_number_here), none]) (O0 := []) 3 rfl rfl nd rfl rfl ⟨rfl, by decide, .inl g_BadRoom⟩ takes_no (fun W pn xe tk po_ => ?_) (fun er hok hm hok2 => by obtain ⟨z, rfl, _⟩ := onErr_ok hok2; exact ⟨xm_BadRoom, .inl ⟨z, rfl⟩⟩) (fun er hok hm a_ oe pn dx v_ hz hf hrp => ?_)) (fun _ _ _ hst => ?_)
    · refine jc_one (jc1_ifT (et_conv (et_cmp op_isN rd_isN (nm 0 rfl) ev_non (nomark _)) rfl) ?_)
      refine jc_req fun h2 => ?_
      refine jc_exprMX (ce := ceT ad) (ns := fFReader) (fs := (fVReader ad)) (fun v hok hm => em_makeA mk_Reader kwx_Reader.calm (hr.mono (by first | decide | omega)) rfl g_Reader (ea_cons (nm 1 rfl) ea_nil) (ek_cons (nm 2 rfl) ek_nil) rfl (by exact ⟨v_formula, v_number_here, rfl, hok, by rw [hm]; trivial, by rw [hm]; rfl⟩)) (fun er hok hm => er_makeAX mk_Reader kwx_Reader (hr.mono (by first | decide | omega)) tk rfl g_Reader (ea_cons (nm 1 rfl) ea_nil) (ek_cons (nm 2 rfl) ek_nil) rfl ⟨(by exact ⟨v_formula, v_number_here, rfl, hok, h2, by rw [hm]; rfl⟩), by have := h2; rw [hm] at this; exact this⟩) ?_ (fun er => (And.intro (And.intro rfl (And.intro rfl rfl)) (And.intro wk_refl rfl)))
      exact jc_nil ⟨_, (wk_some rfl (wk_some rfl (wk_some rfl (wk_nn wk_nil)))), rfl, rfl⟩
    · refine jc_onErr (fun v_e_given her => ?_)
      subst her
      refine jc_ifr (et_w (ew_or (et_of (ev_callB (call_isED xc_BadRoom hz hf) (rc_isED (fun _ _ _ => cls_ref) kt_BadRoom_BadKey) rfl b_isinstance (by decide +kernel) (ea_cons (nm 3 rfl) (ea_cons (ev_glob (v := .ref ad.CBadKey) rfl g_BadKey rfl (fun _ => .rf _)) ea_nil)))) (fun hb3 => (ew_or (et_not (et_of (ev_callB (call_isED xc_BadRoom hz hf) (rc_isED (fun _ _ _ => cls_ref) kt_BadRoom_TableError) rfl b_isinstance (by decide +kernel) (ea_cons (nm 3 rfl) (ea_cons (ev_glob (v := .ref ad.CTableError) rfl g_TableError rfl (fun _ => .rf _)) ea_nil))))) (fun hb4 => (ew_or1 (et_not (et_of (ev_callB (call_isED xc_BadRoom hz hf) (rc_isED (fun _ _ _ => cls_ty) kt_BadRoom_ValueError) rfl b_isinstance (by decide +kernel) (ea_cons (nm 3 rfl) (ea_cons (ev_bltn (v := .ty "ValueError") (u := .type "ValueError") rfl b_ValueError (by decide +kernel) rfl (fun _ => .ty _)) ea_nil))))))))))) (fun hc5 => ?_) (fun hc5 => ?_)
      · exact jc_ret (d := D.str ((Str.ofString "wrong") : Str)) ev_str (.refl _)
      · refine jc_ifr (et_w (ew_or (et_of (ev_callB call_isi (rc_isi (c := "bool") .int (by rfl)) rfl b_isinstance (by decide +kernel) (ea_cons (ev_errF e_BadRoom hz hf hrp (nm 3 rfl)) (ea_cons (ev_bltn (v := .ty "bool") (u := .type "bool") rfl b_bool (by decide +kernel) rfl (fun _ => .ty _)) ea_nil)))) (fun hb6 => (ew_or1 (et_not (et_of (ev_callB call_isi (rc_isi (c := "int") .int (by rfl)) rfl b_isinstance (by decide +kernel) (ea_cons (ev_errF e_BadRoom hz hf hrp (nm 3 rfl)) (ea_cons (ev_bltn (v := .ty "int") (u := .type "int") rfl b_int (by decide +kernel) rfl (fun _ => .ty _)) ea_nil))))))))) (fun hc7 => ?_) (fun hc7 => ?_)
        · exact jc_ret (d := D.str ((Str.ofString "wrong") : Str)) ev_str (.refl _)
        · refine jc_req fun ⟨h8, h9⟩ => ?_
          exact jc_ret (d := D.str (((Str.ofString "refused ") ++ (Str.ofString (toString v_e_given))) : Str)) (ev_op op_add_str (rd_addS h9) ev_str (ev_callTy call_str_int (rc_strI h8) rfl b_str (by decide +kernel) (ea_cons (ev_errF e_BadRoom hz hf hrp (nm 3 rfl)) ea_nil))) (.refl _)
    obtain ⟨rfl, rfl⟩ := hst
    show JC _ _ _ [some (dUnit v_reader), some ((eForm ad) v_formula), some (D.int v_number_here), none] _ _ _
    exact jc_ret (d := D.str ((Str.ofString "") : Str)) ev_str (.refl _)
def ar_law_refused (ad : Ads) (L O : Om) (ds : List D) (d : D) (O2 : Om) : Prop := ∃ (q_reader : Addr) (v_reader : ReaderV) (v_formula : FormV) (v_number_here : Int), O = [(q_reader, M.ins ad.CReader fFReader ((fVReader ad) v_reader))] ∧ ds = [.rf q_reader, (eForm ad) v_formula, D.int v_number_here] ∧ (m_law_refused v_reader v_formula v_number_here).ok ∧ d = D.str ((m_law_refused v_reader v_formula v_number_here).val.1) ∧ O2 = (fun (v_reader : ReaderV) => ([(q_reader, M.ins ad.CReader fFReader ((fVReader ad) v_reader))] : Om)) (m_law_refused v_reader v_formula v_number_here).val.2
abbrev s_law_refused : Stmt := top 31
abbrev N_law_refused : List Str := ["_law_reader", "_law_formula", "_law_number_here", "e"]
theorem sc_law_refused : FnScope N_law_refused ["_law_reader", "_law_formula", "_law_number_here"] (defScope s_law_refused) := ⟨rfl, rfl, rfl, by decide +kernel, rfl, by decide +kernel, by decide +kernel⟩
theorem ok_law_refused {f : Addr} {fd : FuncData} (F : Fun K "_law_refused" "_law_refused" s_law_refused f fd) (Fmx_Reader_resize : Fok P w K mg base (L2.CX P w) 4 ad.f_Reader_resize (spEX K (ax_Reader_resize ad))) (mt_Reader_resize : Meth K ad.CReader "resize" ad.f_Reader_resize) (k_Reader : Cls K ad.CReader) (e_BadRoom : PySem.ErX.ErrT P K mg ad.CBadRoom ad.f_BadRoom___init__ "given") (g_BadRoom : mg "BadRoom" = some (.ref ad.CBadRoom)) (xm_BadRoom : PySem.W.exmOne K (.ref ad.CBadRoom) (.ref ad.CBadRoom) = some true) (xc_BadRoom : ExcC K ad.CBadRoom) (g_BadKey : mg "BadKey" = some (.ref ad.CBadKey)) (kt_BadRoom_BadKey : PySem.W.kitOne K (.ref ad.CBadRoom) (.ref ad.CBadKey) = some false) (b_isinstance : mg "isinstance" = none) (g_TableError : mg "TableError" = some (.ref ad.CTableError)) (kt_BadRoom_TableError : PySem.W.kitOne K (.ref ad.CBadRoom) (.ref ad.CTableError) = some true) (b_ValueError : mg "ValueError" = none) (kt_BadRoom_ValueError : PySem.W.kitOne K (.ref ad.CBadRoom) (.type "ValueError") = some true) (b_bool : mg "bool" = none) (b_int : mg "int" = none) (b_str : mg "str" = none) : FnOk P w K mg base CX0 (6) f fd ["_law_reader", "_law_formula", "_law_number_here"] (spE K (ar_law_refused ad)) := by
  refine fn_eff F sc_law_refused (fun L O ds d O2 h => ?_) (fun cdv A outer s H E B O ds d O2 hr h => ?_)
  · obtain ⟨q_reader, v_reader, v_formula, v_number_here, _, rfl, _⟩ := h; rfl
  · obtain ⟨q_reader, v_reader, v_formula, v_number_here, rfl, rfl, hok, rfl, rfl⟩ := h
    have nd := sc_law_refused.nd
    refine (show JC _ B (defBody s_law_refused) [some (.rf q_reader), some ((eForm ad) v_formula), some (D.int v_number_here), none] [(q_reader, M.ins ad.CReader fFReader ((fVReader ad) v_reader))] (aR (rtE D.str (fun (v_reader : ReaderV) => ([(q_reader, M.ins ad.CReader fFReader ((fVReader ad) v_reader))] : Om)))) (m_law_refused v_reader v_formula v_number_here) from ?_) hok
    unfold m_law_refused
    refine jc_seqR (st1 := (fun (v_reader : ReaderV) (ρ : List (Option D)) (O : Om) => ρ = [some (.rf q_reader), some ((eForm ad) v_formula), some (D.int v_number_here), none] ∧ O = [(q_reader, M.ins ad.CReader fFReader ((fVReader ad) v_reader))])) (sl := fun (_ : Unit) _ _ => False) (ex := fun _ _ _ _ _ _ => False) (jc1_try (ce := ceT ad) (ρ0 := [some (.rf q_reader), some ((eForm ad) v_formula), some (D.int v_number_here), none]) (O0 := [(q_reader, M.ins ad.CReader fFReader ((fVReader ad) v_reader))]) 3 rfl rfl nd rfl rfl ⟨rfl, by decide, .inl g_BadRoom⟩ takes_no (fun W pn xe tk po_ => ?_) (fun er hok hm hok2 => by obtain ⟨z, rfl, _⟩ := onErr_ok hok2; exact ⟨xm_BadRoom, .inl ⟨z, rfl⟩⟩) (fun er hok hm a_ oe pn dx v_ hz hf hrp => ?_)) (fun v_reader _ _ hst => ?_)
    · refine jc_one (jc1_ifF (et_conv (et_cmp op_isN rd_isN (nm 0 rfl) ev_non (nomark _)) rfl) ?_)
      refine jc_one (jc1_ifNX' (ce := ceT ad) (st := (fun (v_reader : ReaderV) => ([(q_reader, M.ins ad.CReader fFReader ((fVReader ad) v_reader))] : Om))) (E := fun (_ : Unit) => D.non) (exm_meth (vals := (fVReader ad)) (v0 := v_reader) (nm 0 rfl) k_Reader mt_Reader_resize Fmx_Reader_resize (hr.mono (by first | decide | omega)) tk (ea_cons (nm 2 rfl) ea_nil) (by decide +kernel) (fun _ => .head) (fun hok _ _ => by exact ⟨_, v_reader, v_number_here, rfl, rfl, hok, rfl⟩) _) (fun _ => rfl) (fun er => (And.intro (And.intro rfl (And.intro rfl rfl)) (And.intro wk_refl rfl))) (fun v_reader => ?_))
      · exact jc_nil ⟨_, (wk_some rfl (wk_some rfl (wk_some rfl (wk_nn wk_nil)))), rfl, rfl⟩
    · refine jc_onErr (fun v_e_given her => ?_)
      subst her
      refine jc_ifr (et_w (ew_or (et_of (ev_callB (call_isED xc_BadRoom hz hf) (rc_isED (fun _ _ _ => cls_ref) kt_BadRoom_BadKey) rfl b_isinstance (by decide +kernel) (ea_cons (nm 3 rfl) (ea_cons (ev_glob (v := .ref ad.CBadKey) rfl g_BadKey rfl (fun _ => .rf _)) ea_nil)))) (fun hb2 => (ew_or (et_not (et_of (ev_callB (call_isED xc_BadRoom hz hf) (rc_isED (fun _ _ _ => cls_ref) kt_BadRoom_TableError) rfl b_isinstance (by decide +kernel) (ea_cons (nm 3 rfl) (ea_cons (ev_glob (v := .ref ad.CTableError) rfl g_TableError rfl (fun _ => .rf _)) ea_nil))))) (fun hb3 => (ew_or1 (et_not (et_of (ev_callB (call_isED xc_BadRoom hz hf) (rc_isED (fun _ _ _ => cls_ty) kt_BadRoom_ValueError) rfl b_isinstance (by decide +kernel) (ea_cons (nm 3 rfl) (ea_cons (ev_bltn (v := .ty "ValueError") (u := .type "ValueError") rfl b_ValueError (by decide +kernel) rfl (fun _ => .ty _)) ea_nil))))))))))) (fun hc4 => ?_) (fun hc4 => ?_)
      · exact jc_ret (d := D.str ((Str.ofString "wrong") : Str)) ev_str ⟨[], rfl, .refl _⟩
      · refine jc_ifr (et_w (ew_or (et_of (ev_callB call_isi (rc_isi (c := "bool") .int (by rfl)) rfl b_isinstance (by decide +kernel) (ea_cons (ev_errF e_BadRoom hz hf hrp (nm 3 rfl)) (ea_cons (ev_bltn (v := .ty "bool") (u := .type "bool") rfl b_bool (by decide +kernel) rfl (fun _ => .ty _)) ea_nil)))) (fun hb5 => (ew_or1 (et_not (et_of (ev_callB call_isi (rc_isi (c := "int") .int (by rfl)) rfl b_isinstance (by decide +kernel) (ea_cons (ev_errF e_BadRoom hz hf hrp (nm 3 rfl)) (ea_cons (ev_bltn (v := .ty "int") (u := .type "int") rfl b_int (by decide +kernel) rfl (fun _ => .ty _)) ea_nil))))))))) (fun hc6 => ?_) (fun hc6 => ?_)
        · exact jc_ret (d := D.str ((Str.ofString "wrong") : Str)) ev_str ⟨[], rfl, .refl _⟩
        · refine jc_req fun ⟨h7, h8⟩ => ?_
          exact jc_ret (d := D.str (((Str.ofString "refused ") ++ (Str.ofString (toString v_e_given))) : Str)) (ev_op op_add_str (rd_addS h8) ev_str (ev_callTy call_str_int (rc_strI h7) rfl b_str (by decide +kernel) (ea_cons (ev_errF e_BadRoom hz hf hrp (nm 3 rfl)) ea_nil))) ⟨[], rfl, .refl _⟩
    obtain ⟨rfl, rfl⟩ := hst
    show JC _ _ _ [some (.rf q_reader), some ((eForm ad) v_formula), some (D.int v_number_here), none] _ _ _
    exact jc_ret (d := D.str ((Str.ofString "") : Str)) ev_str ⟨[], rfl, .refl _⟩
def ar_law (ad : Ads) (L : Om) (ds : List D) (d : D) : Prop := ∃ (d_script : D) (v_script : List Int), ds = [d_script] ∧ Vw L d_script (v_script.map D.int) ∧ (m_law v_script).ok ∧ d = D.bl ((m_law v_script).val)
abbrev s_law : Stmt := top 32
abbrev N_law : List Str := ["_law_script", "_law_pool_here", "_law_formula", "_law_reader", "_law_other", "_law_room", "_law_k", "_law_number_here", "_law_due"]
theorem sc_law : FnScope N_law ["_law_script"] (defScope s_law) := ⟨rfl, rfl, rfl, by decide +kernel, rfl, by decide +kernel, by decide +kernel⟩
theorem ok_law {f : Addr} {fd : FuncData} (F : Fun K "law" "law" s_law f fd) (c_law_pool : Cal P w K mg base CX0 1 "_law_pool" (spN K (ar_law_pool ad))) (g_Formula : mg "Formula" = some (.ref ad.CFormula)) (b_int : mg "int" = none) (Fcm_Formula_read : Fok P w K mg base CX0 5 ad.f_Formula_read (spP K (ar_Formula_read ad))) (cm_Formula_read : ClX.CMet K ad.CFormula mcFormula "read" ad.p_Formula_read ad.f_Formula_read) (rd_Formula : ClX.CRead K ad.CFormula mcFormula) (mk_Reader : Mk K ad.CReader ad.f_Reader___init__) (kwi_Reader : KwInit P w K mg base 4 ad.f_Reader___init__ 1 ["room"] (spI K ad.CReader (ar_Reader___init__ ad))) (g_Reader : mg "Reader" = some (.ref ad.CReader)) (kwd_Reader : KwDef P w K mg base 4 ad.f_Reader___init__ [.int 2] (spI K ad.CReader (ar_Reader___init__ ad))) (b_range : mg "range" = none) (c_law_number : Cal P w K mg base CX0 1 "_law_number" (spP K (ar_law_number ad))) (b_str : mg "str" = none) (c_law_refused : Cal P w K mg base CX0 6 "_law_refused" (spE K (ar_law_refused ad))) (c_law_refused_n : Cal P w K mg base CX0 6 "_law_refused" (spP K (ar_law_refused_n ad))) (Fp_Reader_room : Fok P w K mg base CX0 1 ad.f_Reader_room (spP K (ar_Reader_room ad))) (p_Reader_room : PropOf K ad.CReader "room" ad.p_Reader_room ad.f_Reader_room) (k_Reader : Cls K ad.CReader) (b_isinstance : mg "isinstance" = none) (b_bool : mg "bool" = none) (rd_Reader : ClX.CRead K ad.CReader mcReader) (cv_Reader_MOST : ClX.CVal K ad.CReader mcReader "MOST" (.int 1000) uReaderMOST) : FnOk P w K mg base CX0 (7) f fd ["_law_script"] (spP K (ar_law ad)) := by
  refine fn_pureV F sc_law (fun L ds d h => ?_) (fun cdv A outer s H E B ds d hr h => ?_)
  · obtain ⟨d_script, v_script, rfl, _⟩ := h; rfl
  · obtain ⟨d_script, v_script, rfl, w_script, hok, rfl⟩ := h
    have nd := sc_law.nd
    refine (show JC _ B (defBody s_law) [some (d_script), none, none, none, none, none, none, none, none] [] (aR (rtP D.bl)) (m_law v_script) from ?_) hok
    unfold m_law
    refine jc_req fun h1 => ?_
    refine jc_set (E := dL D.int) (v := ((m_law_pool v_script (0 : Int) (14 : Int)).val : List Int)) 1 nd (ev_new (en_call c_law_pool (hr.mono (by first | decide | omega)) rfl (ea_cons (nm 0 rfl) (ea_cons ev_int (ea_cons ev_int ea_nil))) (by exact ⟨_, v_script, (0 : Int), (14 : Int), rfl, (vwL w_script), h1, rfl⟩))) (fun v_pool_here => ?_)
    show JC _ _ _ [some (d_script), some (dL D.int v_pool_here), none, none, none, none, none, none, none] _ _ _
    refine jc_req fun ⟨h2, h3, h4⟩ => ?_
    refine jc_set (E := (eForm ad)) (v := ((m_Formula_read ((cS (ixS (Str.ofString "<>") ((ixL v_pool_here (6 : Int)) % (2 : Int)))) ++ (cS (ixS (Str.ofString "abc") ((ixL v_pool_here (7 : Int)) % (3 : Int)))))).val : FormV)) 2 nd (ev_cmeth (ev_glob (v := .ref ad.CFormula) rfl g_Formula rfl (fun _ => .rf _)) rd_Formula cm_Formula_read Fcm_Formula_read (hr.mono (by first | decide | omega)) (ea_cons (ev_op op_add_str (rd_addS (by show 1 + 1 ≤ sizeLine; decide)) (ev_ixS ev_str (ev_op op_mod (rd_I (by decide)) (ev_callTy call_int1 rc_int (by rfl) b_int (by decide +kernel) (ea_cons (ev_ixL (nm 1 rfl) ev_int (Vs.vw vsI) (atG (E := D.int) h2)) ea_nil)) ev_int) (by decide) (atS2 (mod_ix (k := 2) (by decide) (by decide)))) (ev_ixS ev_str (ev_op op_mod (rd_I (by decide)) (ev_callTy call_int1 rc_int (by rfl) b_int (by decide +kernel) (ea_cons (ev_ixL (nm 1 rfl) ev_int (Vs.vw vsI) (atG (E := D.int) h3)) ea_nil)) ev_int) (by decide) (atS2 (mod_ix (k := 3) (by decide) (by decide))))) ea_nil) (by exact ⟨((cS (ixS (Str.ofString "<>") ((ixL v_pool_here (6 : Int)) % (2 : Int)))) ++ (cS (ixS (Str.ofString "abc") ((ixL v_pool_here (7 : Int)) % (3 : Int))))), rfl, h4, rfl⟩) _) (fun v_formula => ?_)
    show JC _ _ _ [some (d_script), some (dL D.int v_pool_here), some ((eForm ad) v_formula), none, none, none, none, none, none] _ _ _
    refine jc_req fun h5 => ?_
    refine jc_setM (vals := (fVReader ad)) 3 nd (em_makeA mk_Reader kwi_Reader (hr.mono (by first | decide | omega)) rfl g_Reader (ea_cons (nm 2 rfl) ea_nil) (ek_cons ev_int ek_nil) rfl (by exact ⟨v_formula, (7 : Int), rfl, h5, rfl, rfl⟩)) (fun q6 v_reader _ => ?_)
    show JC _ _ _ [some (d_script), some (dL D.int v_pool_here), some ((eForm ad) v_formula), some (.rf q6), none, none, none, none, none] _ _ _
    refine jc_req fun h7 => ?_
    refine jc_setM (vals := (fVReader ad)) 4 nd (em_makeD mk_Reader kwd_Reader (hr.mono (by first | decide | omega)) rfl g_Reader (ea_cons (nm 2 rfl) ea_nil) (fun _ => .cons (.int 2) .nil) (by exact ⟨v_formula, (2 : Int), rfl, h7, rfl, rfl⟩)) (fun q8 v_other _ => ?_)
    show JC _ _ _ [some (d_script), some (dL D.int v_pool_here), some ((eForm ad) v_formula), some (.rf q6), some (.rf q8), none, none, none, none] _ _ _
    refine jc_set (E := D.int) (v := ((7 : Int) : Int)) 5 nd ev_int (fun v_room => ?_)
    show JC _ _ _ [some (d_script), some (dL D.int v_pool_here), some ((eForm ad) v_formula), some (.rf q6), some (.rf q8), some (D.int v_room), none, none, none] _ _ _
    refine jc_perm ((.swap _ _ _)) ?_
    refine jc_seqR (st1 := (fun ((v_reader, v_room) : ReaderV × Int) (ρ : List (Option D)) (O : Om) => ρ = [some (d_script), some (dL D.int v_pool_here), some ((eForm ad) v_formula), some (.rf q6), some (.rf q8), some (D.int v_room), none, none, none] ∧ O = [(q6, M.ins ad.CReader fFReader ((fVReader ad) v_reader)), (q8, M.ins ad.CReader fFReader ((fVReader ad) v_other))])) (sl := fun (_ : Unit) _ _ => False) (ex := fun _ _ _ _ _ _ => False) (jc1_forC (E := D.int) PassesOwn.never rfl (ei_rng1 (by rfl) b_range (ea_cons ev_int ea_nil) ⟨by decide, by decide⟩) (bnm 6 nd) (fun ⟨v_reader, v_room⟩ _ _ hst => by obtain ⟨rfl, rfl⟩ := hst; exact trivial) ⟨_, (wk_some rfl (wk_some rfl (wk_some rfl (wk_some rfl (wk_some rfl (wk_some rfl (wk_nn (wk_nn (wk_nn wk_nil))))))))), rfl, rfl⟩ (fun v_k ⟨v_reader, v_room⟩ _ _ hst => ?_)) (fun ⟨v_reader, v_room⟩ _ _ hst => ?_)
    · obtain ⟨rfl, rfl⟩ := hst
      refine ⟨_, rfl, ?_⟩
      show JC _ _ _ [some (d_script), some (dL D.int v_pool_here), some ((eForm ad) v_formula), some (.rf q6), some (.rf q8), some (D.int v_room), some (D.int v_k), none, none] _ _ _
      refine jc_req fun ⟨h9, h10, h11⟩ => ?_
      refine jc_set (E := D.int) (v := ((m_law_number (ixL v_pool_here v_k) (ixL v_pool_here ((8 : Int) + v_k))).val : Int)) 7 nd (ev_call c_law_number (hr.mono (by first | decide | omega)) rfl (ea_cons (ev_ixL (nm 1 rfl) (nm 6 rfl) (Vs.vw vsI) (atG (E := D.int) h9)) (ea_cons (ev_ixL (nm 1 rfl) (ev_op op_add rd_I0 ev_int (nm 6 rfl)) (Vs.vw vsI) (atG (E := D.int) h10)) ea_nil)) (by exact ⟨(ixL v_pool_here v_k), (ixL v_pool_here ((8 : Int) + v_k)), rfl, h11, rfl⟩)) (fun v_number_here => ?_)
      show JC _ _ _ [some (d_script), some (dL D.int v_pool_here), some ((eForm ad) v_formula), some (.rf q6), some (.rf q8), some (D.int v_room), some (D.int v_k), some (D.int v_number_here), none] _ _ _
      refine jc_set (E := D.str) (v := ((Str.ofString "") : Str)) 8 nd ev_str (fun v_due => ?_)
      show JC _ _ _ [some (d_script), some (dL D.int v_pool_here), some ((eForm ad) v_formula), some (.rf q6), some (.rf q8), some (D.int v_room), some (D.int v_k), some (D.int v_number_here), some (D.str v_due)] _ _ _
      refine jc_seqN (st1 := (fun ((v_room, v_due) : Int × Str) (ρ : List (Option D)) (O : Om) => ρ = [some (d_script), some (dL D.int v_pool_here), some ((eForm ad) v_formula), some (.rf q6), some (.rf q8), some (D.int v_room), some (D.int v_k), some (D.int v_number_here), some (D.str v_due)] ∧ O = [(q6, M.ins ad.CReader fFReader ((fVReader ad) v_reader)), (q8, M.ins ad.CReader fFReader ((fVReader ad) v_other))])) (jc1_ite (et_w (ew_or (et_cmp op_lt rd_B0 (nm 7 rfl) ev_int (nomark _)) (fun hb12 => (ew_or1 (et_cmp op_gt rd_B0 (nm 7 rfl) ev_int (nomark _)))))) (fun hc13 => ?_) (fun hc13 => ?_)) (fun ⟨v_room, v_due⟩ _ _ hst => ?_)
      · refine jc_req fun ⟨h14, h15⟩ => ?_
        refine jc_set (E := D.str) (v := (((Str.ofString "refused ") ++ (Str.ofString (toString v_number_here))) : Str)) 8 nd (ev_op op_add_str (rd_addS h15) ev_str (ev_callTy call_str_int (rc_strI h14) rfl b_str (by decide +kernel) (ea_cons (nm 7 rfl) ea_nil))) (fun v_due => ?_)
        show JC _ _ _ [some (d_script), some (dL D.int v_pool_here), some ((eForm ad) v_formula), some (.rf q6), some (.rf q8), some (D.int v_room), some (D.int v_k), some (D.int v_number_here), some (D.str v_due)] _ _ _
        exact jc_nil ⟨_, (wk_some rfl (wk_some rfl (wk_some rfl (wk_some rfl (wk_some rfl (wk_some rfl (wk_some rfl (wk_some rfl (wk_some rfl wk_nil))))))))), rfl, rfl⟩
      · refine jc_set (E := D.int) (v := (v_number_here : Int)) 5 nd (nm 7 rfl) (fun v_room => ?_)
        show JC _ _ _ [some (d_script), some (dL D.int v_pool_here), some ((eForm ad) v_formula), some (.rf q6), some (.rf q8), some (D.int v_room), some (D.int v_k), some (D.int v_number_here), some (D.str v_due)] _ _ _
        exact jc_nil ⟨_, (wk_some rfl (wk_some rfl (wk_some rfl (wk_some rfl (wk_some rfl (wk_some rfl (wk_some rfl (wk_some rfl (wk_some rfl wk_nil))))))))), rfl, rfl⟩
      obtain ⟨rfl, rfl⟩ := hst
      show JC _ _ _ [some (d_script), some (dL D.int v_pool_here), some ((eForm ad) v_formula), some (.rf q6), some (.rf q8), some (D.int v_room), some (D.int v_k), some (D.int v_number_here), some (D.str v_due)] _ _ _
      refine jc_ifrG (st := (fun (v_reader : ReaderV) => ([(q6, M.ins ad.CReader fFReader ((fVReader ad) v_reader)), (q8, M.ins ad.CReader fFReader ((fVReader ad) v_other))] : Om))) ?_ (fun v_reader => ?_) (fun v_reader => ?_)
      · exact (etm_w (ewm_or (etm_cmp (Eγ := D.str) (d2 := fun (y_ : Str) => fun (v_reader : ReaderV) => D.str v_due) op_ne (egm_callE (vals := (fVReader ad)) (v0 := v_reader) c_law_refused (hr.mono (by first | decide | omega)) rfl (ea_cons (nm 3 rfl) (ea_cons (nm 2 rfl) (ea_cons (nm 7 rfl) ea_nil))) (fun _ => .head) (fun hok _ _ => by exact ⟨_, v_reader, v_formula, v_number_here, rfl, rfl, hok, rfl, rfl⟩)) (fun y_ v_reader _ => ⟨(nm 8 rfl), rd_neS⟩) (nomark _)) (fun v_reader => (ewm_or1 (etm_req fun h16 => (etm_pure (st := (fun (v_reader : ReaderV) => ([(q6, M.ins ad.CReader fFReader ((fVReader ad) v_reader)), (q8, M.ins ad.CReader fFReader ((fVReader ad) v_other))] : Om))) (s := v_reader) (et_cmp op_ne rd_neS (ev_call c_law_refused_n (hr.mono (by first | decide | omega)) rfl (ea_cons ev_non (ea_cons (nm 2 rfl) (ea_cons (nm 7 rfl) ea_nil))) (by exact ⟨(), v_formula, v_number_here, rfl, h16, rfl⟩)) (nm 8 rfl) (nomark _))))))))
      · exact jc_ret (d := D.bl (false : Bool)) ev_bl (.refl _)
      · refine jc_req fun ⟨h17, h19, h21⟩ => ?_
        refine jc_ifr (et_w (ew_or (et_of (ev_callB call_isi (rc_isi (c := "bool") .int (by rfl)) rfl b_isinstance (by decide +kernel) (ea_cons (ev_propV (nm 3 rfl) (voM (.head _)) k_Reader p_Reader_room Fp_Reader_room (hr.mono (by first | decide | omega)) (by exact ⟨_, v_reader, rfl, (voM (.head _)), h17, rfl⟩)) (ea_cons (ev_bltn (v := .ty "bool") (u := .type "bool") rfl b_bool (by decide +kernel) rfl (fun _ => .ty _)) ea_nil)))) (fun hb18 => (ew_or (et_not (et_of (ev_callB call_isi (rc_isi (c := "int") .int (by rfl)) rfl b_isinstance (by decide +kernel) (ea_cons (ev_propV (nm 3 rfl) (voM (.head _)) k_Reader p_Reader_room Fp_Reader_room (hr.mono (by first | decide | omega)) (by exact ⟨_, v_reader, rfl, (voM (.head _)), (h19 hb18), rfl⟩)) (ea_cons (ev_bltn (v := .ty "int") (u := .type "int") rfl b_int (by decide +kernel) rfl (fun _ => .ty _)) ea_nil))))) (fun hb20 => (ew_or1 (et_cmp op_ne rd_neI (ev_propV (nm 3 rfl) (voM (.head _)) k_Reader p_Reader_room Fp_Reader_room (hr.mono (by first | decide | omega)) (by exact ⟨_, v_reader, rfl, (voM (.head _)), (h21 hb18 hb20), rfl⟩)) (nm 5 rfl) (nomark _)))))))) (fun hc22 => ?_) (fun hc22 => ?_)
        · exact jc_ret (d := D.bl (false : Bool)) ev_bl (.refl _)
        · refine jc_req fun ⟨h24, h25⟩ => ?_
          refine jc_one (jc1_ite (et_w (ew_and (et_cmp op_eq rd_eqS (nm 8 rfl) ev_str (nomark _)) (fun hb23 => (ew_and1 (et_cmp op_ne rd_neI (ev_propV (ev_ofM (em_makeA mk_Reader kwi_Reader (hr.mono (by first | decide | omega)) rfl g_Reader (ea_cons (nm 2 rfl) ea_nil) (ek_cons (nm 7 rfl) ek_nil) rfl (by exact ⟨v_formula, v_number_here, rfl, (h24 hb23), rfl, rfl⟩))) (.inl rfl) k_Reader p_Reader_room Fp_Reader_room (hr.mono (by first | decide | omega)) (by exact ⟨_, (m_Reader___init__ v_formula v_number_here).val, rfl, (.inl rfl), (h25 hb23), rfl⟩)) (nm 7 rfl) (nomark _)))))) (fun hc26 => ?_) (fun hc26 => ?_))
          · exact jc_ret (d := D.bl (false : Bool)) ev_bl (.refl _)
          · exact jc_nil ⟨_, (wk_some rfl (wk_some rfl (wk_some rfl (wk_some rfl (wk_some rfl (wk_some rfl (wk_none (wk_none (wk_none wk_nil))))))))), rfl, rfl⟩
    obtain ⟨rfl, rfl⟩ := hst
    show JC _ _ _ [some (d_script), some (dL D.int v_pool_here), some ((eForm ad) v_formula), some (.rf q6), some (.rf q8), some (D.int v_room), none, none, none] _ _ _
    refine jc_req fun h27 => ?_
    exact jc_ret (d := D.bl (((decide ((m_Reader_room v_other).val = (2 : Int))) && (decide ((1000 : Int) = (1000 : Int)))) : Bool)) (ev_and (ev_cmp op_eq rd_eqI (ev_propV (nm 4 rfl) (voM (.tail _ (.head _))) k_Reader p_Reader_room Fp_Reader_room (hr.mono (by first | decide | omega)) (by exact ⟨_, v_other, rfl, (voM (.tail _ (.head _))), h27, rfl⟩)) ev_int (nomark _)) (fun hb28 => (ev_one (ev_cmp op_eq rd_eqI (ev_cval (ev_glob (v := .ref ad.CReader) rfl g_Reader rfl (fun _ => .rf _)) rd_Reader cv_Reader_MOST (fun _ => .int _)) ev_int (nomark _))))) (.refl _)
end
end DL

set_option Elab.async false
set_option linter.all false
set_option maxRecDepth 100000
set_option maxHeartbeats 4000000
namespace DL
open PySem PySem.Spec PyProof.Rows L2 TL
abbrev sg (z : Str) (i : Nat) : Nat := z.cps.toList.getD i 0
abbrev ch (z : Str) (i : Nat) : Str := ⟨#[z.cps.toList.getD i 0]⟩
def digs (z : Str) : Str := if decide (ch z 0 = ("-" : Str)) = true then cutS z (some 1) none else z
abbrev tab : List Nat := (Str.ofString "0123456789").cps.toList
def constM (z : Str) : Option Int :=
  if ¬ ((1 : Int) ≤ ((digs z).length : Int) ∧ ((digs z).length : Int) ≤ 18) then none
  else if (digs z).cps.toList.all (fun c => decide (c ∈ tab)) = false then none
  else if ch (digs z) 0 = ("0" : Str) ∧ ¬ z = ("0" : Str) then none
  else some (intD z)
theorem digs_some {z : Str} (h0 : 0 < z.length) (h : (1 : Int) ≤ ((digs z).length : Int) ∧ ((digs z).length : Int) ≤ 18) (hd : (digs z).cps.toList.all (fun c => decide (c ∈ tab)) = true) : PySem.intText? z = some (intD z) := by
  have hn : ∃ n, PySem.intText? z = some n := by
    have hdig : ∀ c ∈ tab, 48 ≤ c ∧ c ≤ 57 := by decide +kernel
    have hall : ∀ c ∈ (digs z).cps.toList, 48 ≤ c ∧ c ≤ 57 := fun c hc => hdig c (of_decide_eq_true (List.all_eq_true.mp hd c hc))
    unfold digs at h hall
    by_cases hm : ch z 0 = ("-" : Str)
    · rw [if_pos (decide_eq_true hm)] at h hall
      have e0 : sg z 0 = 45 := by
        have : ch z 0 = (⟨#[45]⟩ : Str) := hm.trans (by decide +kernel)
        injection this with h1
        injection h1 with h2
        injection h2
      have hz : z.cps.toList.length = z.length := Array.length_toList
      cases hl : z.cps.toList with
      | nil => rw [hl] at hz; simp at hz; omega
      | cons c cs =>
        have e1 : c = 45 := by simpa [sg, hl] using e0
        subst e1
        have e2 : cutS z (some 1) none = (⟨cs.toArray⟩ : Str) := by
          unfold cutS
          rw [hl]
          have a1 : HT.sIx z.length 0 (some 1) = 1 := by
            have := HT.sIx_nat z.length 0 1
            rw [show (some ((1 : Nat) : Int)) = some (1 : Int) from rfl] at this
            rw [this]; omega
          have a2 : HT.sIx z.length z.length none = z.length := rfl
          rw [a1, a2]
          have : (List.drop 1 (45 :: cs)).take (z.length - 1) = cs := by
            rw [List.drop_succ_cons, List.drop_zero]
            refine List.take_of_length_le ?_
            rw [← hz, hl, List.length_cons]; omega
          rw [this]
        rw [e2] at h hall
        refine ⟨_, intText_neg hl (fun c hc => hall c (by simpa using hc)) ?_ ?_⟩
        · intro e; subst e; simp [Str.length] at h
        · have : (⟨cs.toArray⟩ : Str).length = cs.length := by simp [Str.length]
          rw [this] at h
          rw [← hz, hl, List.length_cons]; omega
    · rw [if_neg (by simpa using hm)] at h hall
      refine ⟨_, intText_digits hall ?_ (by omega)⟩
      intro e
      have : z.cps.toList.length = z.length := Array.length_toList
      rw [e] at this; simp at this; omega
  obtain ⟨n, hn⟩ := hn
  rw [hn]; unfold intD; rw [hn]; rfl
theorem app_len (a b : Str) : (a ++ b).length = a.length + b.length := by
  show (a.cps ++ b.cps).size = _
  rw [Array.size_append]; rfl
theorem cut2_len {z : Str} : (cutS z (some 2) none).length = z.length - 2 := by
  have hz : z.cps.toList.length = z.length := Array.length_toList
  have := HT.sIx_nat z.length 0 2
  rw [show (some ((2 : Nat) : Int)) = some (2 : Int) from rfl] at this
  show ((⟨_⟩ : Str)).cps.size = _
  simp only [cutS, this, HT.sIx_none, List.size_toArray, List.length_take, List.length_drop, hz]
  omega
theorem cut2_pos {z : Str} (h : 3 ≤ z.length) : 0 < (cutS z (some 2) none).length := by rw [cut2_len]; omega
theorem cut2_le {z : Str} {n : Nat} (h : z.length ≤ n) : (cutS z (some 2) none).length ≤ n := by rw [cut2_len]; omega
theorem digs_le (z : Str) : (digs z).length ≤ z.length := by
  unfold digs
  split
  · show ((⟨_⟩ : Str)).cps.size ≤ _
    simp only [cutS, HT.sIx_none, List.size_toArray, List.length_take, List.length_drop]
    have hz : z.cps.toList.length = z.length := Array.length_toList
    omega
  · exact Nat.le_refl _
theorem one_len (c : Nat) : ((⟨#[c]⟩ : Str)).length = 1 := rfl
theorem row_len : (Str.ofString "row").length = 3 := by decide +kernel
theorem numL_first : ∀ n : Nat, 0 < n → ∃ c cs, numL n = c :: cs ∧ c ≠ 48 := by
  intro n
  induction n using Nat.strongRecOn with
  | _ n ih =>
    intro h0
    by_cases h : n < 10
    · exact ⟨48 + n, [], numL_lt h, by omega⟩
    · obtain ⟨c, cs, e, hc⟩ := ih (n / 10) (by omega) (by omega)
      exact ⟨c, cs ++ [48 + n % 10], by rw [numL_step (by omega), e]; rfl, hc⟩
theorem tl_neg (n : Nat) : tl (Str.ofString (toString (Int.negSucc n))) = 45 :: numL (n + 1) := by
  have h := tl_num (n + 1)
  have e : toString (Int.negSucc n) = "-" ++ toString (((n + 1 : Nat)) : Int) := rfl
  unfold tl at h ⊢
  rw [Str.ofString_eq_toList] at h ⊢
  rw [e, String.toList_append]
  simp only [List.map_append]
  simp only at h
  rw [h]
  rfl
theorem constM_num {c : Int} (h : c.natAbs < 10 ^ 18) : constM (Str.ofString (toString c)) = some c ∧ (Str.ofString (toString c)).length ≤ 19 ∧ 0 < (Str.ofString (toString c)).length ∧ ∀ x ∈ tl (Str.ofString (toString c)), x = 45 ∨ (48 ≤ x ∧ x ≤ 57) := by
  have hd : ∀ n : Nat, (numL n).all (fun c => decide (c ∈ tab)) = true := fun n => by
    refine List.all_eq_true.mpr fun x hx => ?_
    have := numL_digits n x hx
    refine decide_eq_true ?_
    have q : ∀ m : Fin 10, 48 + m.val ∈ tab := by decide +kernel
    have := q ⟨x - 48, by omega⟩
    have e : 48 + (x - 48) = x := by omega
    simp only [e] at this
    exact this
  have two : ∀ (z : Str) (n : Nat), tl (digs z) = numL n → n < 10 ^ 18 → (n = 0 → z = ("0" : Str)) → (z = ("0" : Str) ∨ ¬ ch (digs z) 0 = ("0" : Str)) → constM z = some (intD z) := fun z n e hn _ hz => by
    have hl : (digs z).length = (numL n).length := by rw [len_tl, e]
    have h1 : (numL n).length ≤ 18 := numL_len (by decide) hn
    have h2 : 0 < (numL n).length := List.length_pos_iff.mpr (numL_ne n)
    unfold constM
    rw [if_neg (by rw [hl]; omega), if_neg (by rw [show (digs z).cps.toList = numL n from e, hd n]; decide)]
    rw [if_neg]
    rintro ⟨a, b⟩
    rcases hz with hz | hz
    · exact b hz
    · exact hz a
  have chz : ∀ (z : Str) (c : Nat) (cs : List Nat), tl z = c :: cs → ch z 0 = (⟨#[c]⟩ : Str) := fun z c cs e => by
    show (⟨#[(tl z).getD 0 0]⟩ : Str) = _
    rw [e]; rfl
  cases c with
  | ofNat n =>
    have hn : n < 10 ^ 18 := h
    have e0 : tl (Str.ofString (toString (Int.ofNat n))) = numL n := tl_num n
    have hm : ¬ ch (Str.ofString (toString (Int.ofNat n))) 0 = ("-" : Str) := by
      intro hm
      cases hl : numL n with
      | nil => exact numL_ne n hl
      | cons c cs =>
        rw [chz _ c cs (e0.trans hl)] at hm
        have : (⟨#[c]⟩ : Str) = ⟨#[45]⟩ := hm.trans (by decide +kernel)
        injection this with h1
        injection h1 with h2
        injection h2 with h3
        have := numL_digits n c (by rw [hl]; exact List.mem_cons_self)
        omega
    have ed : digs (Str.ofString (toString (Int.ofNat n))) = Str.ofString (toString (Int.ofNat n)) := by
      unfold digs; rw [if_neg (by simpa using hm)]
    have hl2 : (numL n).length ≤ 18 := numL_len (by decide) hn
    have hi : PySem.intText? (Str.ofString (toString (Int.ofNat n))) = some (Int.ofNat n) := int_num (by omega)
    refine ⟨?_, by rw [len_tl, e0]; omega, by rw [len_tl, e0]; exact List.length_pos_iff.mpr (numL_ne n), fun x hx => by rw [e0] at hx; exact .inr (numL_digits n x hx)⟩
    rw [two _ n (by rw [ed]; exact e0) hn (fun hz => by subst hz; decide +kernel) ?_]
    · unfold intD; rw [hi]; rfl
    · rw [ed]
      by_cases hz : n = 0
      · subst hz; exact .inl (by decide +kernel)
      · right
        intro q
        obtain ⟨c, cs, e, hc⟩ := numL_first n (by omega)
        rw [chz _ c cs (e0.trans e)] at q
        have : (⟨#[c]⟩ : Str) = ⟨#[48]⟩ := q.trans (by decide +kernel)
        injection this with h1
        injection h1 with h2
        injection h2 with h3
        exact hc h3
  | negSucc n =>
    have hn : n + 1 < 10 ^ 18 := h
    have e0 := tl_neg n
    have hm : ch (Str.ofString (toString (Int.negSucc n))) 0 = ("-" : Str) := (chz _ _ _ e0).trans (by decide +kernel)
    have hl2 : (numL (n + 1)).length ≤ 18 := numL_len (by decide) hn
    have hlen : (Str.ofString (toString (Int.negSucc n))).length = (numL (n + 1)).length + 1 := by rw [len_tl, e0]; rfl
    have ed : tl (digs (Str.ofString (toString (Int.negSucc n)))) = numL (n + 1) := by
      unfold digs
      rw [if_pos (decide_eq_true hm)]
      show ((⟨_⟩ : Str)).cps.toList = _
      simp only [cutS]
      have a1 : HT.sIx (Str.ofString (toString (Int.negSucc n))).length 0 (some 1) = 1 := by
        have := HT.sIx_nat (Str.ofString (toString (Int.negSucc n))).length 0 1
        rw [show (some ((1 : Nat) : Int)) = some (1 : Int) from rfl] at this
        rw [this]; omega
      have a2 : HT.sIx (Str.ofString (toString (Int.negSucc n))).length (Str.ofString (toString (Int.negSucc n))).length none = (Str.ofString (toString (Int.negSucc n))).length := rfl
      rw [a1, a2, show (Str.ofString (toString (Int.negSucc n))).cps.toList = 45 :: numL (n + 1) from e0, List.drop_succ_cons, List.drop_zero]
      exact List.take_of_length_le (by omega)
    have hi : PySem.intText? (Str.ofString (toString (Int.negSucc n))) = some (Int.negSucc n) := by
      rw [intText_neg (cs := numL (n + 1)) e0 (numL_digits _) (numL_ne _) (by omega), numL_val]; rfl
    refine ⟨?_, by omega, by omega, fun x hx => by
      rw [e0] at hx
      rcases List.mem_cons.mp hx with hx | hx
      · exact .inl hx
      · exact .inr (numL_digits _ x hx)⟩
    rw [two _ (n + 1) ed hn (fun hz => absurd hz (by omega)) ?_]
    · unfold intD; rw [hi]; rfl
    · right
      intro q
      obtain ⟨c, cs, e, hc⟩ := numL_first (n + 1) (by omega)
      rw [chz _ c cs (ed.trans e)] at q
      have : (⟨#[c]⟩ : Str) = ⟨#[48]⟩ := q.trans (by decide +kernel)
      injection this with h1
      injection h1 with h2
      injection h2 with h3
      exact hc h3
theorem cut_len (z : Str) (lo hi : Option Int) : (cutS z lo hi).length ≤ z.length := by
  show ((⟨_⟩ : Str)).cps.size ≤ _
  simp only [cutS, List.size_toArray, List.length_take, List.length_drop]
  have hz : z.cps.toList.length = z.length := Array.length_toList
  omega
theorem tl_app (a b : Str) : tl (a ++ b) = tl a ++ tl b := by
  show (a.cps ++ b.cps).toList = _
  exact Array.toList_append
theorem drop2 {l g : Nat} {t z : Str} (h : tl z = l :: g :: tl t) : cutS z (some 2) none = t := by
  have hz : z.length = t.length + 2 := by rw [len_tl, h, len_tl t]; rfl
  have e1 := HT.sIx_nat z.length 0 2
  rw [show (some ((2 : Nat) : Int)) = some (2 : Int) from rfl] at e1
  have inj : ∀ a b : Str, tl a = tl b → a = b := by
    rintro ⟨⟨a⟩⟩ ⟨⟨b⟩⟩ h
    exact congrArg (fun l => (⟨⟨l⟩⟩ : Str)) h
  refine inj _ _ ?_
  show ((⟨_⟩ : Str)).cps.toList = _
  simp only [cutS, e1, HT.sIx_none]
  rw [show z.cps.toList = l :: g :: tl t from h, show min 2 z.length = 2 by omega]
  show (tl t).take (z.length - 2) = tl t
  exact List.take_of_length_le (by rw [← len_tl]; omega)
abbrev wideT (small : Int) : Str := Txt.mul (Str.ofString (toString (1 + small / 108 % 9))) (1 + small / 6 % 18)
abbrev wideI (small : Int) : Int := intD (wideT small)
theorem wide_all : ∀ a : Fin 9, ∀ b : Fin 18, (let t := Txt.mul (Str.ofString (toString (1 + (a.val : Int)))) (1 + (b.val : Int)); PySem.intText? t = some (intD t) ∧ 0 ≤ intD t ∧ intD t < 10 ^ 18 ∧ t.length ≤ 18) := by decide +kernel
theorem wide_ok {small : Int} (h0 : 0 ≤ small) : PySem.intText? (wideT small) = some (wideI small) ∧ 0 ≤ wideI small ∧ wideI small < 10 ^ 18 ∧ (wideT small).length ≤ 18 := by
  have h := wide_all ⟨(small / 108 % 9).toNat, by omega⟩ ⟨(small / 6 % 18).toNat, by omega⟩
  have e1 : (((small / 108 % 9).toNat : Nat) : Int) = small / 108 % 9 := by omega
  have e2 : (((small / 6 % 18).toNat : Nat) : Int) = small / 6 % 18 := by omega
  simp only [e1, e2] at h
  exact h
theorem log2_small {i : Int} (h : i.natAbs < 10 ^ 18) : i.natAbs.log2 < 1920 := by
  by_cases h0 : i.natAbs = 0
  · rw [h0]; decide
  · exact (Nat.log2_lt h0).mpr (Nat.lt_of_lt_of_le h (by decide +kernel))
theorem mulOk_small {z : Str} {n : Int} (h0 : 1 ≤ n) (h1 : n ≤ 1000) (hz : z.length ≤ 1000) : MulOk z n := by
  have hk : z.length * n.toNat ≤ 1000 * 1000 := Nat.mul_le_mul hz (by omega)
  refine ⟨?_, fun _ _ => ?_, fun _ _ => ?_⟩
  · simp only [Bool.or_eq_false_iff, decide_eq_false_iff_not]; omega
  · have : (1000 : Int) ≤ (2 ^ 63 - 1) / n := by
      refine Int.le_ediv_of_mul_le (by omega) ?_
      omega
    omega
  · show decide (_ > sizeLine) = false
    refine decide_eq_false ?_
    have : sizeLine ≥ 1000000 := by decide
    omega
end DL

set_option Elab.async false
set_option linter.all false
set_option maxRecDepth 100000
set_option maxHeartbeats 4000000
namespace DL
open PySem PySem.Spec PyProof.Rows L2 TL
/-! ### the script's pools -/
theorem size_big : (sizeLine : Nat) = 16777216 := sizeLine_eq
theorem p1018 : ((10 : Int) ^ (18 : Int).toNat) = 1000000000000000000 := by decide
/-- what is known of a pool -/
def PoolOk (n : Int) (l : List Int) : Prop := (l.length : Int) = n ∧ ∀ x ∈ l, 0 ≤ x ∧ x < 1000
theorem pool_sat (s : List Int) {k n : Int} (hk : 0 ≤ k) (hn : 0 ≤ n) (hn1 : n ≤ 1000000) : (m_law_pool s k n).sat (PoolOk n) := by
  unfold m_law_pool
  refine sat_bnd (sat_bind (P := fun _ => True) (sat_ite (fun h => sat_req ⟨hk, by simpa using h⟩ (sat_ret trivial)) fun _ => sat_ret trivial) fun cell _ => sat_bnd (sat_bnd (sat_req (by omega) ?_)))
  refine sat_bind (sat_forR (fun i (q : Int × List Int) => q.2.length = i ∧ ∀ x ∈ q.2, 0 ≤ x ∧ x < 1000) ⟨rfl, fun x h => by cases h⟩ fun i q hi hq => ?_) fun q hq => sat_ret ⟨by rw [hq.1]; omega, hq.2⟩
  obtain ⟨c, l⟩ := q
  obtain ⟨h1, h2⟩ := hq
  simp only at h1 h2
  have hz : l.length < sizeLine := by rw [size_big]; omega
  refine sat_ite (fun _ => sat_req hz (sat_ret ⟨by simp [h1], fun x hx => ?_⟩)) fun _ => sat_bnd (sat_bnd (sat_req ⟨?_, hz⟩ (sat_ret ⟨by simp [h1], fun x hx => ?_⟩)))
  · rcases List.mem_append.mp hx with hx | hx
    · exact h2 x hx
    · rw [List.mem_singleton.mp hx]; omega
  · refine .inl ⟨?_, ?_⟩ <;> omega
  · rcases List.mem_append.mp hx with hx | hx
    · exact h2 x hx
    · rw [List.mem_singleton.mp hx]
      generalize (_ : Int) + _ = z
      omega
theorem PoolOk.at {n : Int} {l : List Int} (h : PoolOk n l) {i : Int} (h0 : 0 ≤ i) (h1 : i < n) : (0 ≤ i ∧ i < (l.length : Int)) ∧ 0 ≤ ixL l i ∧ ixL l i < 1000 := by
  obtain ⟨a, b⟩ := h
  refine ⟨⟨h0, by omega⟩, ?_⟩
  have hi : i.toNat < l.length := by omega
  have e : ixL l i = l[i.toNat] := by unfold ixL; simp [hi]
  rw [e]
  exact b _ (List.getElem_mem hi)
end DL

set_option Elab.async false
set_option linter.all false
set_option maxRecDepth 100000
set_option maxHeartbeats 4000000
namespace DL
open PySem PySem.Spec PyProof.Rows L2 TL
/-! ### formulas: words, code, meaning -/
inductive Fm where
  | cmp (s c : Fin 3)
  | mark (c s : Fin 3) (k : Int)
  | un (i : Fin 2) (f : Fm)
  | bin (i : Fin 4) (f g : Fm)
abbrev sN (s : Fin 3) : Nat := [60, 62, 61].getD s.val 0
abbrev lN (c : Fin 3) : Nat := 97 + c.val
abbrev uW (i : Fin 2) : Str := [Str.ofString "not", Str.ofString "flip"].getD i.val default
abbrev bW (i : Fin 4) : Str := [Str.ofString "and", Str.ofString "or", Str.ofString "else", Str.ofString "pareto"].getD i.val default
abbrev cmpW (s c : Fin 3) : Str := ⟨#[sN s, lN c]⟩
abbrev markW (c s : Fin 3) (k : Int) : Str := (cS (lN c) ++ cS (sN s)) ++ Str.ofString (toString k)
namespace Fm
def Ok : Fm → Prop
  | .cmp _ _ => True
  | .mark _ _ k => k.natAbs < 10 ^ 18
  | .un _ f => f.Ok
  | .bin _ f g => f.Ok ∧ g.Ok
def words : Fm → List Str
  | .cmp s c => [cmpW s c]
  | .mark c s k => [markW c s k]
  | .un i f => uW i :: f.words
  | .bin i f g => bW i :: (f.words ++ g.words)
def code : Fm → List (Str × Int × Int)
  | .cmp s c => [(cS (sN s), (c.val : Int), 0)]
  | .mark c s k => [(Str.ofString "row" ++ cS (sN s), (c.val : Int), k)]
  | .un i f => (uW i, -1, 0) :: f.code
  | .bin i f g => (bW i, -1, 0) :: (f.code ++ g.code)
def meets (s : Fin 3) (a b : Int) : Bool := if s = 0 then decide (a < b) else if s = 1 then decide (a > b) else decide (a = b)
def unP (i : Fin 2) (p : Bool × Bool) : Bool × Bool := if i = 0 then (!p.1, !p.2) else (p.2, p.1)
def binP (i : Fin 4) (p q : Bool × Bool) : Bool × Bool :=
  if i = 0 then (p.1 && q.1, p.2 && q.2) else if i = 1 then (p.1 || q.1, p.2 || q.2)
  else if i = 2 then (p.1 || (!p.2 && q.1), p.2 || (!p.1 && q.2))
  else ((p.1 || q.1) && (!p.2 && !q.2), (p.2 || q.2) && (!p.1 && !q.1))
/-- the formula's answers both ways -/
def pr (r o : Row) : Fm → Bool × Bool
  | .cmp s c => (meets s (rowAt r (c.val : Int)) (rowAt o (c.val : Int)), meets s (rowAt o (c.val : Int)) (rowAt r (c.val : Int)))
  | .mark c s k => (meets s (rowAt r (c.val : Int)) k, meets s (rowAt o (c.val : Int)) k)
  | .un i f => unP i (f.pr r o)
  | .bin i f g => binP i (f.pr r o) (g.pr r o)
end Fm
theorem fm_code_len (f : Fm) : f.code.length = f.words.length := by
  induction f with
  | cmp | mark => rfl
  | un i f ih => simp [Fm.code, Fm.words, ih]
  | bin i f g ih1 ih2 => simp [Fm.code, Fm.words, ih1, ih2]
theorem fm_pos (f : Fm) : 0 < f.words.length := by cases f <;> simp [Fm.words]
/-! words, one by one -/
theorem op_u : ∀ i : Fin 2, opsT (uW i) = some 1 := by decide +kernel
theorem op_b : ∀ i : Fin 4, opsT (bW i) = some 2 := by decide +kernel
theorem op_c : ∀ s c : Fin 3, opsT (cmpW s c) = none := by decide +kernel
theorem ops_sig {w : Str} {n : Int} (h : opsT w = some n) : sg w 1 ∉ (Str.ofString "<>=").cps.toList := by
  have q : ∀ e ∈ opsL, sg e.1 1 ∉ (Str.ofString "<>=").cps.toList := by decide +kernel
  have key : ∀ l : List (Str × Int), (∀ e ∈ l, sg e.1 1 ∉ (Str.ofString "<>=").cps.toList) → lookS l w = some n → sg w 1 ∉ (Str.ofString "<>=").cps.toList := by
    intro l
    induction l with
    | nil => intro _ h; cases h
    | cons e l ih =>
      intro hl h
      obtain ⟨k, i⟩ := e
      unfold lookS at h
      split at h
      · rename_i hk; rw [← hk]; exact hl _ List.mem_cons_self
      · exact ih (fun e he => hl e (List.mem_cons_of_mem _ he)) h
  exact key _ q h
theorem sN_mem : ∀ s : Fin 3, sN s ∈ (Str.ofString "<>=").cps.toList := by decide +kernel
theorem lN_mem : ∀ s : Fin 3, lN s ∈ (Str.ofString "abc").cps.toList := by decide +kernel
theorem sN_not : ∀ s : Fin 3, ¬ sN s ∈ (Str.ofString "abc").cps.toList := by decide +kernel
theorem lN_not : ∀ s : Fin 3, ¬ lN s ∈ (Str.ofString "<>=").cps.toList := by decide +kernel
theorem lN_find : ∀ c : Fin 3, Txt.find (Str.ofString "abc") (cS (lN c)) = (c.val : Int) := by decide +kernel
theorem mark_tl (c s : Fin 3) (k : Int) : tl (markW c s k) = lN c :: sN s :: tl (Str.ofString (toString k)) := by
  rw [tl_app, tl_app]; rfl
theorem mark_0 (c s : Fin 3) (k : Int) : ixS (markW c s k) 0 = lN c := by show (tl (markW c s k)).getD 0 0 = _; rw [mark_tl]; rfl
theorem mark_1 (c s : Fin 3) (k : Int) : ixS (markW c s k) 1 = sN s := by show (tl (markW c s k)).getD 1 0 = _; rw [mark_tl]; rfl
theorem mark_len (c s : Fin 3) (k : Int) : (markW c s k).length = (Str.ofString (toString k)).length + 2 := by rw [len_tl, mark_tl, len_tl]; rfl
theorem mark_cut (c s : Fin 3) (k : Int) : cutS (markW c s k) (some 2) none = Str.ofString (toString k) := drop2 (mark_tl c s k)
theorem op_m (c s : Fin 3) (k : Int) : opsT (markW c s k) = none := by
  cases h : opsT (markW c s k) with
  | none => rfl
  | some n =>
    refine absurd ?_ (ops_sig h)
    show ixS (markW c s k) 1 ∈ _
    rw [mark_1]; exact sN_mem s
theorem const_sat {z : Str} (h0 : 0 < z.length) (h1 : z.length ≤ 600) : (m_constant_of z).sat (· = constM z) := by
  have hz : z.length ≤ sizeLine := by rw [size_big]; omega
  have hd : (digs z).length ≤ sizeLine := Nat.le_trans (digs_le z) hz
  unfold m_constant_of
  refine sat_req ⟨⟨Int.le_refl 0, by omega⟩, hz, fun _ => hz⟩ (sat_bnd (sat_req hd ?_))
  show Cmp.sat (if (!(decide ((1 : Int) ≤ ((digs z).length : Int)) && decide (((digs z).length : Int) ≤ (18 : Int)))) = true then _ else _ : Cmp (Option Int)) _
  refine sat_ite (fun h => ?_) fun h => ?_
  · refine sat_ret ?_
    unfold constM
    rw [if_pos]
    rintro ⟨a, b⟩
    rw [decide_eq_true a, decide_eq_true b] at h
    cases h
  have hc : (1 : Int) ≤ ((digs z).length : Int) ∧ ((digs z).length : Int) ≤ 18 := by simpa using h
  refine sat_bindR (P := fun c => (c = .rt none ∧ (digs z).cps.toList.all (fun c => decide (c ∈ tab)) = false) ∨ (c = .nx () ∧ (digs z).cps.toList.all (fun c => decide (c ∈ tab)) = true)) (sat_forCx (fun i _ => ((digs z).cps.toList.take i).all (fun c => decide (c ∈ tab)) = true) _ (by simp) (fun i x s hx hi => ?_) fun _ hi => ?_) fun c hc' => ?_
  · refine sat_ite (fun hb => sat_ret ?_) fun hb => sat_ret ?_
    · refine .inl ⟨rfl, ?_⟩
      refine List.all_eq_false.mpr ⟨x, List.mem_of_getElem? hx, by simpa using hb⟩
    · show (((digs z).cps.toList.take (i + 1)).all (fun c => decide (c ∈ tab))) = true
      rw [List.take_succ, List.all_append, hi, show (digs z).cps.toList[i]? = some x from hx]
      simpa using hb
  · have hi : (((digs z).cps.toList.take (digs z).cps.toList.length).all (fun c => decide (c ∈ tab))) = true := hi
    rw [List.take_length] at hi
    exact .inr ⟨rfl, hi⟩
  · rcases hc' with ⟨rfl, hf⟩ | ⟨rfl, ht⟩
    · refine sat_ret ?_
      unfold constM
      rw [if_neg (by simpa using hc), if_pos hf]
    · show Cmp.sat (Cmp.req _ _) _
      refine sat_req ⟨Int.le_refl 0, by show (0 : Int) < ((digs z).length : Int); omega⟩ (sat_ite (fun hb => sat_ret ?_) fun hb => sat_req ?_ (sat_ret ?_))
      · unfold constM
        rw [if_neg (by simpa using hc), if_neg (by rw [ht]; decide), if_pos]
        have hb : (decide (ch (digs z) 0 = ("0" : Str)) && !decide (z = ("0" : Str))) = true := hb
        simpa using hb
      · have := digs_some h0 hc ht
        exact ⟨by rw [this]; rfl, by omega⟩
      · unfold constM
        rw [if_neg (by simpa using hc), if_neg (by rw [ht]; decide), if_neg]
        have hb : (decide (ch (digs z) 0 = ("0" : Str)) && !decide (z = ("0" : Str))) = false := hb
        simpa using hb
theorem dec_u (i : Fin 2) : (m_decoded (uW i)).sat (· = some (uW i, -1, 0)) := by
  unfold m_decoded
  exact sat_ite (fun _ => sat_ret rfl) fun h => absurd h (by rw [op_u]; decide)
theorem dec_b (i : Fin 4) : (m_decoded (bW i)).sat (· = some (bW i, -1, 0)) := by
  unfold m_decoded
  exact sat_ite (fun _ => sat_ret rfl) fun h => absurd h (by rw [op_b]; decide)
theorem dec_c (s c : Fin 3) : (m_decoded (cmpW s c)).sat (· = some (cS (sN s), (c.val : Int), 0)) := by
  have hl : (cmpW s c).length = 2 := rfl
  have hz : (cmpW s c).length ≤ sizeLine := by rw [size_big, hl]; omega
  unfold m_decoded
  refine sat_ite (fun h => absurd h (by rw [op_c]; decide)) fun _ => sat_req ⟨hz, fun _ => ?_, fun _ => hz, fun _ _ => ?_, fun _ _ => hz⟩ (sat_ite (fun _ => sat_req ⟨?_, ?_⟩ (sat_ret ?_)) fun h => ?_)
  · rw [hl]; decide
  · rw [hl]; decide
  · rw [hl]; decide
  · rw [hl]; decide
  · show some (cS (sN s), Txt.find (Str.ofString "abc") (cS (lN c)), (0 : Int)) = _
    rw [lN_find]
  · exfalso
    have e0 : ixS (cmpW s c) 0 = sN s := rfl
    have e1 : ixS (cmpW s c) 1 = lN c := rfl
    rw [e0, e1, hl, decide_eq_true (sN_mem s), decide_eq_true (lN_mem c)] at h
    cases h
theorem dec_m (c s : Fin 3) {k : Int} (hk : k.natAbs < 10 ^ 18) : (m_decoded (markW c s k)).sat (· = some (Str.ofString "row" ++ cS (sN s), (c.val : Int), k)) := by
  obtain ⟨c1, c2, c3, _⟩ := constM_num hk
  have hl := mark_len c s k
  have hz : (markW c s k).length ≤ sizeLine := by rw [size_big]; omega
  have l3 : 3 ≤ (markW c s k).length := by omega
  unfold m_decoded
  refine sat_ite (fun h => absurd h (by rw [op_m]; decide)) fun _ => sat_req ⟨hz, fun _ => ⟨by omega, by omega⟩, fun _ => hz, fun _ _ => ⟨by omega, by omega⟩, fun _ _ => hz⟩ (sat_ite (fun h => ?_) fun _ => sat_req ⟨fun _ => ⟨by omega, by omega⟩, fun _ _ => ⟨by omega, by omega⟩⟩ (sat_ite (fun h => ?_) fun _ => ?_))
  · exfalso
    rw [decide_eq_false (by omega)] at h
    cases h
  · exfalso
    rw [mark_0, mark_1, decide_eq_false (by omega), decide_eq_true (lN_mem c), decide_eq_true (sN_mem s)] at h
    cases h
  · rw [mark_cut]
    obtain ⟨o1, o2⟩ := const_sat c3 (by omega)
    refine sat_req o1 (sat_bnd ?_)
    rw [o2, c1]
    refine sat_ite (fun h => (by cases h)) fun _ => sat_req ⟨⟨by omega, by omega⟩, ⟨by omega, by omega⟩, rfl⟩ (sat_ret ?_)
    show some (Str.ofString "row" ++ cS (ixS (markW c s k) 1), Txt.find (Str.ofString "abc") (cS (ixS (markW c s k) 0)), k) = _
    rw [mark_0, mark_1, lN_find]
abbrev enF (ws : List Str) (n : Nat) : List (Int × Str) := (ws.zipIdx n).map fun p => ((p.2 : Int), p.1)
theorem enF_cons (w : Str) (ws : List Str) (n : Nat) : enF (w :: ws) n = ((n : Int), w) :: enF ws (n + 1) := by simp [enF]
theorem enF_app (ws us : List Str) (n : Nat) : enF (ws ++ us) n = enF ws n ++ enF us (n + ws.length) := by simp [enF, List.zipIdx_append]
abbrev fmV (f : Fm) : FormV := ⟨f.words, f.code.reverse⟩
/-! making -/
section
variable {α S : Type} {Q : S → Prop}
theorem sat_forN_nil {f : α → S → Cmp S} {s : S} (h : Q s) : (forN f [] s).sat Q := ⟨trivial, h⟩
theorem sat_forN_cons {f : α → S → Cmp S} {x : α} {xs : List α} {s : S} {P : S → Prop} (h : (f x s).sat P) (k : ∀ s', P s' → (forN f xs s').sat Q) : (forN f (x :: xs) s).sat Q := by
  unfold forN; exact sat_bind h k
theorem sat_forN_app {f : α → S → Cmp S} {xs ys : List α} {s : S} {P : S → Prop} (h : (forN f xs s).sat P) (k : ∀ s', P s' → (forN f ys s').sat Q) : (forN f (xs ++ ys) s).sat Q := by
  induction xs generalizing s with
  | nil => exact k s h.2
  | cons x xs ih =>
    unfold forN at h
    have h1 : (f x s).ok := h.1.1
    have h2 : (forN f xs (f x s).val).sat P := ⟨h.1.2, h.2⟩
    exact sat_forN_cons (P := fun s' => s' = (f x s).val) ⟨h1, rfl⟩ fun s' e => by rw [e]; exact ih h2
end
theorem leaf_code (f : Fm) : f.code.length ≤ f.words.length := by rw [fm_code_len]; exact Nat.le_refl _
abbrev initB : Int × Str → (List (Str × Int × Int)) × Int → Cmp ((List (Str × Int × Int)) × Int) := (fun ((v_at, v_word) : Int × Str) ((v_code, v_missing) : (List (Str × Int × Int)) × Int) => .req (((m_decoded v_word).ok)) (.bnd ((m_decoded v_word).val : Option (Str × Int × Int)) fun v_step => if ((decide (v_missing = (0 : Int))) || v_step.isNone) = true then (⟨False, default⟩) else (.bnd (((v_missing + ((opsT v_word).getD (0 : Int))) - (1 : Int)) : Int) fun v_missing => .req ((v_step.isSome = true) ∧ (v_code.length < sizeLine)) (.bnd (v_code ++ [(v_step.getD default)]) fun v_code => .ret (v_code, v_missing)))))
theorem initB_one {a m k : Int} {w : Str} {code : List (Str × Int × Int)} {st : Str × Int × Int} (hd : (m_decoded w).sat (· = some st)) (ho : (opsT w).getD 0 = k) (hm : 1 ≤ m) (hz : code.length < 1000) : (initB (a, w) (code, m)).sat (· = (code ++ [st], m + k - 1)) := by
  obtain ⟨o1, o2⟩ := hd
  refine sat_req o1 (sat_bnd ?_)
  rw [o2, ho]
  refine sat_ite (fun h => ?_) fun _ => sat_bnd (sat_req ⟨rfl, by rw [size_big]; omega⟩ (sat_bnd (sat_ret rfl)))
  rw [decide_eq_false (by omega)] at h; cases h
theorem init_fm (f : Fm) (ok : f.Ok) : ∀ (n : Nat) (code : List (Str × Int × Int)) (m : Int), 1 ≤ m → code.length + f.words.length < 1000 → (forN initB (enF f.words n) (code, m)).sat (· = (code ++ f.code, m - 1)) := by
  induction f with
  | cmp s c =>
    intro n code m hm hz
    refine sat_forN_cons (initB_one (dec_c s c) (by rw [op_c]; try rfl) hm (by omega)) fun s' e => sat_forN_nil ?_
    rw [e]; simp [Fm.code]
  | mark c s k =>
    intro n code m hm hz
    refine sat_forN_cons (initB_one (dec_m c s ok) (by rw [op_m]; try rfl) hm (by omega)) fun s' e => sat_forN_nil ?_
    rw [e]; simp [Fm.code]
  | un i f ih =>
    intro n code m hm hz
    simp only [Fm.words, List.length_cons] at hz
    rw [Fm.words, enF_cons]
    refine sat_forN_cons (initB_one (dec_u i) (by rw [op_u]; try rfl) hm (by omega)) fun s' e => ?_
    rw [e]
    refine sat_mono (ih ok (n + 1) _ (m + 1 - 1) (by omega) (by simp; omega)) fun s h => ?_
    rw [h]; simp [Fm.code]
  | bin i f g ih1 ih2 =>
    intro n code m hm hz
    simp only [Fm.words, List.length_cons, List.length_append] at hz
    rw [Fm.words, enF_cons, enF_app]
    refine sat_forN_cons (initB_one (dec_b i) (by rw [op_b]; try rfl) hm (by omega)) fun s' e => ?_
    rw [e]
    refine sat_forN_app (ih1 ok.1 (n + 1) _ (m + 2 - 1) (by omega) (by simp; omega)) fun s h => ?_
    rw [h]
    refine sat_mono (ih2 ok.2 _ _ (m + 2 - 1 - 1) (by omega) (by simp [fm_code_len]; omega)) fun s h => ?_
    rw [h]; simp [Fm.code]; omega
theorem init_sat {f : Fm} (ok : f.Ok) (h40 : f.words.length ≤ 40) : (m_Formula___init__ f.words).sat (· = fmV f) := by
  unfold m_Formula___init__
  refine sat_ite (fun h => absurd (of_decide_eq_true h) (by omega)) fun _ => sat_bnd (sat_bnd (sat_bind (init_fm f ok 0 [] 1 (by omega) (by simp; omega)) fun s h => ?_))
  rw [h]
  exact sat_ite (fun h => (by cases h)) fun _ => sat_ret (by simp [fmV])
/-! ### small things of lists -/
theorem take_at {α : Type} {xs : List α} {i : Nat} {x : α} (h : xs[i]? = some x) : xs.take (i + 1) = xs.take i ++ [x] := by rw [List.take_succ, h]; rfl
theorem filter_t {α : Type} (xs : List α) : (xs.filter (fun _ => true)) = xs := List.filter_eq_self.mpr fun _ _ => rfl
/-- a loop that says nothing -/
theorem sat_quiet {α R : Type} {L : Type} {xs : List α} {f : α → Unit → Cmp (Ctl Unit Unit R)} (hs : ∀ x ∈ xs, (f x ()).sat (· = .nx ())) : (forC (L := L) f xs ()).sat (· = .nx ()) := by
  refine sat_mono (sat_forC (fun _ _ => True) trivial fun i x s hx _ => sat_mono (hs x (List.mem_of_getElem? hx)) fun c hc => ⟨(), .inl hc, trivial⟩) fun c hc => ?_
  obtain ⟨s', e, _⟩ := hc
  exact e
theorem range_mem {n : Nat} {x : Int} (h : x ∈ rangeL 0 (n : Int)) : 0 ≤ x ∧ x < (n : Int) := by
  unfold rangeL at h
  obtain ⟨i, hi, e⟩ := List.mem_map.mp h
  have := List.mem_range.mp hi
  omega
end DL

set_option Elab.async false
set_option linter.all false
set_option maxRecDepth 100000
set_option maxHeartbeats 4000000
namespace DL
open PySem PySem.Spec PyProof.Rows L2 TL
/-! ### mirrors of what may raise -/
section
variable {α β γ δ S S2 L R : Type}
theorem sat_bindX_rt {m : Cmp (Ctl Unit Unit β)} {k : β → Cmp (Ctl S L R)} {v : β} {Q : Ctl S L R → Prop} (h : m.sat (· = .rt v)) (k' : (k v).sat Q) : (m.bindX k).sat Q := sat_bind h fun c hc => by subst hc; exact k'
theorem sat_bindX_ex {m : Cmp (Ctl Unit Unit β)} {k : β → Cmp (Ctl S L R)} {e : Exn} {Q : Ctl S L R → Prop} (h : m.sat (· = .ex e)) (q : Q (.ex e)) : (m.bindX k).sat Q := sat_bind h fun c hc => by subst hc; exact sat_ret q
theorem sat_calm [Inhabited β] {m : Cmp (Ctl Unit Unit β)} {v : β} {Q : β → Prop} (h : m.sat (· = .rt v)) (q : Q v) : m.calm.sat Q := sat_bind h fun c hc => by subst hc; exact sat_ret q
theorem sat_made_nx {m : Cmp (Ctl β Unit Unit)} {v : β} (h : m.sat (· = .nx v)) : m.made.sat (· = .rt v) := sat_bind h fun c hc => by subst hc; exact sat_ret rfl
theorem sat_made_ex {m : Cmp (Ctl β Unit Unit)} {e : Exn} (h : m.sat (· = .ex e)) : m.made.sat (· = .ex e) := sat_bind h fun c hc => by subst hc; exact sat_ret rfl
theorem sat_ended_nx {m : Cmp (Ctl S L (Unit × S))} {v : S} (h : m.sat (· = .nx v)) : m.ended.sat (· = .rt ((), v)) := sat_bind h fun c hc => by subst hc; exact sat_ret rfl
theorem sat_ended_ex {m : Cmp (Ctl S L (Unit × S))} {e : Exn} (h : m.sat (· = .ex e)) : m.ended.sat (· = .ex e) := sat_bind h fun c hc => by subst hc; exact sat_ret rfl
theorem sat_try_nx {m : Cmp (Ctl S L R)} {h : Exn → Cmp R} {s : S} {Q : Ctl S L R → Prop} (hm : m.sat (· = .nx s)) (q : Q (.nx s)) : (tryM m h).sat Q := sat_bind hm fun c hc => by subst hc; exact sat_ret q
theorem sat_try_rt {m : Cmp (Ctl S L R)} {h : Exn → Cmp R} {r : R} {Q : Ctl S L R → Prop} (hm : m.sat (· = .rt r)) (q : Q (.rt r)) : (tryM m h).sat Q := sat_bind hm fun c hc => by subst hc; exact sat_ret q
theorem sat_try_ex {m : Cmp (Ctl S L R)} {h : Exn → Cmp R} {e : Exn} {Q : Ctl S L R → Prop} (hm : m.sat (· = .ex e)) (q : (h e).sat fun r => Q (.rt r)) : (tryM m h).sat Q := sat_bind hm fun c hc => by subst hc; exact sat_bind q fun r hr => sat_ret hr
theorem sat_onErr [Inhabited R] {i : Nat} {z : Int} {f : Int → Cmp R} {Q : R → Prop} (h : (f z).sat Q) : (onErr i ⟨i, .int z⟩ f).sat Q := by
  unfold onErr
  rw [if_pos rfl]
  exact h
theorem sat_setX_rt {mc : Cmp (Ctl Unit Unit (β × δ))} {m : δ → Cmp (Ctl S L R)} {p : β × δ} {Q : Ctl S L R → Prop} (h : mc.sat (· = .rt p)) (k' : (m p.2).sat Q) : (setX mc m).sat Q := sat_bindX_rt h k'
theorem sat_setX_ex {mc : Cmp (Ctl Unit Unit (β × δ))} {m : δ → Cmp (Ctl S L R)} {e : Exn} {Q : Ctl S L R → Prop} (h : mc.sat (· = .ex e)) (q : Q (.ex e)) : (setX mc m).sat Q := sat_bindX_ex h q
theorem sat_methX_rt {mc : Cmp (Ctl Unit Unit (β × γ))} {upd : γ → S} {p : β × γ} (h : mc.sat (· = .rt p)) : (methX mc upd).sat (· = .rt (p.1, upd p.2)) := sat_bindX_rt h (sat_ret rfl)
theorem sat_methX_ex {mc : Cmp (Ctl Unit Unit (β × γ))} {upd : γ → S} {e : Exn} (h : mc.sat (· = .ex e)) : (methX mc upd).sat (· = .ex e) := sat_bindX_ex h rfl
theorem sat_methM' {mc : Cmp (β × γ)} {upd : γ → S} {P : β × S → Prop} (h : mc.sat fun v => P (v.1, upd v.2)) : (methM mc upd).sat P := sat_bind h fun v hv => sat_ret hv
theorem sat_callM' {m : Cmp (γ × S)} {cd : γ → S → Prop} {v : γ → S → β} {P : β × S → Prop} (h : m.sat fun p => cd p.1 p.2 ∧ P (v p.1 p.2, p.2)) : (callM m cd v).sat P := sat_bind h fun p hp => sat_req hp.1 (sat_ret hp.2)
theorem sat_orM' {m : Cmp (Bool × S)} {m2 : S → Cmp (Bool × S)} {P : Bool × S → Prop} (h : m.sat fun p => p.1 = false ∧ (m2 p.2).sat P) : (orM m m2).sat P := sat_bind h fun p hp => by rw [if_neg (by rw [hp.1]; decide)]; exact hp.2
theorem sat_iteF' {m : Cmp (Bool × S)} {m1 m2 : S → Cmp α} {Q : α → Prop} (h : m.sat fun p => p.1 = false ∧ (m2 p.2).sat Q) : (iteM m m1 m2).sat Q := sat_bind h fun p hp => by rw [if_neg (by rw [hp.1]; decide)]; exact hp.2
end
end DL

set_option Elab.async false
set_option linter.all false
set_option maxRecDepth 100000
set_option maxHeartbeats 4000000
namespace DL
open PySem PySem.Spec PyProof.Rows L2 TL
theorem fin_of8 {i : Int} (h0 : 0 ≤ i) (h1 : i < 8) : ∃ k : Fin 8, (k.val : Int) = i := ⟨⟨i.toNat, by omega⟩, by simp; omega⟩
/-! ### rooms of a reader -/
theorem split1 : ∀ s c : Fin 3, Txt.split (cmpW s c) (Str.ofString " ") = [cmpW s c] := by decide +kernel
theorem read1 (s c : Fin 3) : (m_Formula_read (cmpW s c)).sat (· = fmV (.cmp s c)) := by
  obtain ⟨o, e⟩ := init_sat (f := .cmp s c) trivial (by show 1 ≤ 40; decide)
  unfold m_Formula_read
  rw [split1]
  exact sat_req ⟨by rw [size_big]; show 2 + 2 ≤ _; omega, o⟩ (sat_ret e)
abbrev rmOk (n : Int) : Bool := decide ((1 : Int) ≤ n) && decide (n ≤ (1000 : Int))
abbrev refT (n : Int) : Str := (Str.ofString "refused ") ++ (Str.ofString (toString n))
section
variable {n : Int}
theorem rmOk_t (h : rmOk n = true) : (!rmOk n) = false := by rw [h]; rfl
theorem rmOk_f (h : rmOk n = false) : (!rmOk n) = true := by rw [h]; rfl
theorem setn_t (h : rmOk n = true) (v : Reader0V) : (mx_Reader_room_setter_new v n).ended.sat (· = .rt ((), ⟨v.formula, v.passes, n⟩)) := by
  refine sat_ended_nx ?_
  unfold mx_Reader_room_setter_new
  refine sat_ite (fun q => ?_) fun _ => sat_bnd (sat_ret rfl)
  have q : (!rmOk n) = true := q
  rw [rmOk_t h] at q; cases q
theorem setn_f (h : rmOk n = false) (v : Reader0V) : (mx_Reader_room_setter_new v n).ended.sat (· = .ex ⟨8, .int n⟩) := by
  refine sat_ended_ex ?_
  unfold mx_Reader_room_setter_new
  refine sat_ite (fun _ => sat_ret rfl) fun q => ?_
  have q : (!rmOk n) = false := q
  rw [rmOk_f h] at q; cases q
theorem setr_t (h : rmOk n = true) (v : ReaderV) : (mx_Reader_room_setter v n).ended.sat (· = .rt ((), { v with space := n })) := by
  refine sat_ended_nx ?_
  unfold mx_Reader_room_setter
  refine sat_ite (fun q => ?_) fun _ => sat_bnd (sat_ret rfl)
  have q : (!rmOk n) = true := q
  rw [rmOk_t h] at q; cases q
theorem setr_f (h : rmOk n = false) (v : ReaderV) : (mx_Reader_room_setter v n).ended.sat (· = .ex ⟨8, .int n⟩) := by
  refine sat_ended_ex ?_
  unfold mx_Reader_room_setter
  refine sat_ite (fun _ => sat_ret rfl) fun q => ?_
  have q : (!rmOk n) = false := q
  rw [rmOk_f h] at q; cases q
theorem rsz_t (h : rmOk n = true) (v : ReaderV) : (mx_Reader_resize v n).ended.sat (· = .rt ((), { v with space := n })) := by
  refine sat_ended_nx ?_
  unfold mx_Reader_resize
  exact sat_setX_rt (setr_t h v) (sat_ret rfl)
theorem rsz_f (h : rmOk n = false) (v : ReaderV) : (mx_Reader_resize v n).ended.sat (· = .ex ⟨8, .int n⟩) := by
  refine sat_ended_ex ?_
  unfold mx_Reader_resize
  exact sat_setX_ex (setr_f h v) rfl
theorem mkx_t (h : rmOk n = true) (F : FormV) : (mx_Reader___init__ F n).made.sat (· = .rt ⟨F, 0, n⟩) := by
  refine sat_made_nx ?_
  unfold mx_Reader___init__
  exact sat_bnd (sat_bnd (sat_setX_rt (setn_t h _) (sat_ret rfl)))
theorem mkx_f (h : rmOk n = false) (F : FormV) : (mx_Reader___init__ F n).made.sat (· = .ex ⟨8, .int n⟩) := by
  refine sat_made_ex ?_
  unfold mx_Reader___init__
  exact sat_bnd (sat_bnd (sat_setX_ex (setn_f h _) rfl))
theorem mk_sat (h : rmOk n = true) (F : FormV) : (m_Reader___init__ F n).sat (· = ⟨F, 0, n⟩) := sat_calm (mkx_t h F) rfl
theorem tok_len (n : Int) : n.natAbs < 10 ^ 18 → n.natAbs.log2 < 1920 ∧ (Str.ofString "refused ").length + (Str.ofString (toString n)).length ≤ sizeLine := fun h => by
  obtain ⟨_, c2, _, _⟩ := constM_num h
  have : (Str.ofString "refused ").length = 8 := by decide +kernel
  exact ⟨log2_small h, by rw [size_big]; omega⟩

theorem refn_t (h : rmOk n = true) (F : FormV) : (m_law_refused_n () F n).sat (· = Str.ofString "") := by
  unfold m_law_refused_n
  refine sat_bindR (P := (· = .nx ())) (sat_try_nx (sat_req ?_ (sat_bindX_rt (mkx_t h F) (sat_ret rfl))) rfl) fun c hc => by subst hc; exact sat_ret rfl
  rw [(mkx_t h F).2]; trivial
theorem refn_f (h : rmOk n = false) (hn : n.natAbs < 10 ^ 18) (F : FormV) : (m_law_refused_n () F n).sat (· = refT n) := by
  unfold m_law_refused_n
  refine sat_bindR (P := (· = .rt (refT n))) (sat_try_ex (e := ⟨8, .int n⟩) (sat_req ?_ (sat_bindX_ex (mkx_f h F) rfl)) (sat_onErr (sat_ite (fun q => (by cases q)) fun _ => sat_ite (fun q => (by cases q)) fun _ => sat_req (tok_len n hn) (sat_ret rfl)))) fun c hc => by subst hc; exact sat_ret rfl
  rw [(mkx_f h F).2]; exact .inl ⟨_, rfl⟩
theorem ref_t (h : rmOk n = true) (v : ReaderV) (F : FormV) : (m_law_refused v F n).sat (· = (Str.ofString "", { v with space := n })) := by
  unfold m_law_refused
  exact sat_bindR (P := (· = .nx { v with space := n })) (sat_try_nx (sat_setX_rt (sat_methX_rt (rsz_t h v)) (sat_ret rfl)) rfl) fun c hc => by subst hc; exact sat_ret rfl
theorem ref_f (h : rmOk n = false) (hn : n.natAbs < 10 ^ 18) (v : ReaderV) (F : FormV) : (m_law_refused v F n).sat (· = (refT n, v)) := by
  unfold m_law_refused
  exact sat_bindR (P := (· = .rt (refT n, v))) (sat_try_ex (e := ⟨8, .int n⟩) (sat_setX_ex (sat_methX_ex (rsz_f h v)) rfl) (sat_onErr (sat_ite (fun q => (by cases q)) fun _ => sat_ite (fun q => (by cases q)) fun _ => sat_req (tok_len n hn) (sat_ret rfl)))) fun c hc => by subst hc; exact sat_ret rfl
end
theorem num_sat (a b : Int) : (m_law_number a b).sat fun r => -3 ≤ r ∧ r ≤ 1004 := by
  unfold m_law_number
  refine sat_bnd (sat_ret ?_)
  obtain ⟨k, hk⟩ := fin_of8 (i := a % 8) (by omega) (by omega)
  rw [← hk]
  generalize hz : (b * 7 % 1008 - 3 : Int) = z
  have h1 : -3 ≤ z := by omega
  have h2 : z ≤ 1004 := by omega
  revert k
  intro k _
  match k with
  | ⟨0, _⟩ => exact ⟨by show (-3 : Int) ≤ 0; omega, by show (0 : Int) ≤ 1004; omega⟩
  | ⟨1, _⟩ => exact ⟨by show (-3 : Int) ≤ 1; omega, by show (1 : Int) ≤ 1004; omega⟩
  | ⟨2, _⟩ => exact ⟨by show (-3 : Int) ≤ 1000; omega, by show (1000 : Int) ≤ 1004; omega⟩
  | ⟨3, _⟩ => exact ⟨by show (-3 : Int) ≤ 1001; omega, by show (1001 : Int) ≤ 1004; omega⟩
  | ⟨4, _⟩ => exact ⟨by show (-3 : Int) ≤ -1; omega, by show (-1 : Int) ≤ 1004; omega⟩
  | ⟨5, _⟩ => exact ⟨by show (-3 : Int) ≤ 2; omega, by show (2 : Int) ≤ 1004; omega⟩
  | ⟨6, _⟩ => exact ⟨h1, h2⟩
  | ⟨7, _⟩ => exact ⟨h1, h2⟩
theorem room_sat (v : ReaderV) : (m_Reader_room v).sat (· = v.space) := sat_ret rfl
theorem law_true (s : List Int) (h : s.length ≤ 63) : (m_law s).ok ∧ (m_law s).val = true := by
  show (m_law s).sat (· = true)
  unfold m_law
  obtain ⟨oa, hp⟩ := pool_sat s (k := 0) (n := 14) (by omega) (by omega) (by omega)
  refine sat_req oa (sat_bnd ?_)
  generalize (m_law_pool s 0 14).val = pool at hp ⊢
  obtain ⟨i6, a6, b6⟩ := hp.at (i := 6) (by omega) (by omega)
  obtain ⟨i7, a7, b7⟩ := hp.at (i := 7) (by omega) (by omega)
  have hw : ∃ sg_ c : Fin 3, ((cS (ixS (Str.ofString "<>") (ixL pool 6 % 2))) ++ (cS (ixS (Str.ofString "abc") (ixL pool 7 % 3)))) = cmpW sg_ c := by
    obtain ⟨x, hx⟩ := fin_of8 (i := ixL pool 6 % 2) (by omega) (by omega)
    obtain ⟨y, hy⟩ := fin_of8 (i := ixL pool 7 % 3) (by omega) (by omega)
    have q : ∀ x y : Fin 8, x.val < 2 → y.val < 3 → ∃ sg_ c : Fin 3, ((cS (ixS (Str.ofString "<>") (x.val : Int))) ++ (cS (ixS (Str.ofString "abc") (y.val : Int)))) = cmpW sg_ c := by decide +kernel
    obtain ⟨s1, c1, e⟩ := q x y (by omega) (by omega)
    exact ⟨s1, c1, by rw [← hx, ← hy]; exact e⟩
  obtain ⟨sg_, c, ew⟩ := hw
  rw [ew]
  obtain ⟨or_, er_⟩ := read1 sg_ c
  refine sat_req ⟨i6, i7, or_⟩ (sat_bnd ?_)
  generalize (m_Formula_read (cmpW sg_ c)).val = F
  obtain ⟨o7, e7⟩ := mk_sat (n := 7) (by decide) F
  obtain ⟨o2, e2⟩ := mk_sat (n := 2) (by decide) F
  refine sat_req o7 (sat_bnd (sat_req o2 (sat_bnd (sat_bnd ?_))))
  rw [e7, e2]
  refine sat_bindR (P := fun c => ∃ s', c = .nx s') (sat_mono (sat_forC (fun _ (s : ReaderV × Int) => s.1 = ⟨F, 0, s.2⟩) rfl fun i k s hk hs => ?_) fun c hc => ?_) fun c hc => ?_
  · obtain ⟨rd, room⟩ := s
    obtain rfl : rd = ⟨F, 0, room⟩ := hs
    have hk6 : 0 ≤ k ∧ k < 6 := range_mem (n := 6) (List.mem_of_getElem? hk)
    obtain ⟨ik, _, _⟩ := hp.at (i := k) (by omega) (by omega)
    obtain ⟨ik8, _, _⟩ := hp.at (i := 8 + k) (by omega) (by omega)
    obtain ⟨on, hn⟩ := num_sat (ixL pool k) (ixL pool (8 + k))
    show Cmp.sat (Cmp.req _ _) _
    refine sat_req ⟨ik, ik8, on⟩ (sat_bnd ?_)
    generalize (m_law_number (ixL pool k) (ixL pool (8 + k))).val = n at hn ⊢
    have hs : n.natAbs < 10 ^ 18 := by omega
    obtain ⟨r1, r2⟩ := room_sat (⟨F, 0, n⟩ : ReaderV)
    refine sat_bnd ?_
    by_cases hb : rmOk n = true
    · refine sat_bind (P := (· = (n, Str.ofString ""))) (sat_ite (fun q => ?_) fun _ => sat_bnd (sat_ret rfl)) fun b eb => ?_
      · exfalso
        have : 1 ≤ n ∧ n ≤ 1000 := by simpa [rmOk] using hb
        rw [decide_eq_false (by omega), decide_eq_false (by omega)] at q
        cases q
      subst eb
      obtain ⟨t1, t2⟩ := refn_t hb F
      obtain ⟨k1, k2⟩ := mk_sat hb F
      show Cmp.sat (iteM _ _ _) _
      refine sat_iteF' (sat_orM' (sat_callM' (sat_methM' (sat_mono (ref_t hb ⟨F, 0, room⟩ F) fun v hv => ?_))))
      subst hv
      refine ⟨trivial, by show (!decide (Str.ofString "" = Str.ofString "")) = false; decide, ?_⟩
      refine sat_req t1 (sat_ret ⟨by show (!decide ((m_law_refused_n () F n).val = Str.ofString "")) = false; rw [t2]; decide, ?_⟩)
      refine sat_req ⟨r1, fun _ => r1, fun _ _ => r1⟩ (sat_ite (fun q => ?_) fun _ => sat_req ⟨fun _ => k1, fun _ => ?_⟩ (sat_ite (fun q => ?_) fun _ => sat_ret ⟨(⟨F, 0, n⟩, n), .inl rfl, rfl⟩))
      · exfalso
        have q : (!decide ((m_Reader_room (⟨F, 0, n⟩ : ReaderV)).val = n)) = true := q
        rw [r2, decide_eq_true rfl] at q; cases q
      · exact trivial
      · exfalso
        have q : (decide (Str.ofString "" = Str.ofString "") && !decide ((m_Reader_room ((m_Reader___init__ F n).val)).val = n)) = true := q
        rw [k2, r2, decide_eq_true (p := n = n) rfl, Bool.not_true, Bool.and_false] at q; cases q
    · have hb : rmOk n = false := by simpa using hb
      refine sat_bind (P := (· = (room, refT n))) (sat_ite (fun _ => sat_req (tok_len n hs) (sat_bnd (sat_ret rfl))) fun q => ?_) fun b eb => ?_
      · exfalso
        have h1 : ¬ (1 ≤ n ∧ n ≤ 1000) := by simpa [rmOk] using hb
        have h2 : ¬ (n < 1) ∧ ¬ (n > 1000) := by simpa using q
        omega
      subst eb
      obtain ⟨t1, t2⟩ := refn_f hb hs F
      obtain ⟨r1, r2⟩ := room_sat (⟨F, 0, room⟩ : ReaderV)
      have ne : decide (refT n = Str.ofString "") = false := decide_eq_false fun e => by
        have h0 := congrArg Str.length e
        rw [app_len] at h0
        have h8 : (Str.ofString "refused ").length = 8 := by decide +kernel
        have h9 : (Str.ofString "").length = 0 := by decide +kernel
        omega
      show Cmp.sat (iteM _ _ _) _
      refine sat_iteF' (sat_orM' (sat_callM' (sat_methM' (sat_mono (ref_f hb hs ⟨F, 0, room⟩ F) fun v hv => ?_))))
      subst hv
      refine ⟨trivial, by show (!decide (refT n = refT n)) = false; rw [decide_eq_true rfl]; rfl, ?_⟩
      refine sat_req t1 (sat_ret ⟨by show (!decide ((m_law_refused_n () F n).val = refT n)) = false; rw [t2, decide_eq_true rfl]; rfl, ?_⟩)
      refine sat_req ⟨r1, fun _ => r1, fun _ _ => r1⟩ (sat_ite (fun q => ?_) fun _ => sat_req ⟨fun q => ?_, fun q => ?_⟩ (sat_ite (fun q => ?_) fun _ => sat_ret ⟨(⟨F, 0, room⟩, room), .inl rfl, rfl⟩))
      · exfalso
        have q : (!decide ((m_Reader_room (⟨F, 0, room⟩ : ReaderV)).val = room)) = true := q
        rw [r2, decide_eq_true rfl] at q; cases q
      · exfalso
        have q : decide (refT n = Str.ofString "") = true := q
        rw [ne] at q; cases q
      · exfalso
        have q : decide (refT n = Str.ofString "") = true := q
        rw [ne] at q; cases q
      · exfalso
        have q : (decide (refT n = Str.ofString "") && _) = true := q
        rw [ne] at q; cases q
  · obtain ⟨s', e, _⟩ := hc
    exact ⟨s', e⟩
  · obtain ⟨s', rfl⟩ := hc
    show Cmp.sat (Cmp.req _ _) _
    obtain ⟨r1, r2⟩ := room_sat (⟨F, 0, 2⟩ : ReaderV)
    refine sat_req r1 (sat_ret ?_)
    show (decide ((m_Reader_room (⟨F, 0, 2⟩ : ReaderV)).val = 2) && _) = true
    rw [r2]; show (decide ((2 : Int) = 2) && decide ((1000 : Int) = 1000)) = true; decide
end DL

set_option Elab.async false
set_option linter.all false
set_option maxRecDepth 100000
set_option maxHeartbeats 4000000
namespace DL
open PySem PySem.Spec PyProof.Rows L2 TL
theorem law_ok {ad : Ads} (L : Om) (s : List Int) (h : s.length ≤ 63) : ar_law ad L [.frl (s.map D.int)] (.bl true) := ⟨_, s, rfl, .inr rfl, (law_true s h).1, by rw [(law_true s h).2]⟩
abbrev s_BadRoom___init__ : Stmt := inClass (top 7) 0
theorem all_mk {P : Program} {w : World} {K : PySem.W.Frag} {h : Heap} {mg : Str → Option Value} {fa : Addr} (X : K.In h) (G : h.Ns mainGlobals mg) (hfa : mg "law" = some (.ref fa))
    {CFormula CReader f_law_pool f_constant_of f_decoded aOPERANDS f_Formula___init__ f_Formula_read p_Formula_read f_Reader_room_setter_new CBadRoom CTableError f_BadRoom___init__ f_Reader___init__ kD_Reader___init__ p_Reader_room f_Reader_room_setter f_Reader_resize p_Reader_room_w f_Reader_room f_law_number f_law_refused_n CBadKey f_law_refused f_law : Addr} {od_law_pool an_law_pool od_constant_of an_constant_of od_decoded an_decoded od_Formula___init__ an_Formula___init__ od_Formula_read an_Formula_read od_Reader_room_setter_new an_Reader_room_setter_new od_Reader___init__ an_Reader___init__ od_Reader_room_setter an_Reader_room_setter od_Reader_resize an_Reader_resize od_Reader_room an_Reader_room od_law_number an_law_number od_law_refused_n an_law_refused_n od_law_refused an_law_refused od_law an_law : Option Addr} {sl_law_pool sl_constant_of sl_decoded sl_Formula___init__ sl_Formula_read sl_Reader_room_setter_new sl_Reader___init__ sl_Reader_room_setter sl_Reader_resize sl_Reader_room sl_law_number sl_law_refused_n sl_law_refused sl_law : Array (Option Value)} {oc_law_pool kV_law_pool dc_law_pool pm_law_pool cd_law_pool ct_law_pool oc_constant_of kV_constant_of dc_constant_of pm_constant_of cd_constant_of ct_constant_of oc_decoded kV_decoded dc_decoded pm_decoded cd_decoded ct_decoded oc_Formula___init__ kV_Formula___init__ dc_Formula___init__ pm_Formula___init__ cd_Formula___init__ ct_Formula___init__ oc_Formula_read kV_Formula_read dc_Formula_read pm_Formula_read cd_Formula_read ct_Formula_read oc_Reader_room_setter_new kV_Reader_room_setter_new dc_Reader_room_setter_new pm_Reader_room_setter_new cd_Reader_room_setter_new ct_Reader_room_setter_new oc_Reader___init__ dc_Reader___init__ pm_Reader___init__ cd_Reader___init__ ct_Reader___init__ psv_Reader_room oc_Reader_room_setter kV_Reader_room_setter dc_Reader_room_setter pm_Reader_room_setter cd_Reader_room_setter ct_Reader_room_setter oc_Reader_resize kV_Reader_resize dc_Reader_resize pm_Reader_resize cd_Reader_resize ct_Reader_resize psv_Reader_room_w oc_Reader_room kV_Reader_room dc_Reader_room pm_Reader_room cd_Reader_room ct_Reader_room oc_law_number kV_law_number dc_law_number pm_law_number cd_law_number ct_law_number oc_law_refused_n kV_law_refused_n dc_law_refused_n pm_law_refused_n cd_law_refused_n ct_law_refused_n oc_law_refused kV_law_refused dc_law_refused pm_law_refused cd_law_refused ct_law_refused oc_law kV_law dc_law pm_law cd_law ct_law : Value} {rest_Formula_read rest_Reader_room rest_ps_Reader_room rest_ps_Reader_room_w : List Value} {es_OPERANDS : Array DictEntry} {n_OPERANDS : Nat} {tCOLUMNS tFormulaMOST tReaderMOST : Tok} {nm_BadRoom q_BadRoom : Str} {N_BadRoom : Addr} {bs_BadRoom : List Value} {sn_BadRoom : List Str} {sub_BadRoom : List Value} {ab_BadRoom : Bool} {col_BadRoom : Option Bool} {dd_BadRoom : Option Addr} {m0_BadRoom m1_BadRoom m2_BadRoom m3_BadRoom m5_BadRoom : Option Value} {oc_BadRoom : Value} {od_BadRoom : Option Addr} {kV_BadRoom dc_BadRoom pm_BadRoom : Value} {an_BadRoom : Option Addr} {ct_BadRoom : Value} {sl_BadRoom : Array (Option Value)} {cda_BadRoom cc_BadRoom : Addr} {ccl_BadRoom cl_BadRoom : Value} {cdd_BadRoom cld_BadRoom : Option Addr} {ccs_BadRoom csl_BadRoom : Array (Option Value)} {fs_BadRoom : Array Value} {file_BadRoom : Str} {tf_BadRoom : Tok} {kt_Reader___init__ : Tok}
    (aC_Formula : PySem.W.nsIn K mainGlobals "Formula" = some (some (.ref CFormula)))
    (aC_Reader : PySem.W.nsIn K mainGlobals "Reader" = some (some (.ref CReader)))
    (aC_BadRoom : PySem.W.nsIn K mainGlobals "BadRoom" = some (some (.ref CBadRoom)))
    (aC_TableError : PySem.W.nsIn K mainGlobals "TableError" = some (some (.ref CTableError)))
    (aC_BadKey : PySem.W.nsIn K mainGlobals "BadKey" = some (some (.ref CBadKey)))
    (psa_Reader_room : PySem.W.takerIn K CReader "room" = some (some (.ref p_Reader_room)))
    (psb_Reader_room : PySem.W.typeIn K (.ref p_Reader_room) = some (.type "property"))
    (psc_Reader_room : PySem.W.recIn K p_Reader_room "property" = some (psv_Reader_room :: .ref f_Reader_room_setter_new :: rest_ps_Reader_room))
    (psa_Reader_room_w : PySem.W.takerIn K CReader "room" = some (some (.ref p_Reader_room_w)))
    (psb_Reader_room_w : PySem.W.typeIn K (.ref p_Reader_room_w) = some (.type "property"))
    (psc_Reader_room_w : PySem.W.recIn K p_Reader_room_w "property" = some (psv_Reader_room_w :: .ref f_Reader_room_setter :: rest_ps_Reader_room_w))
    (ma_Reader_Reader_resize : PySem.W.findIn K (.ref CReader) "resize" = some (some (.ref f_Reader_resize)))
    (pg_Formula : PySem.W.plainGet K CFormula Str.empty = true)
    (hd_Formula : PySem.W.hasDictIn K CFormula = true)
    (po_Formula : PySem.W.plainOver K CFormula = true)
    (sa_Formula : PySem.W.findIn K (.ref CFormula) "__setattr__" = some (some (.builtin "object.__setattr__")))
    (pg_Reader : PySem.W.plainGet K CReader Str.empty = true)
    (hd_Reader : PySem.W.hasDictIn K CReader = true)
    (po_Reader : PySem.W.plainOver K CReader = true)
    (sa_Reader : PySem.W.findIn K (.ref CReader) "__setattr__" = some (some (.builtin "object.__setattr__")))
    (a_law_pool : PySem.W.nsIn K mainGlobals "_law_pool" = some (some (.ref f_law_pool)))
    (l_law_pool : K.lookup f_law_pool = some ⟨oc_law_pool, od_law_pool, .func (PySem.W.fnOf "_law_pool" "_law_pool" (defArgs s_law_pool) (defBody s_law_pool) (defScope s_law_pool) .none kV_law_pool dc_law_pool pm_law_pool an_law_pool cd_law_pool ct_law_pool), sl_law_pool⟩)
    (c_law_pool : PySem.W.codeIn K cd_law_pool "_law_pool" = true)
    (kp_law_pool : PySem.W.keepIn K (.ref f_law_pool) = true)
    (z_len : PySem.W.nsIn K mainGlobals "len" = some none)
    (z_range : PySem.W.nsIn K mainGlobals "range" = some none)
    (z_int : PySem.W.nsIn K mainGlobals "int" = some none)
    (a_constant_of : PySem.W.nsIn K mainGlobals "constant_of" = some (some (.ref f_constant_of)))
    (l_constant_of : K.lookup f_constant_of = some ⟨oc_constant_of, od_constant_of, .func (PySem.W.fnOf "constant_of" "constant_of" (defArgs s_constant_of) (defBody s_constant_of) (defScope s_constant_of) .none kV_constant_of dc_constant_of pm_constant_of an_constant_of cd_constant_of ct_constant_of), sl_constant_of⟩)
    (c_constant_of : PySem.W.codeIn K cd_constant_of "constant_of" = true)
    (kp_constant_of : PySem.W.keepIn K (.ref f_constant_of) = true)
    (a_decoded : PySem.W.nsIn K mainGlobals "decoded" = some (some (.ref f_decoded)))
    (l_decoded : K.lookup f_decoded = some ⟨oc_decoded, od_decoded, .func (PySem.W.fnOf "decoded" "decoded" (defArgs s_decoded) (defBody s_decoded) (defScope s_decoded) .none kV_decoded dc_decoded pm_decoded an_decoded cd_decoded ct_decoded), sl_decoded⟩)
    (c_decoded : PySem.W.codeIn K cd_decoded "decoded" = true)
    (kp_decoded : PySem.W.keepIn K (.ref f_decoded) = true)
    (ga_OPERANDS : PySem.W.nsIn K mainGlobals "OPERANDS" = some (some (.ref aOPERANDS)))
    (ld_OPERANDS : K.lookup aOPERANDS = some ⟨.type "dict", none, .dict es_OPERANDS n_OPERANDS, #[]⟩)
    (li_OPERANDS : PySem.W.KeysLit w.params es_OPERANDS.toList)
    (lw_OPERANDS : (aOPERANDS == sysModules) = false)
    (lv_OPERANDS : es_OPERANDS.toList.map keyVal = (opsL).map some)
    (ga_COLUMNS : PySem.W.nsIn K mainGlobals "COLUMNS" = some (some (.str "abc" tCOLUMNS)))
    (a_Formula___init__ : PySem.W.findIn K (.ref CFormula) "__init__" = some (some (.ref f_Formula___init__)))
    (i_Formula___init__ : PySem.W.isFn K (.ref f_Formula___init__) = true)
    (l_Formula___init__ : K.lookup f_Formula___init__ = some ⟨oc_Formula___init__, od_Formula___init__, .func (PySem.W.fnOf "__init__" "Formula.__init__" (defArgs s_Formula___init__) (defBody s_Formula___init__) (defScope s_Formula___init__) .none kV_Formula___init__ dc_Formula___init__ pm_Formula___init__ an_Formula___init__ cd_Formula___init__ ct_Formula___init__), sl_Formula___init__⟩)
    (c_Formula___init__ : PySem.W.codeIn K cd_Formula___init__ "Formula.__init__" = true)
    (kp_Formula___init__ : PySem.W.keepIn K (.ref f_Formula___init__) = true)
    (ra_Formula : PySem.W.readsIn K CFormula (.type "type") = true)
    (rb_Formula : PySem.W.specialIn K (.ref CFormula) "__getattribute__" = some (some (.builtin "type.__getattribute__")))
    (cv_Formula_MOST : PySem.W.findCls K (.ref CFormula) (.type "type") "MOST" = some (.val (.int 40 tFormulaMOST)))
    (z_enumerate : PySem.W.nsIn K mainGlobals "enumerate" = some none)
    (z_tuple : PySem.W.nsIn K mainGlobals "tuple" = some none)
    (na_Formula_code : PySem.W.findIn K (.ref CFormula) "code" = some none)
    (na_Formula_words : PySem.W.findIn K (.ref CFormula) "words" = some none)
    (qa_Formula_read : PySem.W.findCls K (.ref CFormula) (.type "type") "read" = some (.get (.builtin "classmethod.__get__") (.ref p_Formula_read) .none (.ref CFormula)))
    (qb_Formula_read : PySem.W.recIn K p_Formula_read "classmethod" = some (.ref f_Formula_read :: rest_Formula_read))
    (qc_Formula_read : PySem.W.fnIn K f_Formula_read = true)
    (l_Formula_read : K.lookup f_Formula_read = some ⟨oc_Formula_read, od_Formula_read, .func (PySem.W.fnOf "read" "Formula.read" (defArgs s_Formula_read) (defBody s_Formula_read) (defScope s_Formula_read) .none kV_Formula_read dc_Formula_read pm_Formula_read an_Formula_read cd_Formula_read ct_Formula_read), sl_Formula_read⟩)
    (c_Formula_read : PySem.W.codeIn K cd_Formula_read "Formula.read" = true)
    (kp_Formula_read : PySem.W.keepIn K (.ref f_Formula_read) = true)
    (mm_Formula : PySem.W.makesIn K CFormula = true)
    (mc_Formula : PySem.W.keepIn K (.ref CFormula) = true)
    (i_Reader_room_setter_new : PySem.W.isFn K (.ref f_Reader_room_setter_new) = true)
    (l_Reader_room_setter_new : K.lookup f_Reader_room_setter_new = some ⟨oc_Reader_room_setter_new, od_Reader_room_setter_new, .func (PySem.W.fnOf "room" "Reader.room" (defArgs s_Reader_room_setter_new) (defBody s_Reader_room_setter_new) (defScope s_Reader_room_setter_new) .none kV_Reader_room_setter_new dc_Reader_room_setter_new pm_Reader_room_setter_new an_Reader_room_setter_new cd_Reader_room_setter_new ct_Reader_room_setter_new), sl_Reader_room_setter_new⟩)
    (c_Reader_room_setter_new : PySem.W.codeIn K cd_Reader_room_setter_new "Reader.room" = true)
    (kp_Reader_room_setter_new : PySem.W.keepIn K (.ref f_Reader_room_setter_new) = true)
    (ra_Reader : PySem.W.readsIn K CReader (.type "type") = true)
    (rb_Reader : PySem.W.specialIn K (.ref CReader) "__getattribute__" = some (some (.builtin "type.__getattribute__")))
    (cv_Reader_MOST : PySem.W.findCls K (.ref CReader) (.type "type") "MOST" = some (.val (.int 1000 tReaderMOST)))
    (xL_BadRoom : K.lookup CBadRoom = some (excClassObj nm_BadRoom q_BadRoom CBadRoom N_BadRoom bs_BadRoom [.ref CTableError, .type "ValueError", .type "Exception", .type "BaseException", .type "object"] true sn_BadRoom sub_BadRoom ab_BadRoom col_BadRoom dd_BadRoom m0_BadRoom m1_BadRoom m2_BadRoom m3_BadRoom m5_BadRoom "ValueError.__new__"))
    (es_BadRoom : PySem.W.findIn K (.ref CBadRoom) "__setattr__" = some (some (.builtin "object.__setattr__")))
    (eg_BadRoom : PySem.W.findIn K (.ref CBadRoom) "__getattribute__" = some (some (.builtin "BaseException.__getattribute__")))
    (ek_BadRoom : PySem.W.findIn K (.ref CBadRoom) "__getattr__" = some none)
    (en_BadRoom : PySem.W.findIn K (.ref CBadRoom) "given" = some none)
    (ei_BadRoom : PySem.W.findIn K (.ref CBadRoom) "__init__" = some (some (.ref f_BadRoom___init__)))
    (et_BadRoom : PySem.W.typeIn K (.ref f_BadRoom___init__) = some (.type "function"))
    (ekp_BadRoom : PySem.W.keepIn K (.ref CBadRoom) = true)
    (eex_BadRoom : PySem.W.subIn K (.ref CBadRoom) (.type "BaseException") = some true)
    (ety_BadRoom : PySem.W.typeIn K (.ref CBadRoom) = some (.type "type"))
    (ehd_BadRoom : PySem.W.hasDictIn K CBadRoom = true)
    (emr_BadRoom : PySem.W.mroIn K CBadRoom (.ref CBadRoom) = some true)
    (esu_BadRoom : PySem.W.ks_superIn K CBadRoom CBadRoom "__init__" = some (some (.builtin "ValueError.__init__")))
    (eve_BadRoom : PySem.W.subIn K (.ref CBadRoom) (.type "ValueError") = some true)
    (est : PySem.W.nsIn K cStatics "thirdparty.any" = some none)
    (z_super : PySem.W.nsIn K mainGlobals "super" = some none)
    (etp : (P.main.scope.names.lookup ("super" : Str)).isSome = false)
    (l_BadRoom___init__ : K.lookup f_BadRoom___init__ = some ⟨oc_BadRoom, od_BadRoom, .func (PySem.W.fnX "__init__" "BadRoom.__init__" (defArgs s_BadRoom___init__) (defBody s_BadRoom___init__) (defScope s_BadRoom___init__) [("__class__", cc_BadRoom)] .none kV_BadRoom dc_BadRoom pm_BadRoom an_BadRoom (.ref cda_BadRoom) ct_BadRoom), sl_BadRoom⟩)
    (c_BadRoom___init__ : PySem.W.codeIn K (.ref cda_BadRoom) "BadRoom.__init__" = true)
    (hc_BadRoom : K.lookup cda_BadRoom = some ⟨ccl_BadRoom, cdd_BadRoom, .fields fs_BadRoom, ccs_BadRoom⟩)
    (hf_BadRoom : fs_BadRoom[2]? = some (.str file_BadRoom tf_BadRoom))
    (hl_BadRoom : ((P.main.file : Str) == file_BadRoom) = true)
    (hw_BadRoom : K.lookup cc_BadRoom = some ⟨cl_BadRoom, cld_BadRoom, .cell (some (.ref CBadRoom)), csl_BadRoom⟩)
    (na_Reader_space : PySem.W.findIn K (.ref CReader) "space" = some none)
    (a_Reader___init__ : PySem.W.findIn K (.ref CReader) "__init__" = some (some (.ref f_Reader___init__)))
    (i_Reader___init__ : PySem.W.isFn K (.ref f_Reader___init__) = true)
    (l_Reader___init__ : K.lookup f_Reader___init__ = some ⟨oc_Reader___init__, od_Reader___init__, .func (PySem.W.fnOf "__init__" "Reader.__init__" (defArgs s_Reader___init__) (defBody s_Reader___init__) (defScope s_Reader___init__) .none (.ref kD_Reader___init__) dc_Reader___init__ pm_Reader___init__ an_Reader___init__ cd_Reader___init__ ct_Reader___init__), sl_Reader___init__⟩)
    (kq_Reader___init__ : PySem.W.nsIn K kD_Reader___init__ "room" = some (some (.int 2 kt_Reader___init__)))
    (c_Reader___init__ : PySem.W.codeIn K cd_Reader___init__ "Reader.__init__" = true)
    (kp_Reader___init__ : PySem.W.keepIn K (.ref f_Reader___init__) = true)
    (na_Reader_passes : PySem.W.findIn K (.ref CReader) "passes" = some none)
    (na_Reader_formula : PySem.W.findIn K (.ref CReader) "formula" = some none)
    (i_Reader_room_setter : PySem.W.isFn K (.ref f_Reader_room_setter) = true)
    (l_Reader_room_setter : K.lookup f_Reader_room_setter = some ⟨oc_Reader_room_setter, od_Reader_room_setter, .func (PySem.W.fnOf "room" "Reader.room" (defArgs s_Reader_room_setter) (defBody s_Reader_room_setter) (defScope s_Reader_room_setter) .none kV_Reader_room_setter dc_Reader_room_setter pm_Reader_room_setter an_Reader_room_setter cd_Reader_room_setter ct_Reader_room_setter), sl_Reader_room_setter⟩)
    (c_Reader_room_setter : PySem.W.codeIn K cd_Reader_room_setter "Reader.room" = true)
    (kp_Reader_room_setter : PySem.W.keepIn K (.ref f_Reader_room_setter) = true)
    (a_Reader_resize : PySem.W.findIn K (.ref CReader) "resize" = some (some (.ref f_Reader_resize)))
    (i_Reader_resize : PySem.W.isFn K (.ref f_Reader_resize) = true)
    (l_Reader_resize : K.lookup f_Reader_resize = some ⟨oc_Reader_resize, od_Reader_resize, .func (PySem.W.fnOf "resize" "Reader.resize" (defArgs s_Reader_resize) (defBody s_Reader_resize) (defScope s_Reader_resize) .none kV_Reader_resize dc_Reader_resize pm_Reader_resize an_Reader_resize cd_Reader_resize ct_Reader_resize), sl_Reader_resize⟩)
    (c_Reader_resize : PySem.W.codeIn K cd_Reader_resize "Reader.resize" = true)
    (kp_Reader_resize : PySem.W.keepIn K (.ref f_Reader_resize) = true)
    (pa_Reader_room : PySem.W.findIn K (.ref CReader) "room" = some (some (.ref p_Reader_room)))
    (pb_Reader_room : PySem.W.specialIn K (.ref p_Reader_room) "__get__" = some (some (.builtin "property.__get__")))
    (pc_Reader_room : PySem.W.takesIn K (.ref p_Reader_room) = some true)
    (pd_Reader_room : PySem.W.recIn K p_Reader_room "property" = some (.ref f_Reader_room :: rest_Reader_room))
    (l_Reader_room : K.lookup f_Reader_room = some ⟨oc_Reader_room, od_Reader_room, .func (PySem.W.fnOf "room" "Reader.room" (defArgs s_Reader_room) (defBody s_Reader_room) (defScope s_Reader_room) .none kV_Reader_room dc_Reader_room pm_Reader_room an_Reader_room cd_Reader_room ct_Reader_room), sl_Reader_room⟩)
    (c_Reader_room : PySem.W.codeIn K cd_Reader_room "Reader.room" = true)
    (kp_Reader_room : PySem.W.keepIn K (.ref f_Reader_room) = true)
    (a_law_number : PySem.W.nsIn K mainGlobals "_law_number" = some (some (.ref f_law_number)))
    (l_law_number : K.lookup f_law_number = some ⟨oc_law_number, od_law_number, .func (PySem.W.fnOf "_law_number" "_law_number" (defArgs s_law_number) (defBody s_law_number) (defScope s_law_number) .none kV_law_number dc_law_number pm_law_number an_law_number cd_law_number ct_law_number), sl_law_number⟩)
    (c_law_number : PySem.W.codeIn K cd_law_number "_law_number" = true)
    (kp_law_number : PySem.W.keepIn K (.ref f_law_number) = true)
    (a_law_refused_n : PySem.W.nsIn K mainGlobals "_law_refused" = some (some (.ref f_law_refused_n)))
    (l_law_refused_n : K.lookup f_law_refused_n = some ⟨oc_law_refused_n, od_law_refused_n, .func (PySem.W.fnOf "_law_refused" "_law_refused" (defArgs s_law_refused_n) (defBody s_law_refused_n) (defScope s_law_refused_n) .none kV_law_refused_n dc_law_refused_n pm_law_refused_n an_law_refused_n cd_law_refused_n ct_law_refused_n), sl_law_refused_n⟩)
    (c_law_refused_n : PySem.W.codeIn K cd_law_refused_n "_law_refused" = true)
    (kp_law_refused_n : PySem.W.keepIn K (.ref f_law_refused_n) = true)
    (mm_Reader : PySem.W.makesIn K CReader = true)
    (mc_Reader : PySem.W.keepIn K (.ref CReader) = true)
    (ess_BadRoom : PySem.W.subIn K (.ref CBadRoom) (.ref CBadRoom) = some true)
    (ecl_BadRoom : PySem.W.findIn K (.ref CBadRoom) "__class__" = some (some (.builtin "object.__class__")))
    (ocg : PySem.W.specialIn K (.builtin "object.__class__") "__get__" = some (some (.builtin "getset_descriptor.__get__")))
    (oct : PySem.W.takesIn K (.builtin "object.__class__") = some true)
    (eo_BadRoom : PySem.W.mroIn K CBadRoom (.type "object") = some true)
    (kt_BadRoom_BadKey : PySem.W.kitOne K (.ref CBadRoom) (.ref CBadKey) = some false)
    (z_isinstance : PySem.W.nsIn K mainGlobals "isinstance" = some none)
    (kt_BadRoom_TableError : PySem.W.kitOne K (.ref CBadRoom) (.ref CTableError) = some true)
    (z_ValueError : PySem.W.nsIn K mainGlobals "ValueError" = some none)
    (kt_BadRoom_ValueError : PySem.W.kitOne K (.ref CBadRoom) (.type "ValueError") = some true)
    (z_bool : PySem.W.nsIn K mainGlobals "bool" = some none)
    (z_str : PySem.W.nsIn K mainGlobals "str" = some none)
    (a_law_refused : PySem.W.nsIn K mainGlobals "_law_refused" = some (some (.ref f_law_refused)))
    (l_law_refused : K.lookup f_law_refused = some ⟨oc_law_refused, od_law_refused, .func (PySem.W.fnOf "_law_refused" "_law_refused" (defArgs s_law_refused) (defBody s_law_refused) (defScope s_law_refused) .none kV_law_refused dc_law_refused pm_law_refused an_law_refused cd_law_refused ct_law_refused), sl_law_refused⟩)
    (c_law_refused : PySem.W.codeIn K cd_law_refused "_law_refused" = true)
    (kp_law_refused : PySem.W.keepIn K (.ref f_law_refused) = true)
    (a_law : PySem.W.nsIn K mainGlobals "law" = some (some (.ref f_law)))
    (l_law : K.lookup f_law = some ⟨oc_law, od_law, .func (PySem.W.fnOf "law" "law" (defArgs s_law) (defBody s_law) (defScope s_law) .none kV_law dc_law pm_law an_law cd_law ct_law), sl_law⟩)
    (c_law : PySem.W.codeIn K cd_law "law" = true)
    (kp_law : PySem.W.keepIn K (.ref f_law) = true)
    : ∃ fd : FuncData, (∀ (s : Shared) (v : Value), BindsTo s fd ⟨[v], []⟩ [("_law_script", v)]) ∧ ∀ base : Heap, K.In base → base.Ns mainGlobals mg → FnOk P w K mg base CX0 7 fa fd ["_law_script"] (spP K arLaw) := by
  have e := hfa.symm.trans (PySem.W.mg_of X G a_law)
  cases e
  have k_Formula : Cls K CFormula := ⟨pg_Formula, hd_Formula, po_Formula, sa_Formula⟩
  have k_Reader : Cls K CReader := ⟨pg_Reader, hd_Reader, po_Reader, sa_Reader⟩
  have F_law_pool := fun_mk (st := s_law_pool) l_law_pool c_law_pool kp_law_pool
  have b_law_pool := F_law_pool.binds (ps := ["_law_script", "_law_k", "_law_many"]) fun _ _ _ _ _ _ us hl => match us, hl with | [_, _, _], _ => rfl
  have F_constant_of := fun_mk (st := s_constant_of) l_constant_of c_constant_of kp_constant_of
  have b_constant_of := F_constant_of.binds (ps := ["text"]) fun _ _ _ _ _ _ us hl => match us, hl with | [_], _ => rfl
  have F_decoded := fun_mk (st := s_decoded) l_decoded c_decoded kp_decoded
  have b_decoded := F_decoded.binds (ps := ["word"]) fun _ _ _ _ _ _ us hl => match us, hl with | [_], _ => rfl
  have F_Formula___init__ := fun_mk (st := s_Formula___init__) l_Formula___init__ c_Formula___init__ kp_Formula___init__
  have b_Formula___init__ := F_Formula___init__.binds (ps := ["self", "words"]) fun _ _ _ _ _ _ us hl => match us, hl with | [_, _], _ => rfl
  have F_Formula_read := fun_mk (st := s_Formula_read) l_Formula_read c_Formula_read kp_Formula_read
  have b_Formula_read := F_Formula_read.binds (ps := ["cls", "text"]) fun _ _ _ _ _ _ us hl => match us, hl with | [_, _], _ => rfl
  have e_BadRoom : PySem.ErX.ErrT P K mg CBadRoom f_BadRoom___init__ "given" := { cls := ⟨_, _, _, _, _, _, _, _, _, _, _, _, _, _, _, xL_BadRoom, rfl⟩, sa := es_BadRoom, ga := eg_BadRoom, gg := ek_BadRoom, noN := en_BadRoom, iC := ei_BadRoom, tC := et_BadRoom, kC := ekp_BadRoom, exC := eex_BadRoom, tyC := ety_BadRoom, hdC := ehd_BadRoom, subC := emr_BadRoom, sup := esu_BadRoom, isB := eve_BadRoom, stat := est, gS := PySem.W.mg_none_of X G z_super, top := etp, lkS := rfl, lkC := rfl, lkN := rfl, ndn := by decide, nse := by decide, fn := ⟨_, _, _, _, _, _, _, _, _, _, _, _, _, _, _, _, _, _, _, _, _, _, _, _, _, _, _, _, _, _, #[], _, _, _, _, _, l_BadRoom___init__, c_BadRoom___init__, hc_BadRoom, hf_BadRoom, hl_BadRoom, hw_BadRoom, fun s x v => .of_eq (by first | rfl | with_unfolding_all rfl), ⟨_, fun _ => rfl⟩⟩ }
  have F_Reader_room_setter_new := fun_mk (st := s_Reader_room_setter_new) l_Reader_room_setter_new c_Reader_room_setter_new kp_Reader_room_setter_new
  have b_Reader_room_setter_new := F_Reader_room_setter_new.binds (ps := ["self", "value"]) fun _ _ _ _ _ _ us hl => match us, hl with | [_, _], _ => rfl
  have F_Reader___init__ := fun_mk (st := s_Reader___init__) l_Reader___init__ c_Reader___init__ kp_Reader___init__
  have F_Reader_room_setter := fun_mk (st := s_Reader_room_setter) l_Reader_room_setter c_Reader_room_setter kp_Reader_room_setter
  have b_Reader_room_setter := F_Reader_room_setter.binds (ps := ["self", "value"]) fun _ _ _ _ _ _ us hl => match us, hl with | [_, _], _ => rfl
  have F_Reader_resize := fun_mk (st := s_Reader_resize) l_Reader_resize c_Reader_resize kp_Reader_resize
  have b_Reader_resize := F_Reader_resize.binds (ps := ["self", "room"]) fun _ _ _ _ _ _ us hl => match us, hl with | [_, _], _ => rfl
  have F_Reader_room := fun_mk (st := s_Reader_room) l_Reader_room c_Reader_room kp_Reader_room
  have b_Reader_room := F_Reader_room.binds (ps := ["self"]) fun _ _ _ _ _ _ us hl => match us, hl with | [_], _ => rfl
  have F_law_number := fun_mk (st := s_law_number) l_law_number c_law_number kp_law_number
  have b_law_number := F_law_number.binds (ps := ["_law_one", "_law_two"]) fun _ _ _ _ _ _ us hl => match us, hl with | [_, _], _ => rfl
  have F_law_refused_n := fun_mk (st := s_law_refused_n) l_law_refused_n c_law_refused_n kp_law_refused_n
  have b_law_refused_n := F_law_refused_n.binds (ps := ["_law_reader", "_law_formula", "_law_number_here"]) fun _ _ _ _ _ _ us hl => match us, hl with | [_, _, _], _ => rfl
  have F_law_refused := fun_mk (st := s_law_refused) l_law_refused c_law_refused kp_law_refused
  have b_law_refused := F_law_refused.binds (ps := ["_law_reader", "_law_formula", "_law_number_here"]) fun _ _ _ _ _ _ us hl => match us, hl with | [_, _, _], _ => rfl
  have F_law := fun_mk (st := s_law) l_law c_law kp_law
  refine ⟨PySem.W.fnOf "law" "law" (defArgs s_law) (defBody s_law) (defScope s_law) .none kV_law dc_law pm_law an_law cd_law ct_law, fun s v => .of_eq rfl, fun base hb1 hb2 => ?_⟩
  have G_law_pool : Fok P w K mg base CX0 1 f_law_pool (spN K (ar_law_pool ({ CBadFormula := 0, CBadKey := CBadKey, CBadPlan := 0, CBadRoom := CBadRoom, CBest := 0, CClash := 0, CFormula := CFormula, CKeep := 0, CKeys := 0, CNoOrder := 0, CNoRanking := 0, CNoRow := 0, CNoStep := 0, CPlan := 0, CRank := 0, CReader := CReader, CTableError := CTableError, CTooHeavy := 0, CTooLong := 0, CTooManySteps := 0, CTwoSided := 0, aOPERANDS := aOPERANDS, f_BadRoom___init__ := f_BadRoom___init__, f_Formula___init__ := f_Formula___init__, f_Formula_read := f_Formula_read, f_Reader___init__ := f_Reader___init__, f_Reader_resize := f_Reader_resize, f_Reader_room := f_Reader_room, f_Reader_room_setter := f_Reader_room_setter, f_Reader_room_setter_new := f_Reader_room_setter_new, p_Formula_read := p_Formula_read, p_Reader_room := p_Reader_room, p_Reader_room_w := p_Reader_room_w } : Ads))) := ⟨⟨_, _, ok_law_pool (ad := ({ CBadFormula := 0, CBadKey := CBadKey, CBadPlan := 0, CBadRoom := CBadRoom, CBest := 0, CClash := 0, CFormula := CFormula, CKeep := 0, CKeys := 0, CNoOrder := 0, CNoRanking := 0, CNoRow := 0, CNoStep := 0, CPlan := 0, CRank := 0, CReader := CReader, CTableError := CTableError, CTooHeavy := 0, CTooLong := 0, CTooManySteps := 0, CTwoSided := 0, aOPERANDS := aOPERANDS, f_BadRoom___init__ := f_BadRoom___init__, f_Formula___init__ := f_Formula___init__, f_Formula_read := f_Formula_read, f_Reader___init__ := f_Reader___init__, f_Reader_resize := f_Reader_resize, f_Reader_room := f_Reader_room, f_Reader_room_setter := f_Reader_room_setter, f_Reader_room_setter_new := f_Reader_room_setter_new, p_Formula_read := p_Formula_read, p_Reader_room := p_Reader_room, p_Reader_room_w := p_Reader_room_w } : Ads)) F_law_pool (PySem.W.mg_none_of X G z_len) (PySem.W.mg_none_of X G z_range) (PySem.W.mg_none_of X G z_int), b_law_pool⟩, kp_law_pool⟩
  have G_constant_of : Fok P w K mg base CX0 1 f_constant_of (spP K (ar_constant_of ({ CBadFormula := 0, CBadKey := CBadKey, CBadPlan := 0, CBadRoom := CBadRoom, CBest := 0, CClash := 0, CFormula := CFormula, CKeep := 0, CKeys := 0, CNoOrder := 0, CNoRanking := 0, CNoRow := 0, CNoStep := 0, CPlan := 0, CRank := 0, CReader := CReader, CTableError := CTableError, CTooHeavy := 0, CTooLong := 0, CTooManySteps := 0, CTwoSided := 0, aOPERANDS := aOPERANDS, f_BadRoom___init__ := f_BadRoom___init__, f_Formula___init__ := f_Formula___init__, f_Formula_read := f_Formula_read, f_Reader___init__ := f_Reader___init__, f_Reader_resize := f_Reader_resize, f_Reader_room := f_Reader_room, f_Reader_room_setter := f_Reader_room_setter, f_Reader_room_setter_new := f_Reader_room_setter_new, p_Formula_read := p_Formula_read, p_Reader_room := p_Reader_room, p_Reader_room_w := p_Reader_room_w } : Ads))) := ⟨⟨_, _, ok_constant_of (ad := ({ CBadFormula := 0, CBadKey := CBadKey, CBadPlan := 0, CBadRoom := CBadRoom, CBest := 0, CClash := 0, CFormula := CFormula, CKeep := 0, CKeys := 0, CNoOrder := 0, CNoRanking := 0, CNoRow := 0, CNoStep := 0, CPlan := 0, CRank := 0, CReader := CReader, CTableError := CTableError, CTooHeavy := 0, CTooLong := 0, CTooManySteps := 0, CTwoSided := 0, aOPERANDS := aOPERANDS, f_BadRoom___init__ := f_BadRoom___init__, f_Formula___init__ := f_Formula___init__, f_Formula_read := f_Formula_read, f_Reader___init__ := f_Reader___init__, f_Reader_resize := f_Reader_resize, f_Reader_room := f_Reader_room, f_Reader_room_setter := f_Reader_room_setter, f_Reader_room_setter_new := f_Reader_room_setter_new, p_Formula_read := p_Formula_read, p_Reader_room := p_Reader_room, p_Reader_room_w := p_Reader_room_w } : Ads)) F_constant_of (PySem.W.mg_none_of X G z_len) (PySem.W.mg_none_of X G z_int), b_constant_of⟩, kp_constant_of⟩
  have G_decoded : Fok P w K mg base CX0 2 f_decoded (spP K (ar_decoded ({ CBadFormula := 0, CBadKey := CBadKey, CBadPlan := 0, CBadRoom := CBadRoom, CBest := 0, CClash := 0, CFormula := CFormula, CKeep := 0, CKeys := 0, CNoOrder := 0, CNoRanking := 0, CNoRow := 0, CNoStep := 0, CPlan := 0, CRank := 0, CReader := CReader, CTableError := CTableError, CTooHeavy := 0, CTooLong := 0, CTooManySteps := 0, CTwoSided := 0, aOPERANDS := aOPERANDS, f_BadRoom___init__ := f_BadRoom___init__, f_Formula___init__ := f_Formula___init__, f_Formula_read := f_Formula_read, f_Reader___init__ := f_Reader___init__, f_Reader_resize := f_Reader_resize, f_Reader_room := f_Reader_room, f_Reader_room_setter := f_Reader_room_setter, f_Reader_room_setter_new := f_Reader_room_setter_new, p_Formula_read := p_Formula_read, p_Reader_room := p_Reader_room, p_Reader_room_w := p_Reader_room_w } : Ads))) := ⟨⟨_, _, ok_decoded (ad := ({ CBadFormula := 0, CBadKey := CBadKey, CBadPlan := 0, CBadRoom := CBadRoom, CBest := 0, CClash := 0, CFormula := CFormula, CKeep := 0, CKeys := 0, CNoOrder := 0, CNoRanking := 0, CNoRow := 0, CNoStep := 0, CPlan := 0, CRank := 0, CReader := CReader, CTableError := CTableError, CTooHeavy := 0, CTooLong := 0, CTooManySteps := 0, CTwoSided := 0, aOPERANDS := aOPERANDS, f_BadRoom___init__ := f_BadRoom___init__, f_Formula___init__ := f_Formula___init__, f_Formula_read := f_Formula_read, f_Reader___init__ := f_Reader___init__, f_Reader_resize := f_Reader_resize, f_Reader_room := f_Reader_room, f_Reader_room_setter := f_Reader_room_setter, f_Reader_room_setter_new := f_Reader_room_setter_new, p_Formula_read := p_Formula_read, p_Reader_room := p_Reader_room, p_Reader_room_w := p_Reader_room_w } : Ads)) F_decoded (PySem.W.mg_of X G ga_OPERANDS) (kdi_ofT ld_OPERANDS li_OPERANDS lw_OPERANDS lv_OPERANDS (fun _ => rfl)) (PySem.W.mg_none_of X G z_len) ⟨_, PySem.W.mg_of X G ga_COLUMNS⟩ ⟨_, G_constant_of, PySem.W.mg_of X G a_constant_of⟩, b_decoded⟩, kp_decoded⟩
  have G_Formula___init__ : Fok P w K mg base CX0 3 f_Formula___init__ (spI K ({ CBadFormula := 0, CBadKey := CBadKey, CBadPlan := 0, CBadRoom := CBadRoom, CBest := 0, CClash := 0, CFormula := CFormula, CKeep := 0, CKeys := 0, CNoOrder := 0, CNoRanking := 0, CNoRow := 0, CNoStep := 0, CPlan := 0, CRank := 0, CReader := CReader, CTableError := CTableError, CTooHeavy := 0, CTooLong := 0, CTooManySteps := 0, CTwoSided := 0, aOPERANDS := aOPERANDS, f_BadRoom___init__ := f_BadRoom___init__, f_Formula___init__ := f_Formula___init__, f_Formula_read := f_Formula_read, f_Reader___init__ := f_Reader___init__, f_Reader_resize := f_Reader_resize, f_Reader_room := f_Reader_room, f_Reader_room_setter := f_Reader_room_setter, f_Reader_room_setter_new := f_Reader_room_setter_new, p_Formula_read := p_Formula_read, p_Reader_room := p_Reader_room, p_Reader_room_w := p_Reader_room_w } : Ads).CFormula (ar_Formula___init__ ({ CBadFormula := 0, CBadKey := CBadKey, CBadPlan := 0, CBadRoom := CBadRoom, CBest := 0, CClash := 0, CFormula := CFormula, CKeep := 0, CKeys := 0, CNoOrder := 0, CNoRanking := 0, CNoRow := 0, CNoStep := 0, CPlan := 0, CRank := 0, CReader := CReader, CTableError := CTableError, CTooHeavy := 0, CTooLong := 0, CTooManySteps := 0, CTwoSided := 0, aOPERANDS := aOPERANDS, f_BadRoom___init__ := f_BadRoom___init__, f_Formula___init__ := f_Formula___init__, f_Formula_read := f_Formula_read, f_Reader___init__ := f_Reader___init__, f_Reader_resize := f_Reader_resize, f_Reader_room := f_Reader_room, f_Reader_room_setter := f_Reader_room_setter, f_Reader_room_setter_new := f_Reader_room_setter_new, p_Formula_read := p_Formula_read, p_Reader_room := p_Reader_room, p_Reader_room_w := p_Reader_room_w } : Ads))) := ⟨⟨_, _, ok_Formula___init__ (ad := ({ CBadFormula := 0, CBadKey := CBadKey, CBadPlan := 0, CBadRoom := CBadRoom, CBest := 0, CClash := 0, CFormula := CFormula, CKeep := 0, CKeys := 0, CNoOrder := 0, CNoRanking := 0, CNoRow := 0, CNoStep := 0, CPlan := 0, CRank := 0, CReader := CReader, CTableError := CTableError, CTooHeavy := 0, CTooLong := 0, CTooManySteps := 0, CTwoSided := 0, aOPERANDS := aOPERANDS, f_BadRoom___init__ := f_BadRoom___init__, f_Formula___init__ := f_Formula___init__, f_Formula_read := f_Formula_read, f_Reader___init__ := f_Reader___init__, f_Reader_resize := f_Reader_resize, f_Reader_room := f_Reader_room, f_Reader_room_setter := f_Reader_room_setter, f_Reader_room_setter_new := f_Reader_room_setter_new, p_Formula_read := p_Formula_read, p_Reader_room := p_Reader_room, p_Reader_room_w := p_Reader_room_w } : Ads)) F_Formula___init__ (PySem.W.mg_none_of X G z_len) ⟨ra_Formula, rb_Formula⟩ ⟨cv_Formula_MOST, ⟨_, rfl⟩⟩ (PySem.W.mg_of X G aC_Formula) (PySem.W.mg_none_of X G z_enumerate) ⟨_, G_decoded, PySem.W.mg_of X G a_decoded⟩ (PySem.W.mg_of X G ga_OPERANDS) (kdi_ofT ld_OPERANDS li_OPERANDS lw_OPERANDS lv_OPERANDS (fun _ => rfl)) (PySem.W.mg_none_of X G z_tuple) k_Formula na_Formula_code na_Formula_words, b_Formula___init__⟩, kp_Formula___init__⟩
  have G_Formula_read : Fok P w K mg base CX0 5 f_Formula_read (spP K (ar_Formula_read ({ CBadFormula := 0, CBadKey := CBadKey, CBadPlan := 0, CBadRoom := CBadRoom, CBest := 0, CClash := 0, CFormula := CFormula, CKeep := 0, CKeys := 0, CNoOrder := 0, CNoRanking := 0, CNoRow := 0, CNoStep := 0, CPlan := 0, CRank := 0, CReader := CReader, CTableError := CTableError, CTooHeavy := 0, CTooLong := 0, CTooManySteps := 0, CTwoSided := 0, aOPERANDS := aOPERANDS, f_BadRoom___init__ := f_BadRoom___init__, f_Formula___init__ := f_Formula___init__, f_Formula_read := f_Formula_read, f_Reader___init__ := f_Reader___init__, f_Reader_resize := f_Reader_resize, f_Reader_room := f_Reader_room, f_Reader_room_setter := f_Reader_room_setter, f_Reader_room_setter_new := f_Reader_room_setter_new, p_Formula_read := p_Formula_read, p_Reader_room := p_Reader_room, p_Reader_room_w := p_Reader_room_w } : Ads))) := ⟨⟨_, _, ok_Formula_read (ad := ({ CBadFormula := 0, CBadKey := CBadKey, CBadPlan := 0, CBadRoom := CBadRoom, CBest := 0, CClash := 0, CFormula := CFormula, CKeep := 0, CKeys := 0, CNoOrder := 0, CNoRanking := 0, CNoRow := 0, CNoStep := 0, CPlan := 0, CRank := 0, CReader := CReader, CTableError := CTableError, CTooHeavy := 0, CTooLong := 0, CTooManySteps := 0, CTwoSided := 0, aOPERANDS := aOPERANDS, f_BadRoom___init__ := f_BadRoom___init__, f_Formula___init__ := f_Formula___init__, f_Formula_read := f_Formula_read, f_Reader___init__ := f_Reader___init__, f_Reader_resize := f_Reader_resize, f_Reader_room := f_Reader_room, f_Reader_room_setter := f_Reader_room_setter, f_Reader_room_setter_new := f_Reader_room_setter_new, p_Formula_read := p_Formula_read, p_Reader_room := p_Reader_room, p_Reader_room_w := p_Reader_room_w } : Ads)) F_Formula_read ⟨mm_Formula, a_Formula___init__, i_Formula___init__, mc_Formula⟩ G_Formula___init__, b_Formula_read⟩, kp_Formula_read⟩
  have GX_Reader_room_setter_new : Fok P w K mg base (L2.CX P w) 1 f_Reader_room_setter_new (spEX K (ax_Reader_room_setter_new ({ CBadFormula := 0, CBadKey := CBadKey, CBadPlan := 0, CBadRoom := CBadRoom, CBest := 0, CClash := 0, CFormula := CFormula, CKeep := 0, CKeys := 0, CNoOrder := 0, CNoRanking := 0, CNoRow := 0, CNoStep := 0, CPlan := 0, CRank := 0, CReader := CReader, CTableError := CTableError, CTooHeavy := 0, CTooLong := 0, CTooManySteps := 0, CTwoSided := 0, aOPERANDS := aOPERANDS, f_BadRoom___init__ := f_BadRoom___init__, f_Formula___init__ := f_Formula___init__, f_Formula_read := f_Formula_read, f_Reader___init__ := f_Reader___init__, f_Reader_resize := f_Reader_resize, f_Reader_room := f_Reader_room, f_Reader_room_setter := f_Reader_room_setter, f_Reader_room_setter_new := f_Reader_room_setter_new, p_Formula_read := p_Formula_read, p_Reader_room := p_Reader_room, p_Reader_room_w := p_Reader_room_w } : Ads))) := ⟨⟨_, _, okx_Reader_room_setter_new (ad := ({ CBadFormula := 0, CBadKey := CBadKey, CBadPlan := 0, CBadRoom := CBadRoom, CBest := 0, CClash := 0, CFormula := CFormula, CKeep := 0, CKeys := 0, CNoOrder := 0, CNoRanking := 0, CNoRow := 0, CNoStep := 0, CPlan := 0, CRank := 0, CReader := CReader, CTableError := CTableError, CTooHeavy := 0, CTooLong := 0, CTooManySteps := 0, CTwoSided := 0, aOPERANDS := aOPERANDS, f_BadRoom___init__ := f_BadRoom___init__, f_Formula___init__ := f_Formula___init__, f_Formula_read := f_Formula_read, f_Reader___init__ := f_Reader___init__, f_Reader_resize := f_Reader_resize, f_Reader_room := f_Reader_room, f_Reader_room_setter := f_Reader_room_setter, f_Reader_room_setter_new := f_Reader_room_setter_new, p_Formula_read := p_Formula_read, p_Reader_room := p_Reader_room, p_Reader_room_w := p_Reader_room_w } : Ads)) F_Reader_room_setter_new ⟨ra_Reader, rb_Reader⟩ ⟨cv_Reader_MOST, ⟨_, rfl⟩⟩ (PySem.W.mg_of X G aC_Reader) e_BadRoom (PySem.W.mg_of X G aC_BadRoom) k_Reader na_Reader_space, b_Reader_room_setter_new⟩, kp_Reader_room_setter_new⟩
  have G_Reader_room_setter_new : Fok P w K mg base CX0 1 f_Reader_room_setter_new (spE K (ar_Reader_room_setter_new ({ CBadFormula := 0, CBadKey := CBadKey, CBadPlan := 0, CBadRoom := CBadRoom, CBest := 0, CClash := 0, CFormula := CFormula, CKeep := 0, CKeys := 0, CNoOrder := 0, CNoRanking := 0, CNoRow := 0, CNoStep := 0, CPlan := 0, CRank := 0, CReader := CReader, CTableError := CTableError, CTooHeavy := 0, CTooLong := 0, CTooManySteps := 0, CTwoSided := 0, aOPERANDS := aOPERANDS, f_BadRoom___init__ := f_BadRoom___init__, f_Formula___init__ := f_Formula___init__, f_Formula_read := f_Formula_read, f_Reader___init__ := f_Reader___init__, f_Reader_resize := f_Reader_resize, f_Reader_room := f_Reader_room, f_Reader_room_setter := f_Reader_room_setter, f_Reader_room_setter_new := f_Reader_room_setter_new, p_Formula_read := p_Formula_read, p_Reader_room := p_Reader_room, p_Reader_room_w := p_Reader_room_w } : Ads))) := ⟨⟨_, _, okc_Reader_room_setter_new (okx_Reader_room_setter_new (ad := ({ CBadFormula := 0, CBadKey := CBadKey, CBadPlan := 0, CBadRoom := CBadRoom, CBest := 0, CClash := 0, CFormula := CFormula, CKeep := 0, CKeys := 0, CNoOrder := 0, CNoRanking := 0, CNoRow := 0, CNoStep := 0, CPlan := 0, CRank := 0, CReader := CReader, CTableError := CTableError, CTooHeavy := 0, CTooLong := 0, CTooManySteps := 0, CTwoSided := 0, aOPERANDS := aOPERANDS, f_BadRoom___init__ := f_BadRoom___init__, f_Formula___init__ := f_Formula___init__, f_Formula_read := f_Formula_read, f_Reader___init__ := f_Reader___init__, f_Reader_resize := f_Reader_resize, f_Reader_room := f_Reader_room, f_Reader_room_setter := f_Reader_room_setter, f_Reader_room_setter_new := f_Reader_room_setter_new, p_Formula_read := p_Formula_read, p_Reader_room := p_Reader_room, p_Reader_room_w := p_Reader_room_w } : Ads)) F_Reader_room_setter_new ⟨ra_Reader, rb_Reader⟩ ⟨cv_Reader_MOST, ⟨_, rfl⟩⟩ (PySem.W.mg_of X G aC_Reader) e_BadRoom (PySem.W.mg_of X G aC_BadRoom) k_Reader na_Reader_space), b_Reader_room_setter_new⟩, kp_Reader_room_setter_new⟩
  have KWX_Reader___init__ : KwInitX P w K mg base 4 f_Reader___init__ 1 ["room"] (spXI K ({ CBadFormula := 0, CBadKey := CBadKey, CBadPlan := 0, CBadRoom := CBadRoom, CBest := 0, CClash := 0, CFormula := CFormula, CKeep := 0, CKeys := 0, CNoOrder := 0, CNoRanking := 0, CNoRow := 0, CNoStep := 0, CPlan := 0, CRank := 0, CReader := CReader, CTableError := CTableError, CTooHeavy := 0, CTooLong := 0, CTooManySteps := 0, CTwoSided := 0, aOPERANDS := aOPERANDS, f_BadRoom___init__ := f_BadRoom___init__, f_Formula___init__ := f_Formula___init__, f_Formula_read := f_Formula_read, f_Reader___init__ := f_Reader___init__, f_Reader_resize := f_Reader_resize, f_Reader_room := f_Reader_room, f_Reader_room_setter := f_Reader_room_setter, f_Reader_room_setter_new := f_Reader_room_setter_new, p_Formula_read := p_Formula_read, p_Reader_room := p_Reader_room, p_Reader_room_w := p_Reader_room_w } : Ads).CReader (ax_Reader___init__ ({ CBadFormula := 0, CBadKey := CBadKey, CBadPlan := 0, CBadRoom := CBadRoom, CBest := 0, CClash := 0, CFormula := CFormula, CKeep := 0, CKeys := 0, CNoOrder := 0, CNoRanking := 0, CNoRow := 0, CNoStep := 0, CPlan := 0, CRank := 0, CReader := CReader, CTableError := CTableError, CTooHeavy := 0, CTooLong := 0, CTooManySteps := 0, CTwoSided := 0, aOPERANDS := aOPERANDS, f_BadRoom___init__ := f_BadRoom___init__, f_Formula___init__ := f_Formula___init__, f_Formula_read := f_Formula_read, f_Reader___init__ := f_Reader___init__, f_Reader_resize := f_Reader_resize, f_Reader_room := f_Reader_room, f_Reader_room_setter := f_Reader_room_setter, f_Reader_room_setter_new := f_Reader_room_setter_new, p_Formula_read := p_Formula_read, p_Reader_room := p_Reader_room, p_Reader_room_w := p_Reader_room_w } : Ads))) := ⟨_, _, okx_Reader___init__ (ad := ({ CBadFormula := 0, CBadKey := CBadKey, CBadPlan := 0, CBadRoom := CBadRoom, CBest := 0, CClash := 0, CFormula := CFormula, CKeep := 0, CKeys := 0, CNoOrder := 0, CNoRanking := 0, CNoRow := 0, CNoStep := 0, CPlan := 0, CRank := 0, CReader := CReader, CTableError := CTableError, CTooHeavy := 0, CTooLong := 0, CTooManySteps := 0, CTwoSided := 0, aOPERANDS := aOPERANDS, f_BadRoom___init__ := f_BadRoom___init__, f_Formula___init__ := f_Formula___init__, f_Formula_read := f_Formula_read, f_Reader___init__ := f_Reader___init__, f_Reader_resize := f_Reader_resize, f_Reader_room := f_Reader_room, f_Reader_room_setter := f_Reader_room_setter, f_Reader_room_setter_new := f_Reader_room_setter_new, p_Formula_read := p_Formula_read, p_Reader_room := p_Reader_room, p_Reader_room_w := p_Reader_room_w } : Ads)) F_Reader___init__ GX_Reader_room_setter_new ⟨psa_Reader_room, psb_Reader_room, ⟨_, _, psc_Reader_room⟩⟩ k_Reader na_Reader_passes na_Reader_formula, ⟨fun s us ws X l1 l2 => match us, l1, ws, l2 with | [_, _], _, [_], _ => .of_eq rfl, fun r1 r2 => r1.append r2⟩⟩
  have KW_Reader___init__ : KwInit P w K mg base 4 f_Reader___init__ 1 ["room"] (spI K ({ CBadFormula := 0, CBadKey := CBadKey, CBadPlan := 0, CBadRoom := CBadRoom, CBest := 0, CClash := 0, CFormula := CFormula, CKeep := 0, CKeys := 0, CNoOrder := 0, CNoRanking := 0, CNoRow := 0, CNoStep := 0, CPlan := 0, CRank := 0, CReader := CReader, CTableError := CTableError, CTooHeavy := 0, CTooLong := 0, CTooManySteps := 0, CTwoSided := 0, aOPERANDS := aOPERANDS, f_BadRoom___init__ := f_BadRoom___init__, f_Formula___init__ := f_Formula___init__, f_Formula_read := f_Formula_read, f_Reader___init__ := f_Reader___init__, f_Reader_resize := f_Reader_resize, f_Reader_room := f_Reader_room, f_Reader_room_setter := f_Reader_room_setter, f_Reader_room_setter_new := f_Reader_room_setter_new, p_Formula_read := p_Formula_read, p_Reader_room := p_Reader_room, p_Reader_room_w := p_Reader_room_w } : Ads).CReader (ar_Reader___init__ ({ CBadFormula := 0, CBadKey := CBadKey, CBadPlan := 0, CBadRoom := CBadRoom, CBest := 0, CClash := 0, CFormula := CFormula, CKeep := 0, CKeys := 0, CNoOrder := 0, CNoRanking := 0, CNoRow := 0, CNoStep := 0, CPlan := 0, CRank := 0, CReader := CReader, CTableError := CTableError, CTooHeavy := 0, CTooLong := 0, CTooManySteps := 0, CTwoSided := 0, aOPERANDS := aOPERANDS, f_BadRoom___init__ := f_BadRoom___init__, f_Formula___init__ := f_Formula___init__, f_Formula_read := f_Formula_read, f_Reader___init__ := f_Reader___init__, f_Reader_resize := f_Reader_resize, f_Reader_room := f_Reader_room, f_Reader_room_setter := f_Reader_room_setter, f_Reader_room_setter_new := f_Reader_room_setter_new, p_Formula_read := p_Formula_read, p_Reader_room := p_Reader_room, p_Reader_room_w := p_Reader_room_w } : Ads))) := ⟨_, _, okc_Reader___init__ (okx_Reader___init__ (ad := ({ CBadFormula := 0, CBadKey := CBadKey, CBadPlan := 0, CBadRoom := CBadRoom, CBest := 0, CClash := 0, CFormula := CFormula, CKeep := 0, CKeys := 0, CNoOrder := 0, CNoRanking := 0, CNoRow := 0, CNoStep := 0, CPlan := 0, CRank := 0, CReader := CReader, CTableError := CTableError, CTooHeavy := 0, CTooLong := 0, CTooManySteps := 0, CTwoSided := 0, aOPERANDS := aOPERANDS, f_BadRoom___init__ := f_BadRoom___init__, f_Formula___init__ := f_Formula___init__, f_Formula_read := f_Formula_read, f_Reader___init__ := f_Reader___init__, f_Reader_resize := f_Reader_resize, f_Reader_room := f_Reader_room, f_Reader_room_setter := f_Reader_room_setter, f_Reader_room_setter_new := f_Reader_room_setter_new, p_Formula_read := p_Formula_read, p_Reader_room := p_Reader_room, p_Reader_room_w := p_Reader_room_w } : Ads)) F_Reader___init__ GX_Reader_room_setter_new ⟨psa_Reader_room, psb_Reader_room, ⟨_, _, psc_Reader_room⟩⟩ k_Reader na_Reader_passes na_Reader_formula), ⟨fun s us ws X l1 l2 => match us, l1, ws, l2 with | [_, _], _, [_], _ => .of_eq rfl, fun r1 r2 => r1.append r2⟩⟩
  have KD_Reader___init__ : KwDef P w K mg base 4 f_Reader___init__ [.int 2] (spI K ({ CBadFormula := 0, CBadKey := CBadKey, CBadPlan := 0, CBadRoom := CBadRoom, CBest := 0, CClash := 0, CFormula := CFormula, CKeep := 0, CKeys := 0, CNoOrder := 0, CNoRanking := 0, CNoRow := 0, CNoStep := 0, CPlan := 0, CRank := 0, CReader := CReader, CTableError := CTableError, CTooHeavy := 0, CTooLong := 0, CTooManySteps := 0, CTwoSided := 0, aOPERANDS := aOPERANDS, f_BadRoom___init__ := f_BadRoom___init__, f_Formula___init__ := f_Formula___init__, f_Formula_read := f_Formula_read, f_Reader___init__ := f_Reader___init__, f_Reader_resize := f_Reader_resize, f_Reader_room := f_Reader_room, f_Reader_room_setter := f_Reader_room_setter, f_Reader_room_setter_new := f_Reader_room_setter_new, p_Formula_read := p_Formula_read, p_Reader_room := p_Reader_room, p_Reader_room_w := p_Reader_room_w } : Ads).CReader (ar_Reader___init__ ({ CBadFormula := 0, CBadKey := CBadKey, CBadPlan := 0, CBadRoom := CBadRoom, CBest := 0, CClash := 0, CFormula := CFormula, CKeep := 0, CKeys := 0, CNoOrder := 0, CNoRanking := 0, CNoRow := 0, CNoStep := 0, CPlan := 0, CRank := 0, CReader := CReader, CTableError := CTableError, CTooHeavy := 0, CTooLong := 0, CTooManySteps := 0, CTwoSided := 0, aOPERANDS := aOPERANDS, f_BadRoom___init__ := f_BadRoom___init__, f_Formula___init__ := f_Formula___init__, f_Formula_read := f_Formula_read, f_Reader___init__ := f_Reader___init__, f_Reader_resize := f_Reader_resize, f_Reader_room := f_Reader_room, f_Reader_room_setter := f_Reader_room_setter, f_Reader_room_setter_new := f_Reader_room_setter_new, p_Formula_read := p_Formula_read, p_Reader_room := p_Reader_room, p_Reader_room_w := p_Reader_room_w } : Ads))) := kwdef_mk (n := 2) l_Reader___init__ c_Reader___init__ kp_Reader___init__ kq_Reader___init__ ⟨_, rfl⟩ (okc_Reader___init__ (okx_Reader___init__ (ad := ({ CBadFormula := 0, CBadKey := CBadKey, CBadPlan := 0, CBadRoom := CBadRoom, CBest := 0, CClash := 0, CFormula := CFormula, CKeep := 0, CKeys := 0, CNoOrder := 0, CNoRanking := 0, CNoRow := 0, CNoStep := 0, CPlan := 0, CRank := 0, CReader := CReader, CTableError := CTableError, CTooHeavy := 0, CTooLong := 0, CTooManySteps := 0, CTwoSided := 0, aOPERANDS := aOPERANDS, f_BadRoom___init__ := f_BadRoom___init__, f_Formula___init__ := f_Formula___init__, f_Formula_read := f_Formula_read, f_Reader___init__ := f_Reader___init__, f_Reader_resize := f_Reader_resize, f_Reader_room := f_Reader_room, f_Reader_room_setter := f_Reader_room_setter, f_Reader_room_setter_new := f_Reader_room_setter_new, p_Formula_read := p_Formula_read, p_Reader_room := p_Reader_room, p_Reader_room_w := p_Reader_room_w } : Ads)) F_Reader___init__ GX_Reader_room_setter_new ⟨psa_Reader_room, psb_Reader_room, ⟨_, _, psc_Reader_room⟩⟩ k_Reader na_Reader_passes na_Reader_formula)) rfl (fun _ _ _ _ _ _ us ks h1 h2 => match us, ks, h1, h2 with | [_, _], [_], _, _ => ⟨_, _, _, _, _, _, rfl, rfl, rfl⟩)
  have GX_Reader_room_setter : Fok P w K mg base (L2.CX P w) 1 f_Reader_room_setter (spEX K (ax_Reader_room_setter ({ CBadFormula := 0, CBadKey := CBadKey, CBadPlan := 0, CBadRoom := CBadRoom, CBest := 0, CClash := 0, CFormula := CFormula, CKeep := 0, CKeys := 0, CNoOrder := 0, CNoRanking := 0, CNoRow := 0, CNoStep := 0, CPlan := 0, CRank := 0, CReader := CReader, CTableError := CTableError, CTooHeavy := 0, CTooLong := 0, CTooManySteps := 0, CTwoSided := 0, aOPERANDS := aOPERANDS, f_BadRoom___init__ := f_BadRoom___init__, f_Formula___init__ := f_Formula___init__, f_Formula_read := f_Formula_read, f_Reader___init__ := f_Reader___init__, f_Reader_resize := f_Reader_resize, f_Reader_room := f_Reader_room, f_Reader_room_setter := f_Reader_room_setter, f_Reader_room_setter_new := f_Reader_room_setter_new, p_Formula_read := p_Formula_read, p_Reader_room := p_Reader_room, p_Reader_room_w := p_Reader_room_w } : Ads))) := ⟨⟨_, _, okx_Reader_room_setter (ad := ({ CBadFormula := 0, CBadKey := CBadKey, CBadPlan := 0, CBadRoom := CBadRoom, CBest := 0, CClash := 0, CFormula := CFormula, CKeep := 0, CKeys := 0, CNoOrder := 0, CNoRanking := 0, CNoRow := 0, CNoStep := 0, CPlan := 0, CRank := 0, CReader := CReader, CTableError := CTableError, CTooHeavy := 0, CTooLong := 0, CTooManySteps := 0, CTwoSided := 0, aOPERANDS := aOPERANDS, f_BadRoom___init__ := f_BadRoom___init__, f_Formula___init__ := f_Formula___init__, f_Formula_read := f_Formula_read, f_Reader___init__ := f_Reader___init__, f_Reader_resize := f_Reader_resize, f_Reader_room := f_Reader_room, f_Reader_room_setter := f_Reader_room_setter, f_Reader_room_setter_new := f_Reader_room_setter_new, p_Formula_read := p_Formula_read, p_Reader_room := p_Reader_room, p_Reader_room_w := p_Reader_room_w } : Ads)) F_Reader_room_setter ⟨ra_Reader, rb_Reader⟩ ⟨cv_Reader_MOST, ⟨_, rfl⟩⟩ (PySem.W.mg_of X G aC_Reader) e_BadRoom (PySem.W.mg_of X G aC_BadRoom) k_Reader na_Reader_space, b_Reader_room_setter⟩, kp_Reader_room_setter⟩
  have G_Reader_room_setter : Fok P w K mg base CX0 1 f_Reader_room_setter (spE K (ar_Reader_room_setter ({ CBadFormula := 0, CBadKey := CBadKey, CBadPlan := 0, CBadRoom := CBadRoom, CBest := 0, CClash := 0, CFormula := CFormula, CKeep := 0, CKeys := 0, CNoOrder := 0, CNoRanking := 0, CNoRow := 0, CNoStep := 0, CPlan := 0, CRank := 0, CReader := CReader, CTableError := CTableError, CTooHeavy := 0, CTooLong := 0, CTooManySteps := 0, CTwoSided := 0, aOPERANDS := aOPERANDS, f_BadRoom___init__ := f_BadRoom___init__, f_Formula___init__ := f_Formula___init__, f_Formula_read := f_Formula_read, f_Reader___init__ := f_Reader___init__, f_Reader_resize := f_Reader_resize, f_Reader_room := f_Reader_room, f_Reader_room_setter := f_Reader_room_setter, f_Reader_room_setter_new := f_Reader_room_setter_new, p_Formula_read := p_Formula_read, p_Reader_room := p_Reader_room, p_Reader_room_w := p_Reader_room_w } : Ads))) := ⟨⟨_, _, okc_Reader_room_setter (okx_Reader_room_setter (ad := ({ CBadFormula := 0, CBadKey := CBadKey, CBadPlan := 0, CBadRoom := CBadRoom, CBest := 0, CClash := 0, CFormula := CFormula, CKeep := 0, CKeys := 0, CNoOrder := 0, CNoRanking := 0, CNoRow := 0, CNoStep := 0, CPlan := 0, CRank := 0, CReader := CReader, CTableError := CTableError, CTooHeavy := 0, CTooLong := 0, CTooManySteps := 0, CTwoSided := 0, aOPERANDS := aOPERANDS, f_BadRoom___init__ := f_BadRoom___init__, f_Formula___init__ := f_Formula___init__, f_Formula_read := f_Formula_read, f_Reader___init__ := f_Reader___init__, f_Reader_resize := f_Reader_resize, f_Reader_room := f_Reader_room, f_Reader_room_setter := f_Reader_room_setter, f_Reader_room_setter_new := f_Reader_room_setter_new, p_Formula_read := p_Formula_read, p_Reader_room := p_Reader_room, p_Reader_room_w := p_Reader_room_w } : Ads)) F_Reader_room_setter ⟨ra_Reader, rb_Reader⟩ ⟨cv_Reader_MOST, ⟨_, rfl⟩⟩ (PySem.W.mg_of X G aC_Reader) e_BadRoom (PySem.W.mg_of X G aC_BadRoom) k_Reader na_Reader_space), b_Reader_room_setter⟩, kp_Reader_room_setter⟩
  have GX_Reader_resize : Fok P w K mg base (L2.CX P w) 4 f_Reader_resize (spEX K (ax_Reader_resize ({ CBadFormula := 0, CBadKey := CBadKey, CBadPlan := 0, CBadRoom := CBadRoom, CBest := 0, CClash := 0, CFormula := CFormula, CKeep := 0, CKeys := 0, CNoOrder := 0, CNoRanking := 0, CNoRow := 0, CNoStep := 0, CPlan := 0, CRank := 0, CReader := CReader, CTableError := CTableError, CTooHeavy := 0, CTooLong := 0, CTooManySteps := 0, CTwoSided := 0, aOPERANDS := aOPERANDS, f_BadRoom___init__ := f_BadRoom___init__, f_Formula___init__ := f_Formula___init__, f_Formula_read := f_Formula_read, f_Reader___init__ := f_Reader___init__, f_Reader_resize := f_Reader_resize, f_Reader_room := f_Reader_room, f_Reader_room_setter := f_Reader_room_setter, f_Reader_room_setter_new := f_Reader_room_setter_new, p_Formula_read := p_Formula_read, p_Reader_room := p_Reader_room, p_Reader_room_w := p_Reader_room_w } : Ads))) := ⟨⟨_, _, okx_Reader_resize (ad := ({ CBadFormula := 0, CBadKey := CBadKey, CBadPlan := 0, CBadRoom := CBadRoom, CBest := 0, CClash := 0, CFormula := CFormula, CKeep := 0, CKeys := 0, CNoOrder := 0, CNoRanking := 0, CNoRow := 0, CNoStep := 0, CPlan := 0, CRank := 0, CReader := CReader, CTableError := CTableError, CTooHeavy := 0, CTooLong := 0, CTooManySteps := 0, CTwoSided := 0, aOPERANDS := aOPERANDS, f_BadRoom___init__ := f_BadRoom___init__, f_Formula___init__ := f_Formula___init__, f_Formula_read := f_Formula_read, f_Reader___init__ := f_Reader___init__, f_Reader_resize := f_Reader_resize, f_Reader_room := f_Reader_room, f_Reader_room_setter := f_Reader_room_setter, f_Reader_room_setter_new := f_Reader_room_setter_new, p_Formula_read := p_Formula_read, p_Reader_room := p_Reader_room, p_Reader_room_w := p_Reader_room_w } : Ads)) F_Reader_resize GX_Reader_room_setter ⟨psa_Reader_room_w, psb_Reader_room_w, ⟨_, _, psc_Reader_room_w⟩⟩ k_Reader, b_Reader_resize⟩, kp_Reader_resize⟩
  have G_Reader_resize : Fok P w K mg base CX0 4 f_Reader_resize (spE K (ar_Reader_resize ({ CBadFormula := 0, CBadKey := CBadKey, CBadPlan := 0, CBadRoom := CBadRoom, CBest := 0, CClash := 0, CFormula := CFormula, CKeep := 0, CKeys := 0, CNoOrder := 0, CNoRanking := 0, CNoRow := 0, CNoStep := 0, CPlan := 0, CRank := 0, CReader := CReader, CTableError := CTableError, CTooHeavy := 0, CTooLong := 0, CTooManySteps := 0, CTwoSided := 0, aOPERANDS := aOPERANDS, f_BadRoom___init__ := f_BadRoom___init__, f_Formula___init__ := f_Formula___init__, f_Formula_read := f_Formula_read, f_Reader___init__ := f_Reader___init__, f_Reader_resize := f_Reader_resize, f_Reader_room := f_Reader_room, f_Reader_room_setter := f_Reader_room_setter, f_Reader_room_setter_new := f_Reader_room_setter_new, p_Formula_read := p_Formula_read, p_Reader_room := p_Reader_room, p_Reader_room_w := p_Reader_room_w } : Ads))) := ⟨⟨_, _, okc_Reader_resize (okx_Reader_resize (ad := ({ CBadFormula := 0, CBadKey := CBadKey, CBadPlan := 0, CBadRoom := CBadRoom, CBest := 0, CClash := 0, CFormula := CFormula, CKeep := 0, CKeys := 0, CNoOrder := 0, CNoRanking := 0, CNoRow := 0, CNoStep := 0, CPlan := 0, CRank := 0, CReader := CReader, CTableError := CTableError, CTooHeavy := 0, CTooLong := 0, CTooManySteps := 0, CTwoSided := 0, aOPERANDS := aOPERANDS, f_BadRoom___init__ := f_BadRoom___init__, f_Formula___init__ := f_Formula___init__, f_Formula_read := f_Formula_read, f_Reader___init__ := f_Reader___init__, f_Reader_resize := f_Reader_resize, f_Reader_room := f_Reader_room, f_Reader_room_setter := f_Reader_room_setter, f_Reader_room_setter_new := f_Reader_room_setter_new, p_Formula_read := p_Formula_read, p_Reader_room := p_Reader_room, p_Reader_room_w := p_Reader_room_w } : Ads)) F_Reader_resize GX_Reader_room_setter ⟨psa_Reader_room_w, psb_Reader_room_w, ⟨_, _, psc_Reader_room_w⟩⟩ k_Reader), b_Reader_resize⟩, kp_Reader_resize⟩
  have G_Reader_room : Fok P w K mg base CX0 1 f_Reader_room (spP K (ar_Reader_room ({ CBadFormula := 0, CBadKey := CBadKey, CBadPlan := 0, CBadRoom := CBadRoom, CBest := 0, CClash := 0, CFormula := CFormula, CKeep := 0, CKeys := 0, CNoOrder := 0, CNoRanking := 0, CNoRow := 0, CNoStep := 0, CPlan := 0, CRank := 0, CReader := CReader, CTableError := CTableError, CTooHeavy := 0, CTooLong := 0, CTooManySteps := 0, CTwoSided := 0, aOPERANDS := aOPERANDS, f_BadRoom___init__ := f_BadRoom___init__, f_Formula___init__ := f_Formula___init__, f_Formula_read := f_Formula_read, f_Reader___init__ := f_Reader___init__, f_Reader_resize := f_Reader_resize, f_Reader_room := f_Reader_room, f_Reader_room_setter := f_Reader_room_setter, f_Reader_room_setter_new := f_Reader_room_setter_new, p_Formula_read := p_Formula_read, p_Reader_room := p_Reader_room, p_Reader_room_w := p_Reader_room_w } : Ads))) := ⟨⟨_, _, ok_Reader_room (ad := ({ CBadFormula := 0, CBadKey := CBadKey, CBadPlan := 0, CBadRoom := CBadRoom, CBest := 0, CClash := 0, CFormula := CFormula, CKeep := 0, CKeys := 0, CNoOrder := 0, CNoRanking := 0, CNoRow := 0, CNoStep := 0, CPlan := 0, CRank := 0, CReader := CReader, CTableError := CTableError, CTooHeavy := 0, CTooLong := 0, CTooManySteps := 0, CTwoSided := 0, aOPERANDS := aOPERANDS, f_BadRoom___init__ := f_BadRoom___init__, f_Formula___init__ := f_Formula___init__, f_Formula_read := f_Formula_read, f_Reader___init__ := f_Reader___init__, f_Reader_resize := f_Reader_resize, f_Reader_room := f_Reader_room, f_Reader_room_setter := f_Reader_room_setter, f_Reader_room_setter_new := f_Reader_room_setter_new, p_Formula_read := p_Formula_read, p_Reader_room := p_Reader_room, p_Reader_room_w := p_Reader_room_w } : Ads)) F_Reader_room k_Reader na_Reader_space, b_Reader_room⟩, kp_Reader_room⟩
  have G_law_number : Fok P w K mg base CX0 1 f_law_number (spP K (ar_law_number ({ CBadFormula := 0, CBadKey := CBadKey, CBadPlan := 0, CBadRoom := CBadRoom, CBest := 0, CClash := 0, CFormula := CFormula, CKeep := 0, CKeys := 0, CNoOrder := 0, CNoRanking := 0, CNoRow := 0, CNoStep := 0, CPlan := 0, CRank := 0, CReader := CReader, CTableError := CTableError, CTooHeavy := 0, CTooLong := 0, CTooManySteps := 0, CTwoSided := 0, aOPERANDS := aOPERANDS, f_BadRoom___init__ := f_BadRoom___init__, f_Formula___init__ := f_Formula___init__, f_Formula_read := f_Formula_read, f_Reader___init__ := f_Reader___init__, f_Reader_resize := f_Reader_resize, f_Reader_room := f_Reader_room, f_Reader_room_setter := f_Reader_room_setter, f_Reader_room_setter_new := f_Reader_room_setter_new, p_Formula_read := p_Formula_read, p_Reader_room := p_Reader_room, p_Reader_room_w := p_Reader_room_w } : Ads))) := ⟨⟨_, _, ok_law_number (ad := ({ CBadFormula := 0, CBadKey := CBadKey, CBadPlan := 0, CBadRoom := CBadRoom, CBest := 0, CClash := 0, CFormula := CFormula, CKeep := 0, CKeys := 0, CNoOrder := 0, CNoRanking := 0, CNoRow := 0, CNoStep := 0, CPlan := 0, CRank := 0, CReader := CReader, CTableError := CTableError, CTooHeavy := 0, CTooLong := 0, CTooManySteps := 0, CTwoSided := 0, aOPERANDS := aOPERANDS, f_BadRoom___init__ := f_BadRoom___init__, f_Formula___init__ := f_Formula___init__, f_Formula_read := f_Formula_read, f_Reader___init__ := f_Reader___init__, f_Reader_resize := f_Reader_resize, f_Reader_room := f_Reader_room, f_Reader_room_setter := f_Reader_room_setter, f_Reader_room_setter_new := f_Reader_room_setter_new, p_Formula_read := p_Formula_read, p_Reader_room := p_Reader_room, p_Reader_room_w := p_Reader_room_w } : Ads)) F_law_number (PySem.W.mg_none_of X G z_int), b_law_number⟩, kp_law_number⟩
  have G_law_refused_n : Fok P w K mg base CX0 6 f_law_refused_n (spP K (ar_law_refused_n ({ CBadFormula := 0, CBadKey := CBadKey, CBadPlan := 0, CBadRoom := CBadRoom, CBest := 0, CClash := 0, CFormula := CFormula, CKeep := 0, CKeys := 0, CNoOrder := 0, CNoRanking := 0, CNoRow := 0, CNoStep := 0, CPlan := 0, CRank := 0, CReader := CReader, CTableError := CTableError, CTooHeavy := 0, CTooLong := 0, CTooManySteps := 0, CTwoSided := 0, aOPERANDS := aOPERANDS, f_BadRoom___init__ := f_BadRoom___init__, f_Formula___init__ := f_Formula___init__, f_Formula_read := f_Formula_read, f_Reader___init__ := f_Reader___init__, f_Reader_resize := f_Reader_resize, f_Reader_room := f_Reader_room, f_Reader_room_setter := f_Reader_room_setter, f_Reader_room_setter_new := f_Reader_room_setter_new, p_Formula_read := p_Formula_read, p_Reader_room := p_Reader_room, p_Reader_room_w := p_Reader_room_w } : Ads))) := ⟨⟨_, _, ok_law_refused_n (ad := ({ CBadFormula := 0, CBadKey := CBadKey, CBadPlan := 0, CBadRoom := CBadRoom, CBest := 0, CClash := 0, CFormula := CFormula, CKeep := 0, CKeys := 0, CNoOrder := 0, CNoRanking := 0, CNoRow := 0, CNoStep := 0, CPlan := 0, CRank := 0, CReader := CReader, CTableError := CTableError, CTooHeavy := 0, CTooLong := 0, CTooManySteps := 0, CTwoSided := 0, aOPERANDS := aOPERANDS, f_BadRoom___init__ := f_BadRoom___init__, f_Formula___init__ := f_Formula___init__, f_Formula_read := f_Formula_read, f_Reader___init__ := f_Reader___init__, f_Reader_resize := f_Reader_resize, f_Reader_room := f_Reader_room, f_Reader_room_setter := f_Reader_room_setter, f_Reader_room_setter_new := f_Reader_room_setter_new, p_Formula_read := p_Formula_read, p_Reader_room := p_Reader_room, p_Reader_room_w := p_Reader_room_w } : Ads)) F_law_refused_n ⟨mm_Reader, a_Reader___init__, i_Reader___init__, mc_Reader⟩ KWX_Reader___init__ (PySem.W.mg_of X G aC_Reader) e_BadRoom (PySem.W.mg_of X G aC_BadRoom) (PySem.W.exm_ref eex_BadRoom ehd_BadRoom ety_BadRoom ess_BadRoom) ⟨eg_BadRoom, ek_BadRoom, eex_BadRoom, ehd_BadRoom, ecl_BadRoom, ocg, oct, eo_BadRoom⟩ (PySem.W.mg_of X G aC_BadKey) kt_BadRoom_BadKey (PySem.W.mg_none_of X G z_isinstance) (PySem.W.mg_of X G aC_TableError) kt_BadRoom_TableError (PySem.W.mg_none_of X G z_ValueError) kt_BadRoom_ValueError (PySem.W.mg_none_of X G z_bool) (PySem.W.mg_none_of X G z_int) (PySem.W.mg_none_of X G z_str), b_law_refused_n⟩, kp_law_refused_n⟩
  have G_law_refused : Fok P w K mg base CX0 6 f_law_refused (spE K (ar_law_refused ({ CBadFormula := 0, CBadKey := CBadKey, CBadPlan := 0, CBadRoom := CBadRoom, CBest := 0, CClash := 0, CFormula := CFormula, CKeep := 0, CKeys := 0, CNoOrder := 0, CNoRanking := 0, CNoRow := 0, CNoStep := 0, CPlan := 0, CRank := 0, CReader := CReader, CTableError := CTableError, CTooHeavy := 0, CTooLong := 0, CTooManySteps := 0, CTwoSided := 0, aOPERANDS := aOPERANDS, f_BadRoom___init__ := f_BadRoom___init__, f_Formula___init__ := f_Formula___init__, f_Formula_read := f_Formula_read, f_Reader___init__ := f_Reader___init__, f_Reader_resize := f_Reader_resize, f_Reader_room := f_Reader_room, f_Reader_room_setter := f_Reader_room_setter, f_Reader_room_setter_new := f_Reader_room_setter_new, p_Formula_read := p_Formula_read, p_Reader_room := p_Reader_room, p_Reader_room_w := p_Reader_room_w } : Ads))) := ⟨⟨_, _, ok_law_refused (ad := ({ CBadFormula := 0, CBadKey := CBadKey, CBadPlan := 0, CBadRoom := CBadRoom, CBest := 0, CClash := 0, CFormula := CFormula, CKeep := 0, CKeys := 0, CNoOrder := 0, CNoRanking := 0, CNoRow := 0, CNoStep := 0, CPlan := 0, CRank := 0, CReader := CReader, CTableError := CTableError, CTooHeavy := 0, CTooLong := 0, CTooManySteps := 0, CTwoSided := 0, aOPERANDS := aOPERANDS, f_BadRoom___init__ := f_BadRoom___init__, f_Formula___init__ := f_Formula___init__, f_Formula_read := f_Formula_read, f_Reader___init__ := f_Reader___init__, f_Reader_resize := f_Reader_resize, f_Reader_room := f_Reader_room, f_Reader_room_setter := f_Reader_room_setter, f_Reader_room_setter_new := f_Reader_room_setter_new, p_Formula_read := p_Formula_read, p_Reader_room := p_Reader_room, p_Reader_room_w := p_Reader_room_w } : Ads)) F_law_refused GX_Reader_resize ⟨ma_Reader_Reader_resize, i_Reader_resize, kp_Reader_resize⟩ k_Reader e_BadRoom (PySem.W.mg_of X G aC_BadRoom) (PySem.W.exm_ref eex_BadRoom ehd_BadRoom ety_BadRoom ess_BadRoom) ⟨eg_BadRoom, ek_BadRoom, eex_BadRoom, ehd_BadRoom, ecl_BadRoom, ocg, oct, eo_BadRoom⟩ (PySem.W.mg_of X G aC_BadKey) kt_BadRoom_BadKey (PySem.W.mg_none_of X G z_isinstance) (PySem.W.mg_of X G aC_TableError) kt_BadRoom_TableError (PySem.W.mg_none_of X G z_ValueError) kt_BadRoom_ValueError (PySem.W.mg_none_of X G z_bool) (PySem.W.mg_none_of X G z_int) (PySem.W.mg_none_of X G z_str), b_law_refused⟩, kp_law_refused⟩
  exact fn_law (ok_law (ad := ({ CBadFormula := 0, CBadKey := CBadKey, CBadPlan := 0, CBadRoom := CBadRoom, CBest := 0, CClash := 0, CFormula := CFormula, CKeep := 0, CKeys := 0, CNoOrder := 0, CNoRanking := 0, CNoRow := 0, CNoStep := 0, CPlan := 0, CRank := 0, CReader := CReader, CTableError := CTableError, CTooHeavy := 0, CTooLong := 0, CTooManySteps := 0, CTwoSided := 0, aOPERANDS := aOPERANDS, f_BadRoom___init__ := f_BadRoom___init__, f_Formula___init__ := f_Formula___init__, f_Formula_read := f_Formula_read, f_Reader___init__ := f_Reader___init__, f_Reader_resize := f_Reader_resize, f_Reader_room := f_Reader_room, f_Reader_room_setter := f_Reader_room_setter, f_Reader_room_setter_new := f_Reader_room_setter_new, p_Formula_read := p_Formula_read, p_Reader_room := p_Reader_room, p_Reader_room_w := p_Reader_room_w } : Ads)) F_law ⟨_, G_law_pool, PySem.W.mg_of X G a_law_pool⟩ (PySem.W.mg_of X G aC_Formula) (PySem.W.mg_none_of X G z_int) G_Formula_read ⟨qa_Formula_read, ⟨_, qb_Formula_read⟩, qc_Formula_read⟩ ⟨ra_Formula, rb_Formula⟩ ⟨mm_Reader, a_Reader___init__, i_Reader___init__, mc_Reader⟩ KW_Reader___init__ (PySem.W.mg_of X G aC_Reader) KD_Reader___init__ (PySem.W.mg_none_of X G z_range) ⟨_, G_law_number, PySem.W.mg_of X G a_law_number⟩ (PySem.W.mg_none_of X G z_str) ⟨_, G_law_refused, PySem.W.mg_of X G a_law_refused⟩ ⟨_, G_law_refused_n, PySem.W.mg_of X G a_law_refused_n⟩ G_Reader_room ⟨pa_Reader_room, pb_Reader_room, pc_Reader_room, ⟨_, pd_Reader_room⟩⟩ k_Reader (PySem.W.mg_none_of X G z_isinstance) (PySem.W.mg_none_of X G z_bool) ⟨ra_Reader, rb_Reader⟩ ⟨cv_Reader_MOST, ⟨_, rfl⟩⟩) law_ok
theorem walk {l : PySem.W.OpenLaw} {q : Program} {loose : List Str} {XP : (Str → Option Value) → Heap → Prop} {YP : World → Heap → Prop} {d : DefRec} {K : Params → PySem.W.Frag} (hn : l.most = some 63) (hdf : d.params.defaults = [])
    (hY : ∀ (w : World) (h : Heap), YP w h → (K w.params).In h)
    (F : ∀ (w : World) (mg : Str → Option Value) (fa : Addr) (h : Heap), (K w.params).In h → h.Ns mainGlobals mg → mg d.name = some (.ref fa) →
      ∃ fd : FuncData, (∀ (s : Shared) (u : Value), BindsTo s fd ⟨[u], []⟩ [("_law_script", u)]) ∧ ∀ base : Heap, (K w.params).In base → base.Ns mainGlobals mg → FnOk l.prog w (K w.params) mg base CX0 7 fa fd ["_law_script"] (spP (K w.params) arLaw)) :
    PySem.W.WalkO q loose XP YP l.row.toRowW d [] (fun f vs => PySem.call f vs) :=
  L2.walk_of (n := 63) (k := 7) (x := "_law_script") (CX := fun _ => CX0) (sp := fun w => spP (K w.params) arLaw) hn (by decide) hdf ⟨rfl, by decide, by decide⟩ hY F (fun _ _ a ns hl _ hS => law_sp ⟨ns, rfl, hl, rfl⟩ hS fun _ => rfl) fun _ _ _ _ _ z => z
end DL
namespace DL
open PySem PySem.W PySem.Calls PyProof.Rows HeadRun
theorem left_rows {p q : Program} {loose : List PySem.Str} {Xt : Shared → Bool} {K : Params → Frag} {as : List Addr} {ek : ∀ P, as = (K P).map (·.1)} {N : Nat} (M : Nat) (row : String)
    (e : opening p = plainProg p.main.scope.names) (hN : Nat.ble 600 N = true) (f : ∀ s, fenceModules? p s = some s) (le : Nat.ble M N = true)
    (run : ∀ (b : Bool) (w : World) (os : OsState), (endF (stepQ (denQ tabQ) p (w.withFollow row b)) M p (w.withFollow row b) os).map (fun s => (looksF p (boot_heap (w.withFollow row b).params) s.abs, seenQ q loose (importedModules p.main.body) Xt s.abs, as.map (getT s))) = some (true, openGood q loose, (K (w.withFollow row b).params).map fun x => some x.2)) :
    LeftO p q loose Xt (Hook.obs (kHook K as ek)) (Hook.val (kHook K as ek)) N true :=
  left_oneK (M := M) e hN f le fun w os => by
    have z := run (w.params.followText row) w os
    rw [World.withFollow_self] at z
    exact z
def vq : Program := { PySem.Challenge.pw_unbettered_k35_rooms_of_a_reader with main := { PySem.Challenge.pw_unbettered_k35_rooms_of_a_reader.main with body := [PySem.Challenge.pw_unbettered_k35_rooms_of_a_reader.main.body.getD 32 (.Pass ⟨0, 0, 0, 0⟩)] } }
def vl : List PySem.Str := [PySem.Str.ofString "_wall", PySem.Str.ofString "__name__", PySem.Str.ofString "TableError", PySem.Str.ofString "BadFormula", PySem.Str.ofString "TooLong", PySem.Str.ofString "TooHeavy", PySem.Str.ofString "BadKey", PySem.Str.ofString "BadRoom", PySem.Str.ofString "Reader", PySem.Str.ofString "COLUMNS", PySem.Str.ofString "HEAVIEST", PySem.Str.ofString "ordered_marks", PySem.Str.ofString "joint_columns", PySem.Str.ofString "joint_marks", PySem.Str.ofString "check_weight", PySem.Str.ofString "values_near", PySem.Str.ofString "candidate_rows", PySem.Str.ofString "OPERANDS", PySem.Str.ofString "Formula", PySem.Str.ofString "decoded", PySem.Str.ofString "constant_of", PySem.Str.ofString "compared", PySem.Str.ofString "meets", PySem.Str.ofString "changed", PySem.Str.ofString "joined", PySem.Str.ofString "_law_pool", PySem.Str.ofString "_law_number", PySem.Str.ofString "_law_refused"]
end DL
local macro_rules | `(tactic| o_headL $H) => `(tactic| (refine PySem.W.holds_open (q := DL.vq) (loose := DL.vl) (Xt := fun s => PySem.W.xlAt DL.vq [] s && PySem.W.recOk (PySem.W.RowW.records (PySem.W.OpenRow.toRowW (PySem.W.OpenLaw.row PySem.Challenge.rw_unbettered_k35_rooms_of_a_reader))) s) (XP := PySem.W.XL DL.vq []) (Yf := PySem.W.Hook.obs $H) (Ya := PySem.W.Hook.val $H) (YP := PySem.W.Hook.says $H) (N := 20700) ?hl (PySem.W.Hook.of $H) (PySem.W.Hook.keeps $H) (fun s e => PySem.W.xl_of s (Bool.and_eq_true_iff.mp e).1) PySem.W.XL.keeps (by rfl) (by rfl) (by rfl) (fun s e => PySem.W.recFacts_of (Bool.and_eq_true_iff.mp e).2) (by rfl) (by assumption) (by decide +kernel) ⟨rfl, rfl, rfl, rfl, rfl, by decide +kernel⟩ ?hw ?hc))

open PySem PySem.W PyProof.Rows in
set_option maxRecDepth 100000 in
set_option maxHeartbeats 0 in
set_option pp.maxSteps 400 in
set_option pp.deepTerms false in
theorem PySem.Challenge.cw_unbettered_k35_rooms_of_a_reader_holds : PySem.Challenge.rw_unbettered_k35_rooms_of_a_reader.Holds := by
  w_on; o_law; k_headL; (case hw => w_witness2)
  (case hl => exact DL.left_rows 20000 "special-get-raises" (by kernel_rfl) (by rfl) (fun s => by kernel_rfl) (by rfl) (fun b w os => by cases b <;> kernel_rfl))
  k_fill
  refine DL.walk (l := PySem.Challenge.rw_unbettered_k35_rooms_of_a_reader) rfl rfl (fun w h Y => PySem.W.kIn_of Y) ?F
  case F =>
    intro w mg fa h KX G hmg
    refine' DL.all_mk KX G hmg ?aC_Formula ?aC_Reader ?aC_BadRoom ?aC_TableError ?aC_BadKey ?psa_Reader_room ?psb_Reader_room ?psc_Reader_room ?psa_Reader_room_w ?psb_Reader_room_w ?psc_Reader_room_w ?ma_Reader_Reader_resize ?pg_Formula ?hd_Formula ?po_Formula ?sa_Formula ?pg_Reader ?hd_Reader ?po_Reader ?sa_Reader ?a_law_pool ?l_law_pool ?c_law_pool ?kp_law_pool ?z_len ?z_range ?z_int ?a_constant_of ?l_constant_of ?c_constant_of ?kp_constant_of ?a_decoded ?l_decoded ?c_decoded ?kp_decoded ?ga_OPERANDS ?ld_OPERANDS ?li_OPERANDS ?lw_OPERANDS ?lv_OPERANDS ?ga_COLUMNS ?a_Formula___init__ ?i_Formula___init__ ?l_Formula___init__ ?c_Formula___init__ ?kp_Formula___init__ ?ra_Formula ?rb_Formula ?cv_Formula_MOST ?z_enumerate ?z_tuple ?na_Formula_code ?na_Formula_words ?qa_Formula_read ?qb_Formula_read ?qc_Formula_read ?l_Formula_read ?c_Formula_read ?kp_Formula_read ?mm_Formula ?mc_Formula ?i_Reader_room_setter_new ?l_Reader_room_setter_new ?c_Reader_room_setter_new ?kp_Reader_room_setter_new ?ra_Reader ?rb_Reader ?cv_Reader_MOST ?xL_BadRoom ?es_BadRoom ?eg_BadRoom ?ek_BadRoom ?en_BadRoom ?ei_BadRoom ?et_BadRoom ?ekp_BadRoom ?eex_BadRoom ?ety_BadRoom ?ehd_BadRoom ?emr_BadRoom ?esu_BadRoom ?eve_BadRoom ?est ?z_super ?etp ?l_BadRoom___init__ ?c_BadRoom___init__ ?hc_BadRoom ?hf_BadRoom ?hl_BadRoom ?hw_BadRoom ?na_Reader_space ?a_Reader___init__ ?i_Reader___init__ ?l_Reader___init__ ?kq_Reader___init__ ?c_Reader___init__ ?kp_Reader___init__ ?na_Reader_passes ?na_Reader_formula ?i_Reader_room_setter ?l_Reader_room_setter ?c_Reader_room_setter ?kp_Reader_room_setter ?a_Reader_resize ?i_Reader_resize ?l_Reader_resize ?c_Reader_resize ?kp_Reader_resize ?pa_Reader_room ?pb_Reader_room ?pc_Reader_room ?pd_Reader_room ?l_Reader_room ?c_Reader_room ?kp_Reader_room ?a_law_number ?l_law_number ?c_law_number ?kp_law_number ?a_law_refused_n ?l_law_refused_n ?c_law_refused_n ?kp_law_refused_n ?mm_Reader ?mc_Reader ?ess_BadRoom ?ecl_BadRoom ?ocg ?oct ?eo_BadRoom ?kt_BadRoom_BadKey ?z_isinstance ?kt_BadRoom_TableError ?z_ValueError ?kt_BadRoom_ValueError ?z_bool ?z_str ?a_law_refused ?l_law_refused ?c_law_refused ?kp_law_refused ?a_law ?l_law ?c_law ?kp_law
    (case aC_Formula => k_is)
    (case aC_Reader => k_is)
    (case aC_BadRoom => k_is)
    (case aC_TableError => k_is)
    (case aC_BadKey => k_is)
    (case psa_Reader_room => k_is)
    (case psb_Reader_room => k_is)
    (case psc_Reader_room => k_is)
    (case psa_Reader_room_w => k_is)
    (case psb_Reader_room_w => k_is)
    (case psc_Reader_room_w => k_is)
    (case ma_Reader_Reader_resize => k_is)
    (case pg_Formula => k_is)
    (case hd_Formula => k_is)
    (case po_Formula => k_is)
    (case sa_Formula => k_is)
    (case pg_Reader => k_is)
    (case hd_Reader => k_is)
    (case po_Reader => k_is)
    (case sa_Reader => k_is)
    (case a_law_pool => k_is)
    (case l_law_pool => k_is)
    (case c_law_pool => k_is)
    (case kp_law_pool => k_is)
    (case z_len => k_is)
    (case z_range => k_is)
    (case z_int => k_is)
    (case a_constant_of => k_is)
    (case l_constant_of => k_is)
    (case c_constant_of => k_is)
    (case kp_constant_of => k_is)
    (case a_decoded => k_is)
    (case l_decoded => k_is)
    (case c_decoded => k_is)
    (case kp_decoded => k_is)
    (case ga_OPERANDS => k_is)
    (case ld_OPERANDS => k_is)
    (case li_OPERANDS => exact ⟨⟨_, _, rfl, rfl⟩, ⟨_, _, rfl, rfl⟩, ⟨_, _, rfl, rfl⟩, ⟨_, _, rfl, rfl⟩, ⟨_, _, rfl, rfl⟩, ⟨_, _, rfl, rfl⟩, trivial⟩)
    (case lw_OPERANDS => rfl)
    (case lv_OPERANDS => rfl)
    (case ga_COLUMNS => k_is)
    (case a_Formula___init__ => k_is)
    (case i_Formula___init__ => k_is)
    (case l_Formula___init__ => k_is)
    (case c_Formula___init__ => k_is)
    (case kp_Formula___init__ => k_is)
    (case ra_Formula => k_is)
    (case rb_Formula => k_is)
    (case cv_Formula_MOST => k_is)
    (case z_enumerate => k_is)
    (case z_tuple => k_is)
    (case na_Formula_code => k_is)
    (case na_Formula_words => k_is)
    (case qa_Formula_read => k_is)
    (case qb_Formula_read => k_is)
    (case qc_Formula_read => k_is)
    (case l_Formula_read => k_is)
    (case c_Formula_read => k_is)
    (case kp_Formula_read => k_is)
    (case mm_Formula => k_is)
    (case mc_Formula => k_is)
    (case i_Reader_room_setter_new => k_is)
    (case l_Reader_room_setter_new => k_is)
    (case c_Reader_room_setter_new => k_is)
    (case kp_Reader_room_setter_new => k_is)
    (case ra_Reader => k_is)
    (case rb_Reader => k_is)
    (case cv_Reader_MOST => k_is)
    (case xL_BadRoom => k_is)
    (case es_BadRoom => k_is)
    (case eg_BadRoom => k_is)
    (case ek_BadRoom => k_is)
    (case en_BadRoom => k_is)
    (case ei_BadRoom => k_is)
    (case et_BadRoom => k_is)
    (case ekp_BadRoom => k_is)
    (case eex_BadRoom => k_is)
    (case ety_BadRoom => k_is)
    (case ehd_BadRoom => k_is)
    (case emr_BadRoom => first | k_is | rfl)
    (case esu_BadRoom => first | k_is | rfl)
    (case eve_BadRoom => k_is)
    (case est => k_is)
    (case z_super => k_is)
    (case etp => first | rfl | decide +kernel)
    (case l_BadRoom___init__ => k_is)
    (case c_BadRoom___init__ => k_is)
    (case hc_BadRoom => k_is)
    (case hf_BadRoom => first | rfl | k_is)
    (case hl_BadRoom => first | rfl | decide +kernel)
    (case hw_BadRoom => k_is)
    (case na_Reader_space => k_is)
    (case a_Reader___init__ => k_is)
    (case i_Reader___init__ => k_is)
    (case l_Reader___init__ => k_is)
    (case kq_Reader___init__ => k_is)
    (case c_Reader___init__ => k_is)
    (case kp_Reader___init__ => k_is)
    (case na_Reader_passes => k_is)
    (case na_Reader_formula => k_is)
    (case i_Reader_room_setter => k_is)
    (case l_Reader_room_setter => k_is)
    (case c_Reader_room_setter => k_is)
    (case kp_Reader_room_setter => k_is)
    (case a_Reader_resize => k_is)
    (case i_Reader_resize => k_is)
    (case l_Reader_resize => k_is)
    (case c_Reader_resize => k_is)
    (case kp_Reader_resize => k_is)
    (case pa_Reader_room => k_is)
    (case pb_Reader_room => k_is)
    (case pc_Reader_room => k_is)
    (case pd_Reader_room => k_is)
    (case l_Reader_room => k_is)
    (case c_Reader_room => k_is)
    (case kp_Reader_room => k_is)
    (case a_law_number => k_is)
    (case l_law_number => k_is)
    (case c_law_number => k_is)
    (case kp_law_number => k_is)
    (case a_law_refused_n => k_is)
    (case l_law_refused_n => k_is)
    (case c_law_refused_n => k_is)
    (case kp_law_refused_n => k_is)
    (case mm_Reader => k_is)
    (case mc_Reader => k_is)
    (case ess_BadRoom => first | rfl | k_is)
    (case ecl_BadRoom => k_is)
    (case ocg => k_is)
    (case oct => k_is)
    (case eo_BadRoom => first | k_is | rfl)
    (case kt_BadRoom_BadKey => first | kit_is | k_is | rfl)
    (case z_isinstance => k_is)
    (case kt_BadRoom_TableError => first | kit_is | k_is | rfl)
    (case z_ValueError => k_is)
    (case kt_BadRoom_ValueError => first | kit_is | k_is | rfl)
    (case z_bool => k_is)
    (case z_str => k_is)
    (case a_law_refused => k_is)
    (case l_law_refused => k_is)
    (case c_law_refused => k_is)
    (case kp_law_refused => k_is)
    (case a_law => k_is)
    (case l_law => k_is)
    (case c_law => k_is)
    (case kp_law => k_is)
