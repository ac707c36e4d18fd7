import PyProof.Rows.All
import Wide.All
import OpenK.AllK
import Wide.FinOn
import KE.KeyNested
import KE.KDictKeyed
import KE.KDictWalk
import HandS.ForMost
import HandS.WordsExc
import HandS.Walk
import HandS.IsInst
import HandS.Wide
import HandS.More
import HandS.Star
import HandS.ClsMeth
import HandS.Property
import HandS.Style
import PyProof.StrBlock2
import HandS.Call
import KE.GoesMore
import HandS.Text
import KE.IntTextLaws
import HandS.Deep
import HandS.TupAny
import KE.KExcSuper
import KE.KExcIs
import HandS.Exc
import HandS.ExcIs
import HandS.ExcField
import HandS.TryMany
import HandS.CallSlots
import HandS.SortInts
import KE.KOpsOwn
import HandS.ExcOwn
import HandS.Comp
import HandS.DictComp
import KE.KDictList
import HandS.NoneIn
import HandS.Conv
import HandS.SlotsOwn
import HandS.FStr
import KE.KxField
import PyProof.Rows.StrOr
import KE.KSuper
import HandS.MakeKwOnly
import HandS.Defaults
import KE.KOwnIter
import HandS.OwnIter
import HandS.IterVal
import HandS.Iter
import PyProof.ZipIter
import PyProof.Rows.Range3
import HandS.MakeKw
import HandS.GenList
import KE.OsRunLaw
import PySem.Challenge.RW_unbettered_k33_passes_of_a_reader
set_option Elab.async false
set_option linter.all false
set_option maxRecDepth 100000
set_option maxHeartbeats 2000000
namespace DL
open PySem PySem.Spec PyProof.Rows L2
inductive D where
  | non | bl (b : Bool) | int (i : Int) | str (s : Str) | ty (n : String) | rf (a : Addr)
  | tup (ds : List D) | lst (ds : List D) | frl (ds : List D)
  | obj (C : Addr) (ns : List Str) (ds : List D)
  | dct (ks : List NestedKey)
mutual
/-- a key as a datum -/
def dOf : NestedKey → D
  | .none => .non
  | .num i => .int i
  | .text x => .str x
  | .tup ks => .tup (dOfs ks)
def dOfs : List NestedKey → List D
  | [] => []
  | k :: ks => dOf k :: dOfs ks
end
mutual
/-- of whole numbers alone -/
def numK : NestedKey → Bool
  | .none => false
  | .num _ => true
  | .text _ => false
  | .tup ks => numKs ks
def numKs : List NestedKey → Bool
  | [] => true
  | k :: ks => numK k && numKs ks
end
structure DctOk (es : Array DictEntry) (bs : List V) (ks : List NestedKey) (as : List Addr) : Prop where
  nd : ks.Nodup
  num : ∀ k ∈ ks, numK k = true ∧ k.depth ≤ 8
  bs : bs = as.map V.ref
  len : as.length = ks.length
  es : ∀ w : World, es.toList = (ks.zip as).map fun p => (⟨p.1.hash w, .ref p.2, .bool true⟩ : DictEntry)
  lim : ks.length ≤ sizeLine
mutual
inductive Rp (K : PySem.W.Frag) (H : Hp) : V → D → Prop
  | non : Rp K H .non .non
  | bl (b : Bool) : Rp K H (.bl b) (.bl b)
  | int (i : Int) : Rp K H (.int i) (.int i)
  | str (s : Str) : Rp K H (.str s) (.str s)
  | ty (n : String) : Rp K H (.ty n) (.ty n)
  | rf (a : Addr) : Rp K H (.ref a) (.rf a)
  | tup {a : Addr} {vs : List V} {ds : List D} : SqT K H a vs → RpL K H vs ds → Rp K H (.ref a) (.tup ds)
  | lst {a : Addr} {vs : List V} {ds : List D} : H a = some (.lst vs) → RpL K H vs ds → Rp K H (.ref a) (.lst ds)
  | frl {a : Addr} {vs : List V} {ds : List D} : SqL K H a vs → RpL K H vs ds → Rp K H (.ref a) (.frl ds)
  | obj {a C dx : Addr} {fv : List (Str × V)} {ns : List Str} {ds : List D} : H a = some (.ins C dx fv) → fv.map (·.1) = ns → RpL K H (fv.map (·.2)) ds → Rp K H (.ref a) (.obj C ns ds)
  | dct {a : Addr} {es : Array DictEntry} {ep : Nat} {bs : List V} {ks : List NestedKey} {as : List Addr} : H a = some (.ext fun h => h.DictRaw a es ep) → (a == sysModules) = false → DctOk es bs ks as → RpL K H bs (dOfs ks) → Rp K H (.ref a) (.dct ks)
inductive RpL (K : PySem.W.Frag) (H : Hp) : List V → List D → Prop
  | nil : RpL K H [] []
  | cons {v : V} {vs : List V} {d : D} {ds : List D} : Rp K H v d → RpL K H vs ds → RpL K H (v :: vs) (d :: ds)
end
theorem same_t {K : PySem.W.Frag} {H H' : Hp} {a : Addr} {xs : List V} (e : Same H H') (h : SqT K H a xs) : SqT K H' a xs := by
  rcases h with (h | ⟨o, h⟩) | h
  · exact .inl (.inl (e _ _ h))
  · exact .inl (.inr ⟨o, e _ _ h⟩)
  · exact .inr h
section
variable {K : PySem.W.Frag} {H H' : Hp}
mutual
theorem Rp.mono (e : Same H H') : ∀ {v : V} {d : D}, Rp K H v d → Rp K H' v d
  | _, _, .non => .non
  | _, _, .bl b => .bl b
  | _, _, .int b => .int b
  | _, _, .str b => .str b
  | _, _, .ty b => .ty b
  | _, _, .rf b => .rf b
  | _, _, .tup h r => .tup (same_t e h) (r.mono e)
  | _, _, .lst h r => .lst (e _ _ h) (r.mono e)
  | _, _, .frl h r => .frl (e.seq h) (r.mono e)
  | _, _, .obj h n r => .obj (e _ _ h) n (r.mono e)
  | _, _, .dct h l k r => .dct (e _ _ h) l k (r.mono e)
theorem RpL.mono (e : Same H H') : ∀ {vs : List V} {ds : List D}, RpL K H vs ds → RpL K H' vs ds
  | _, _, .nil => .nil
  | _, _, .cons h r => .cons (h.mono e) (r.mono e)
end
theorem RpL.length : ∀ {vs : List V} {ds : List D}, RpL K H vs ds → vs.length = ds.length
  | _, _, .nil => rfl
  | _, _, .cons _ r => by rw [List.length_cons, List.length_cons, r.length]
theorem RpL.get : ∀ {vs : List V} {ds : List D} {i : Nat} {d : D}, RpL K H vs ds → ds[i]? = some d → ∃ v, vs[i]? = some v ∧ Rp K H v d
  | _, _, _, _, .nil, h => by simp at h
  | _, _, 0, _, .cons h _, e => by simp at e; subst e; exact ⟨_, rfl, h⟩
  | _, _, i + 1, d, .cons _ r, e => by
    obtain ⟨v, e1, q⟩ := r.get (i := i) (d := d) (by simpa using e)
    exact ⟨v, by simpa using e1, q⟩
theorem RpL.append : ∀ {vs ws : List V} {ds es : List D}, RpL K H vs ds → RpL K H ws es → RpL K H (vs ++ ws) (ds ++ es)
  | _, _, _, _, .nil, s => s
  | _, _, _, _, .cons h r, s => .cons h (r.append s)
theorem RpL.take : ∀ {vs : List V} {ds : List D} (n : Nat), RpL K H vs ds → RpL K H (vs.take n) (ds.take n)
  | _, _, 0, _ => .nil
  | _, _, _ + 1, .nil => .nil
  | _, _, n + 1, .cons h r => .cons h (r.take n)
theorem RpL.drop : ∀ {vs : List V} {ds : List D} (n : Nat), RpL K H vs ds → RpL K H (vs.drop n) (ds.drop n)
  | _, _, 0, r => r
  | _, _, _ + 1, .nil => .nil
  | _, _, n + 1, .cons _ r => r.drop n
theorem RpL.set {v : V} {d : D} (h : Rp K H v d) : ∀ {vs : List V} {ds : List D} (n : Nat), RpL K H vs ds → RpL K H (vs.set n v) (ds.set n d)
  | _, _, _, .nil => .nil
  | _, _, 0, .cons _ r => .cons h r
  | _, _, n + 1, .cons h' r => .cons h' (r.set h n)
theorem RpL.dropLast {vs : List V} {ds : List D} (r : RpL K H vs ds) : RpL K H vs.dropLast ds.dropLast := by
  rw [List.dropLast_eq_take, List.dropLast_eq_take, r.length]
  exact r.take _
theorem RpL.reverse : ∀ {vs : List V} {ds : List D}, RpL K H vs ds → RpL K H vs.reverse ds.reverse
  | _, _, .nil => .nil
  | _, _, .cons h r => by
    rw [List.reverse_cons, List.reverse_cons]
    exact r.reverse.append (.cons h .nil)
theorem RpL.ofInts : ∀ (ns : List Int), RpL K H (ns.map V.int) (ns.map D.int)
  | [] => .nil
  | n :: ns => .cons (.int n) (RpL.ofInts ns)
theorem RpL.bls : ∀ {vs : List V} {ns : List Bool}, RpL K H vs (ns.map D.bl) → vs = ns.map V.bl
  | _, [], .nil => rfl
  | _, _ :: _, .cons (.bl _) r => by rw [List.map_cons, ← r.bls]
theorem RpL.strs : ∀ {vs : List V} {ns : List Str}, RpL K H vs (ns.map D.str) → vs = ns.map V.str
  | _, [], .nil => rfl
  | _, _ :: _, .cons (.str _) r => by rw [List.map_cons, ← r.strs]
theorem RpL.ofStrs : ∀ (ns : List Str), RpL K H (ns.map V.str) (ns.map D.str)
  | [] => .nil
  | n :: ns => .cons (.str n) (RpL.ofStrs ns)
end
inductive M where
  | lst (ds : List D)
  | ins (C : Addr) (ns : List Str) (ds : List D)
  | dk (kvs : List (Key × D))
  | dct (ks : List NestedKey)
abbrev Om := List (Addr × M)
def has (O : Om) (a : Addr) : Bool := O.any fun p => p.1 == a
def vis (F : Addr → Bool) (O : Om) (H : Hp) : Hp := fun a => if (F a || has O a) = true then none else H a
theorem vis_some {F : Addr → Bool} {O : Om} {H : Hp} {a : Addr} {o : HO} : vis F O H a = some o ↔ F a = false ∧ has O a = false ∧ H a = some o := by
  unfold vis
  cases F a <;> cases has O a <;> simp
theorem vis_same {F : Addr → Bool} {O : Om} {H H' : Hp} (e : Same H H') : Same (vis F O H) (vis F O H') := fun a o h => by
  obtain ⟨h1, h2, h3⟩ := vis_some.mp h
  exact vis_some.mpr ⟨h1, h2, e _ _ h3⟩
theorem vis_le {F : Addr → Bool} {O : Om} {H : Hp} : Same (vis F O H) H := fun a o h => (vis_some.mp h).2.2
theorem has_cons {O : Om} {a b : Addr} {m : M} : has ((b, m) :: O) a = (b == a || has O a) := rfl
theorem has_mem {O : Om} {a : Addr} : has O a = true ↔ ∃ m, (a, m) ∈ O := by
  unfold has
  rw [List.any_eq_true]
  constructor
  · rintro ⟨⟨b, m⟩, h, e⟩
    have e' : b = a := by simpa using e
    exact ⟨m, e' ▸ h⟩
  · rintro ⟨m, h⟩
    exact ⟨_, h, by simp⟩
def MRp (K : PySem.W.Frag) (Hv H : Hp) (a : Addr) : M → Prop
  | .lst ds => ∃ vs, H a = some (.lst vs) ∧ RpL K Hv vs ds
  | .ins C ns ds => ∃ dx fv, H a = some (.ins C dx fv) ∧ fv.map (·.1) = ns ∧ RpL K Hv (fv.map (·.2)) ds
  | .dk kvs => ∃ kv : List (Key × V), H a = some (.dK kv) ∧ kv.map (·.1) = kvs.map (·.1) ∧ RpL K Hv (kv.map (·.2)) (kvs.map (·.2))
  | .dct ks => ∃ es ep bs as, H a = some (.ext fun h => h.DictRaw a es ep) ∧ (a == sysModules) = false ∧ DctOk es bs ks as ∧ RpL K Hv bs (dOfs ks)
theorem MRp.some {K : PySem.W.Frag} {Hv H : Hp} {a : Addr} : ∀ {m : M}, MRp K Hv H a m → ∃ o, H a = Option.some o
  | .lst _, ⟨_, h, _⟩ => ⟨_, h⟩
  | .ins _ _ _, ⟨_, _, h, _⟩ => ⟨_, h⟩
  | .dk _, ⟨_, h, _⟩ => ⟨_, h⟩
  | .dct _, ⟨_, _, _, _, h, _⟩ => ⟨_, h⟩
theorem MRp.mono {K : PySem.W.Frag} {Hv Hv' H H' : Hp} {a : Addr} (e : Same Hv Hv') (eh : ∀ o, H a = Option.some o → H' a = Option.some o) : ∀ {m : M}, MRp K Hv H a m → MRp K Hv' H' a m
  | .lst _, ⟨vs, h, r⟩ => ⟨vs, eh _ h, r.mono e⟩
  | .ins _ _ _, ⟨dx, fv, h, n, r⟩ => ⟨dx, fv, eh _ h, n, r.mono e⟩
  | .dk _, ⟨kv, h, n, r⟩ => ⟨kv, eh _ h, n, r.mono e⟩
  | .dct _, ⟨es, ep, bs, as, h, l, k, r⟩ => ⟨es, ep, bs, as, eh _ h, l, k, r.mono e⟩
structure Gd where
  F : Addr → Bool
  Hb : Hp
  W : Value → Option Addr → L2.St → Hp → Prop
  L : Om
  ok : ∀ a, F a = true → ∃ o, Hb a = some o
  lF : ∀ a m, (a, m) ∈ L → F a = true
structure MOk (K : PySem.W.Frag) (B : Gd) (O : Om) (H : Hp) : Prop where
  base : ∀ a o, B.Hb a = some o → H a = some o ∧ has O a = false
  mem : ∀ a m, (a, m) ∈ O → MRp K (vis B.F O H) H a m
  nd : (O.map (·.1)).Nodup
  lent : ∀ a m, (a, m) ∈ B.L → MRp K (vis B.F O H) H a m
def EnvR (K : PySem.W.Frag) (Hv : Hp) (σ : L2.St) (ρ : List (Option D)) : Prop := σ.length = ρ.length ∧ ∀ (i : Nat) (d : D), ρ[i]? = some (some d) → ∃ v, σ[i]? = some (some v) ∧ Rp K Hv v d
structure StOk (K : PySem.W.Frag) (B : Gd) (ρ : List (Option D)) (O : Om) (σ : L2.St) (H : Hp) : Prop where
  m : MOk K B O H
  env : EnvR K (vis B.F O H) σ ρ
section
variable {K : PySem.W.Frag} {B : Gd} {ρ : List (Option D)} {O : Om} {σ : L2.St} {H H' : Hp}
theorem MOk.same (h : MOk K B O H) (e : Same H H') : MOk K B O H' :=
  ⟨fun a o q => ⟨e _ _ (h.base a o q).1, (h.base a o q).2⟩, fun a m q => (h.mem a m q).mono (vis_same e) (fun o q => e _ _ q), h.nd, fun a m q => (h.lent a m q).mono (vis_same e) (fun o q => e _ _ q)⟩
theorem EnvR.mono {Hv Hv' : Hp} (h : EnvR K Hv σ ρ) (e : Same Hv Hv') : EnvR K Hv' σ ρ := ⟨h.1, fun i d q => let ⟨v, a, b⟩ := h.2 i d q; ⟨v, a, b.mono e⟩⟩
theorem StOk.same (h : StOk K B ρ O σ H) (e : Same H H') : StOk K B ρ O σ H' := ⟨h.m.same e, h.env.mono (vis_same e)⟩
theorem MOk.newF (h : MOk K B O H) {p : Addr} (hp : H p = none) : B.F p = false := by
  cases q : B.F p with
  | false => rfl
  | true =>
    obtain ⟨o, e⟩ := B.ok p q
    have := (h.base p o e).1
    rw [hp] at this; cases this
theorem MOk.newO (h : MOk K B O H) {p : Addr} (hp : H p = none) : has O p = false := by
  cases q : has O p with
  | false => rfl
  | true =>
    obtain ⟨m, e⟩ := has_mem.mp q
    obtain ⟨o, e'⟩ := (h.mem p m e).some
    rw [hp] at e'; cases e'
theorem same_new {p : Addr} {o : HO} (hp : H p = none) : Same H (upd H p o) := fun a u e => by
  rw [upd_ne (ne_of_none e hp)]; exact e
theorem MOk.visNew (h : MOk K B O H) {p : Addr} {o : HO} (hp : H p = none) : vis B.F O (upd H p o) p = some o := vis_some.mpr ⟨h.newF hp, h.newO hp, upd_same⟩
theorem EnvR.set {Hv : Hp} (h : EnvR K Hv σ ρ) {i : Nat} {v : V} {d : D} (r : Rp K Hv v d) : EnvR K Hv (σ.set i (some v)) (ρ.set i (some d)) := by
  refine ⟨by simp [h.1], fun j d' e => ?_⟩
  by_cases hj : i = j
  · subst hj
    have hl : i < ρ.length := by
      have := (List.getElem?_eq_some_iff.mp e).1
      simpa using this
    rw [List.getElem?_set_self hl] at e
    cases e
    exact ⟨v, by rw [List.getElem?_set_self (by rw [h.1]; exact hl)], r⟩
  · rw [List.getElem?_set_ne hj] at e
    obtain ⟨v', a, b⟩ := h.2 j d' e
    exact ⟨v', by rw [List.getElem?_set_ne hj]; exact a, b⟩
theorem StOk.set (h : StOk K B ρ O σ H) {i : Nat} {v : V} {d : D} (r : Rp K (vis B.F O H) v d) : StOk K B (ρ.set i (some d)) O (σ.set i (some v)) H := ⟨h.m, h.env.set r⟩
def Wk (ρ ρ' : List (Option D)) : Prop := ρ.length = ρ'.length ∧ ∀ (i : Nat) (d : D), ρ[i]? = some (some d) → ρ'[i]? = some (some d)
theorem StOk.weak {ρ' : List (Option D)} (h : StOk K B ρ' O σ H) (w : Wk ρ ρ') : StOk K B ρ O σ H := ⟨h.m, h.env.1.trans w.1.symm, fun i d e => h.env.2 i d (w.2 i d e)⟩
end
def tD (K : PySem.W.Frag) (B : Gd) (ρ : List (Option D)) (O : Om) (d : D) : TE := fun σ H Q => StOk K B ρ O σ H ∧ ∀ v H', Same H H' → Rp K (vis B.F O H') v d → Q v H'
def tN (K : PySem.W.Frag) (B : Gd) (ρ : List (Option D)) (O : Om) (ds : List D) : TE := fun σ H Q => StOk K B ρ O σ H ∧
  ∀ p H' vs, H p = none → Same H H' → H' p = some (.lst vs) → RpL K (vis B.F ((p, .lst ds) :: O) H') vs ds → Q (.ref p) H'
def tT (K : PySem.W.Frag) (B : Gd) (ρ : List (Option D)) (O : Om) (b : Bool) : TT := fun σ H Q => StOk K B ρ O σ H ∧ ∀ H', Same H H' → Q b H'
def tA (K : PySem.W.Frag) (B : Gd) (ρ : List (Option D)) (O : Om) (ds : List D) : TA := fun σ H Q => StOk K B ρ O σ H ∧ ∀ vs H', Same H H' → RpL K (vis B.F O H') vs ds → Q vs H'
abbrev EV (X : Cx) (B : Gd) (ρ : List (Option D)) (O : Om) (e : Expr) (d : D) : Prop := PE X e (tD X.K B ρ O d)
abbrev EN (X : Cx) (B : Gd) (ρ : List (Option D)) (O : Om) (e : Expr) (ds : List D) : Prop := PE X e (tN X.K B ρ O ds)
abbrev ET (X : Cx) (B : Gd) (ρ : List (Option D)) (O : Om) (e : Expr) (b : Bool) : Prop := PT X e (tT X.K B ρ O b)
abbrev EW (X : Cx) (B : Gd) (ρ : List (Option D)) (O : Om) (e : Expr) (b : Bool) : Prop := PW X e (tT X.K B ρ O b)
abbrev EA (X : Cx) (B : Gd) (ρ : List (Option D)) (O : Om) (es : List Expr) (ds : List D) : Prop := PA X es (tA X.K B ρ O ds)
theorem pe_imp {X : Cx} {e : Expr} {t t' : TE} (h : PE X e t) (w : ∀ σ H Q, t' σ H Q → t σ H Q) : PE X e t' := ⟨fun pins s σ H Q I q => h.run pins s σ H Q I (w σ H Q q)⟩
theorem pt_imp {X : Cx} {e : Expr} {t t' : TT} (h : PT X e t) (w : ∀ σ H Q, t' σ H Q → t σ H Q) : PT X e t' := ⟨fun pins s σ H Q I q => h.run pins s σ H Q I (w σ H Q q)⟩
theorem pw_imp {X : Cx} {e : Expr} {t t' : TT} (h : PW X e t) (w : ∀ σ H Q, t' σ H Q → t σ H Q) : PW X e t' := ⟨fun wh pins s σ H Q I q => h.run wh pins s σ H Q I (w σ H Q q)⟩
theorem pa_imp {X : Cx} {es : List Expr} {t t' : TA} (h : PA X es t) (w : ∀ σ H Q, t' σ H Q → t σ H Q) : PA X es t' := ⟨fun p pins s σ H Q I q => h.run p pins s σ H Q I (w σ H Q q)⟩
theorem ps_imp {X : Cx} {st : Stmt} {t t' : TS} (h : PS X st t) (w : ∀ Dn σ H, t' Dn σ H → t Dn σ H) : PS X st t' := ⟨fun pins s σ H Dn I q => h.run pins s σ H Dn I (w Dn σ H q)⟩
theorem pss_imp {X : Cx} {st : List Stmt} {t t' : TS} (h : PSs X st t) (w : ∀ Dn σ H, t' Dn σ H → t Dn σ H) : PSs X st t' := ⟨fun pins s σ H Dn I q => h.run pins s σ H Dn I (w Dn σ H q)⟩
section
variable {X : Cx} {B : Gd} {ρ : List (Option D)} {O : Om} {a b c e : Expr} {es : List Expr} {d d1 d2 d3 : D} {ds : List D} {pos : Pos} {b1 b2 : Bool}
theorem ev_name {i : Nat} {x : Str} (hN : X.N[i]? = some x) (hv : Vis X.env.scope x) (hd : ρ[i]? = some (some d)) (h1 : (x == ("__debug__" : Str)) = false) (h2 : (x == ("__classdict__" : Str)) = false) : EV X B ρ O (.Name x pos) d :=
  pe_imp (pe_var hN hv h1 h2) fun σ H Q ⟨st, k⟩ => by
    obtain ⟨v, e, r⟩ := st.env.2 i d hd
    exact ⟨v, e, k v H (Same.refl H) r⟩
theorem ev_const {v : V} (h : PE X e (tC v)) (r : ∀ K H, Rp K H v d) : EV X B ρ O e d := pe_imp h fun σ H Q ⟨st, k⟩ => k v H (Same.refl H) (r _ _)
theorem ev_int {i : Int} {j} : EV X B ρ O (.Constant (.int i) j pos) (.int i) := ev_const pe_int fun _ _ => .int i
theorem ev_str {i : Str} {j} : EV X B ρ O (.Constant (.str i) j pos) (.str i) := ev_const pe_str fun _ _ => .str i
theorem ev_bl {i : Bool} {j} : EV X B ρ O (.Constant (.bool i) j pos) (.bl i) := ev_const pe_bl fun _ _ => .bl i
theorem ev_non {j} : EV X B ρ O (.Constant .none j pos) .non := ev_const pe_non fun _ _ => .non
theorem ev_glob {x : Str} {v : V} {u : Value} (hg : Gl X x) (hm : X.mg x = some u) (r : RelV v u) (rp : ∀ H, Rp X.K H v d) (hd : (x == ("__debug__" : Str)) = false := by decide) : EV X B ρ O (.Name x pos) d :=
  pe_imp (pe_glob hg hm r hd) fun σ H Q ⟨st, k⟩ => k v H (Same.refl H) (rp _)
def RD (K : PySem.W.Frag) (B : Gd) (O : Om) (r : R2) (d1 d2 d : D) : Prop :=
  ∀ (x y : V) (H : Hp) (Q : VK), MOk K B O H → Rp K (vis B.F O H) x d1 → Rp K (vis B.F O H) y d2 → (∀ v H', Same H H' → Rp K (vis B.F O H') v d → Q v H') → r x y H Q
theorem two {r : R2} (hr : RD X.K B O r d1 d2 d) (σ : L2.St) (H : Hp) (Q : VK) (h : tD X.K B ρ O d σ H Q) : tOp r (tD X.K B ρ O d1) (tD X.K B ρ O d2) σ H Q := by
  obtain ⟨st, k⟩ := h
  refine ⟨st, fun x H1 e1 r1 => ⟨st.same e1, fun y H2 e2 r2 => ?_⟩⟩
  exact hr x y H2 Q ((st.same e1).same e2).m (r1.mono (vis_same e2)) r2 fun v H' e3 r3 => k v H' ((e1.trans e2).trans e3) r3
theorem ev_op {op : Operator} {r : R2} (ho : OpR X (binaryOp op) r) (hr : RD X.K B O r d1 d2 d) (ha : EV X B ρ O a d1) (hb : EV X B ρ O b d2) : EV X B ρ O (.BinOp a op b pos) d := pe_imp (pe_op ho ha hb) (two hr)
theorem ev_cmp {op : CmpOp} {r : R2} (ho : OpR X (compareOp op) r) (hr : RD X.K B O r d1 d2 d) (ha : EV X B ρ O a d1) (hb : EV X B ρ O b d2) (hm : behindInMarks op b = false) : EV X B ρ O (.Compare a [op] [b] pos) d := pe_imp (pe_cmpR ho ha hb hm) (two hr)
theorem et_of (h : EV X B ρ O e (.bl b1)) (he : ∀ whole, isTrue e X.env whole = (do let v ← whole; standAt e.pos; holding [v] (truthy v)) := by intro _; rfl) : ET X B ρ O e b1 :=
  pt_imp (pt_val h he) fun σ H Q ⟨st, k⟩ => ⟨st, fun v H1 e1 r1 => by cases r1; exact ⟨b1, rfl, k H1 e1⟩⟩
theorem et_cmp {op : CmpOp} {r : R2} (ho : OpR X (compareOp op) r) (hr : RD X.K B O r d1 d2 (.bl b1)) (ha : EV X B ρ O a d1) (hb : EV X B ρ O b d2) (hm : behindInMarks op b = false) : ET X B ρ O (.Compare a [op] [b] pos) b1 :=
  pt_imp (pt_cmpR ho ha hb hm) fun σ H Q ⟨st, k⟩ => two (ρ := ρ) hr σ H _ ⟨st, fun v H1 e1 r1 => by cases r1; exact ⟨b1, rfl, k H1 e1⟩⟩
theorem rd_I0 {g : Int → Int → Int} {i j : Int} {K : PySem.W.Frag} : RD K B O (rI0 fun i j => .int (g i j)) (.int i) (.int j) (.int (g i j)) := fun x y H Q m r1 r2 k => by
  cases r1; cases r2; exact ⟨i, j, rfl, rfl, k _ H (Same.refl H) (.int _)⟩
theorem rd_B0 {g : Int → Int → Bool} {i j : Int} {K : PySem.W.Frag} : RD K B O (rI0 fun i j => .bl (g i j)) (.int i) (.int j) (.bl (g i j)) := fun x y H Q m r1 r2 k => by
  cases r1; cases r2; exact ⟨i, j, rfl, rfl, k _ H (Same.refl H) (.bl _)⟩
theorem rd_I {C : Int → Int → Prop} {g : Int → Int → Int} {i j : Int} {K : PySem.W.Frag} (hc : C i j) : RD K B O (rI C fun i j => .int (g i j)) (.int i) (.int j) (.int (g i j)) := fun x y H Q m r1 r2 k => by
  cases r1; cases r2; exact ⟨i, j, rfl, rfl, hc, k _ H (Same.refl H) (.int _)⟩
def scalD : D → V
  | .non => .non | .bl b => .bl b | .int i => .int i | .str s => .str s | .ty n => .ty n | .rf a => .ref a | _ => .flt 0
def isScal : D → Bool
  | .non | .bl _ | .int _ | .str _ | .ty _ | .rf _ => true
  | _ => false
theorem rp_scal {K : PySem.W.Frag} {H : Hp} {v : V} (h : Rp K H v d) (hs : isScal d = true) : v = scalD d := by
  cases h <;> first | rfl | cases hs
theorem rd_eq {K : PySem.W.Frag} (h1 : isScal d1 = true) (h2 : isScal d2 = true) (hs : scal (scalD d1) (scalD d2) = true) : RD K B O rEq d1 d2 (.bl (decide (scalD d1 = scalD d2))) := fun x y H Q m r1 r2 k => by
  rw [rp_scal r1 h1, rp_scal r2 h2]
  exact ⟨hs, k _ H (Same.refl H) (.bl _)⟩
theorem rd_ne {K : PySem.W.Frag} (h1 : isScal d1 = true) (h2 : isScal d2 = true) (hs : scal (scalD d1) (scalD d2) = true) : RD K B O rNe d1 d2 (.bl (!decide (scalD d1 = scalD d2))) := fun x y H Q m r1 r2 k => by
  rw [rp_scal r1 h1, rp_scal r2 h2]
  exact ⟨hs, k _ H (Same.refl H) (.bl _)⟩
theorem rd_imp {K : PySem.W.Frag} {r : R2} {d d' : D} (h : RD K B O r d1 d2 d) (e : d = d') : RD K B O r d1 d2 d' := e ▸ h
theorem rd_eqI {K : PySem.W.Frag} {i j : Int} : RD K B O rEq (.int i) (.int j) (.bl (decide (i = j))) := rd_imp (rd_eq rfl rfl rfl) (by simp [scalD])
theorem rd_neI {K : PySem.W.Frag} {i j : Int} : RD K B O rNe (.int i) (.int j) (.bl (!decide (i = j))) := rd_imp (rd_ne rfl rfl rfl) (by simp [scalD])
theorem rd_eqS {K : PySem.W.Frag} {i j : Str} : RD K B O rEq (.str i) (.str j) (.bl (decide (i = j))) := rd_imp (rd_eq rfl rfl rfl) (by simp [scalD])
theorem rd_neS {K : PySem.W.Frag} {i j : Str} : RD K B O rNe (.str i) (.str j) (.bl (!decide (i = j))) := rd_imp (rd_ne rfl rfl rfl) (by simp [scalD])
theorem rd_addS {K : PySem.W.Frag} {i j : Str} (hz : i.length + j.length ≤ sizeLine) : RD K B O (fun x y H Q => ∃ i j, x = .str i ∧ y = .str j ∧ i.length + j.length ≤ sizeLine ∧ Q (.str (i ++ j)) H) (.str i) (.str j) (.str (i ++ j)) := fun x y H Q m r1 r2 k => by
  cases r1; cases r2; exact ⟨i, j, rfl, rfl, hz, k _ H (Same.refl H) (.str _)⟩
theorem ev_neg {i : Int} (ha : EV X B ρ O a (.int i)) : EV X B ρ O (.UnaryOp .USub a pos) (.int (-i)) := pe_imp (pe_un un_neg ha) fun σ H Q ⟨st, k⟩ => ⟨st, fun v H1 e1 r1 => by cases r1; exact ⟨i, rfl, k _ H1 e1 (.int _)⟩⟩
theorem et_not (h : ET X B ρ O a b1) : ET X B ρ O (.UnaryOp .Not a pos) (!b1) := pt_imp (pt_not h) fun σ H Q ⟨st, k⟩ => ⟨st, fun H1 e1 => k H1 e1⟩
theorem ev_not (h : EV X B ρ O a (.bl b1)) : EV X B ρ O (.UnaryOp .Not a pos) (.bl (!b1)) := pe_imp (pe_not h) fun σ H Q ⟨st, k⟩ => ⟨st, fun v H1 e1 r1 => by cases r1; exact ⟨b1, rfl, k _ H1 e1 (.bl _)⟩⟩
theorem ew_and1 (h : ET X B ρ O a b1) : EW X B ρ O (.BoolOp .And [a] pos) b1 := pw_and1 h
theorem ew_or1 (h : ET X B ρ O a b1) : EW X B ρ O (.BoolOp .Or [a] pos) b1 := pw_or1 h
theorem ew_and (h1 : ET X B ρ O a b1) (h2 : b1 = true → EW X B ρ O (.BoolOp .And (b :: es) pos) b2) : EW X B ρ O (.BoolOp .And (a :: b :: es) pos) (b1 && b2) := by
  cases b1 with
  | true => exact pw_imp (pw_and h1 (h2 rfl)) fun σ H Q ⟨st, k⟩ => ⟨st, fun H1 e1 => iteT ⟨st.same e1, fun H2 e2 => k H2 (e1.trans e2)⟩⟩
  | false => exact pw_imp (pw_and h1 (tB' := fun _ _ _ => False) ⟨fun _ _ _ _ _ _ _ h => h.elim⟩) fun σ H Q ⟨st, k⟩ => ⟨st, fun H1 e1 => iteF (k H1 e1)⟩
theorem ew_or (h1 : ET X B ρ O a b1) (h2 : b1 = false → EW X B ρ O (.BoolOp .Or (b :: es) pos) b2) : EW X B ρ O (.BoolOp .Or (a :: b :: es) pos) (b1 || b2) := by
  cases b1 with
  | false => exact pw_imp (pw_or h1 (h2 rfl)) fun σ H Q ⟨st, k⟩ => ⟨st, fun H1 e1 => iteF ⟨st.same e1, fun H2 e2 => k H2 (e1.trans e2)⟩⟩
  | true => exact pw_imp (pw_or h1 (tB' := fun _ _ _ => False) ⟨fun _ _ _ _ _ _ _ h => h.elim⟩) fun σ H Q ⟨st, k⟩ => ⟨st, fun H1 e1 => iteT (k H1 e1)⟩
theorem et_w (h : EW X B ρ O e b1) : ET X B ρ O e b1 := PW.pt h
theorem ev_one {op} (h : EV X B ρ O a d) : EV X B ρ O (.BoolOp op [a] pos) d := pe_one h
theorem ev_and (h1 : EV X B ρ O a (.bl b1)) (h2 : b1 = true → EV X B ρ O (.BoolOp .And (b :: es) pos) (.bl b2)) : EV X B ρ O (.BoolOp .And (a :: b :: es) pos) (.bl (b1 && b2)) := by
  cases b1 with
  | true => exact pe_imp (pe_and h1 (h2 rfl)) fun σ H Q ⟨st, k⟩ => ⟨st, fun v H1 e1 r1 => by cases r1; exact ⟨true, rfl, iteT ⟨st.same e1, fun w H2 e2 r2 => k w H2 (e1.trans e2) r2⟩⟩⟩
  | false => exact pe_imp (pe_and h1 (tb := fun _ _ _ => False) ⟨fun _ _ _ _ _ _ h => h.elim⟩) fun σ H Q ⟨st, k⟩ => ⟨st, fun v H1 e1 r1 => by cases r1; exact ⟨false, rfl, iteF (k _ H1 e1 (.bl _))⟩⟩
theorem ev_or (h1 : EV X B ρ O a (.bl b1)) (h2 : b1 = false → EV X B ρ O (.BoolOp .Or (b :: es) pos) (.bl b2)) : EV X B ρ O (.BoolOp .Or (a :: b :: es) pos) (.bl (b1 || b2)) := by
  cases b1 with
  | false => exact pe_imp (pe_or h1 (h2 rfl)) fun σ H Q ⟨st, k⟩ => ⟨st, fun v H1 e1 r1 => by cases r1; exact ⟨false, rfl, iteF ⟨st.same e1, fun w H2 e2 r2 => k w H2 (e1.trans e2) r2⟩⟩⟩
  | true => exact pe_imp (pe_or h1 (tb := fun _ _ _ => False) ⟨fun _ _ _ _ _ _ h => h.elim⟩) fun σ H Q ⟨st, k⟩ => ⟨st, fun v H1 e1 r1 => by cases r1; exact ⟨true, rfl, iteT (k _ H1 e1 (.bl _))⟩⟩
theorem ev_if (hc : ET X B ρ O c b1) (ha : b1 = true → EV X B ρ O a d) (hb : b1 = false → EV X B ρ O b d) : EV X B ρ O (.IfExp c a b pos) d := by
  cases b1 with
  | true => exact pe_imp (pe_ifExp hc (ha rfl) (tb := fun _ _ _ => False) ⟨fun _ _ _ _ _ _ h => h.elim⟩) fun σ H Q ⟨st, k⟩ => ⟨st, fun H1 e1 => iteT ⟨st.same e1, fun w H2 e2 r2 => k w H2 (e1.trans e2) r2⟩⟩
  | false => exact pe_imp (pe_ifExp hc (ta := fun _ _ _ => False) ⟨fun _ _ _ _ _ _ h => h.elim⟩ (hb rfl)) fun σ H Q ⟨st, k⟩ => ⟨st, fun H1 e1 => iteF ⟨st.same e1, fun w H2 e2 r2 => k w H2 (e1.trans e2) r2⟩⟩
theorem ea_nil : EA X B ρ O [] [] := pa_imp pa_nil fun σ H Q ⟨st, k⟩ => k [] H (Same.refl H) .nil
theorem ea_cons (ha : EV X B ρ O e d) (hr : EA X B ρ O es ds) (hs : starEach (e :: es) X.env = (false, eval e X.env) :: starEach es X.env := by rfl) : EA X B ρ O (e :: es) (d :: ds) :=
  pa_imp (pa_cons ha hr hs) fun σ H Q ⟨st, k⟩ => ⟨st, fun v H1 e1 r1 => ⟨st.same e1, fun vs H2 e2 r2 => k (v :: vs) H2 (e1.trans e2) (.cons (r1.mono (vis_same e2)) r2)⟩⟩
theorem ev_tup {x1} (h : EA X B ρ O es ds) (hz : ds.length ≤ sizeLine) : EV X B ρ O (.Tuple es x1 pos) (.tup ds) :=
  pe_imp (pe_tup h) fun σ H Q ⟨st, k⟩ => ⟨st, fun vs H1 e1 r1 => ⟨by rw [r1.length]; exact hz, fun p hp =>
    k (.ref p) _ (e1.trans (same_new hp)) (.tup (.inl (.inl ((st.same e1).m.visNew hp))) (r1.mono (vis_same (same_new hp))))⟩⟩
theorem new_vis {K : PySem.W.Frag} {H : Hp} (m : MOk K B O H) {p : Addr} {o : HO} (hp : H p = none) {vs : List V} (r : RpL K (vis B.F O H) vs ds) (mm : M) : RpL K (vis B.F ((p, mm) :: O) (upd H p o)) vs ds := r.mono fun a u h => by
  obtain ⟨h1, h2, h3⟩ := vis_some.mp h
  have ne : a ≠ p := ne_of_none h3 hp
  exact vis_some.mpr ⟨h1, by rw [has_cons, h2, Bool.or_false]; exact beq_eq_false_iff_ne.mpr (Ne.symm ne), by rw [upd_ne ne]; exact h3⟩
theorem en_lst (h : EA X B ρ O es ds) (hz : ds.length ≤ sizeLine) : EN X B ρ O (.List es pos) ds :=
  pe_imp (pe_lst h) fun σ H Q ⟨st, k⟩ => ⟨st, fun vs H1 e1 r1 => ⟨by rw [r1.length]; exact hz, fun p hp =>
    k p _ vs (e1.free hp) (e1.trans (same_new hp)) upd_same (new_vis (st.same e1).m hp r1 _)⟩⟩
theorem ev_new (h : EN X B ρ O e ds) : EV X B ρ O e (.lst ds) := pe_imp h fun σ H Q ⟨st, k⟩ => ⟨st, fun p H' vs hp e1 hv r => by
  have fp := st.m.newF hp
  have op := st.m.newO hp
  refine k _ H' e1 (.lst (vis_some.mpr ⟨fp, op, hv⟩) (r.mono fun a o h => ?_))
  obtain ⟨h1, h2, h3⟩ := vis_some.mp h
  rw [has_cons, Bool.or_eq_false_iff] at h2
  exact vis_some.mpr ⟨h1, h2.2, h3⟩⟩
end
end DL

set_option Elab.async false
set_option linter.all false
set_option maxRecDepth 100000
set_option maxHeartbeats 2000000
namespace DL
open PySem PySem.Spec PyProof.Rows L2
structure AE where
  nx : List (Option D) → Om → Prop
  rt : D → Om → Prop
  bk : List (Option D) → Om → Prop := fun _ _ => False
  ct : List (Option D) → Om → Prop := fun _ _ => False
  ex : Addr → Str → D → List (Option D) → Om → Prop := fun _ _ _ _ _ => False
structure Post (K : PySem.W.Frag) (B : Gd) (A : AE) (Dn : Ends) (Hv : Hp) : Prop where
  nx : ∀ ρ O σ H, A.nx ρ O → StOk K B ρ O σ H → Same Hv (vis B.F O H) → Dn.nx σ H
  rt : ∀ d O v H, A.rt d O → MOk K B O H → Rp K (vis B.F O H) v d → Dn.rt v H
  bk : ∀ ρ O σ H, A.bk ρ O → StOk K B ρ O σ H → Same Hv (vis B.F O H) → Dn.bk σ H
  ct : ∀ ρ O σ H, A.ct ρ O → StOk K B ρ O σ H → Same Hv (vis B.F O H) → Dn.ct σ H
  ex : ∀ C f d ρ O σ H dx v, A.ex C f d ρ O → StOk K B ρ O σ H → Same Hv (vis B.F O H) → H dx = some (.xd [(f, v)]) → has O dx = false → Rp K (vis B.F O H) v d → B.W (.ref C) (some dx) σ H
theorem Post.grow {K : PySem.W.Frag} {B : Gd} {A : AE} {Dn : Ends} {Hv Hv' : Hp} (p : Post K B A Dn Hv) (e : Same Hv Hv') : Post K B A Dn Hv' :=
  ⟨fun ρ O σ H a s q => p.nx ρ O σ H a s (e.trans q), p.rt, fun ρ O σ H a s q => p.bk ρ O σ H a s (e.trans q), fun ρ O σ H a s q => p.ct ρ O σ H a s (e.trans q), fun C f d ρ O σ H dx v a s q => p.ex C f d ρ O σ H dx v a s (e.trans q)⟩
def tW (K : PySem.W.Frag) (B : Gd) (ρ : List (Option D)) (O : Om) (A : AE) : TS := fun Dn σ H => StOk K B ρ O σ H ∧ Post K B A Dn (vis B.F O H)
abbrev J (X : Cx) (B : Gd) (ss : List Stmt) (ρ : List (Option D)) (O : Om) (A : AE) : Prop := PSs X ss (tW X.K B ρ O A)
abbrev J1 (X : Cx) (B : Gd) (st : Stmt) (ρ : List (Option D)) (O : Om) (A : AE) : Prop := PS X st (tW X.K B ρ O A)
def tG (K : PySem.W.Frag) (B : Gd) (ρ : List (Option D)) (O : Om) (d : D) (O' : Om) : TE := fun σ H Q => StOk K B ρ O σ H ∧ ∀ v H', StOk K B ρ O' σ H' → Same (vis B.F O H) (vis B.F O' H') → Rp K (vis B.F O' H') v d → Q v H'
def tGA (K : PySem.W.Frag) (B : Gd) (ρ : List (Option D)) (O : Om) (ds : List D) (O' : Om) : TA := fun σ H Q => StOk K B ρ O σ H ∧ ∀ vs H', StOk K B ρ O' σ H' → Same (vis B.F O H) (vis B.F O' H') → RpL K (vis B.F O' H') vs ds → Q vs H'
abbrev EG (X : Cx) (B : Gd) (ρ : List (Option D)) (O : Om) (e : Expr) (d : D) (O' : Om) : Prop := PE X e (tG X.K B ρ O d O')
abbrev EGA (X : Cx) (B : Gd) (ρ : List (Option D)) (O : Om) (es : List Expr) (ds : List D) (O' : Om) : Prop := PA X es (tGA X.K B ρ O ds O')
section
variable {X : Cx} {B : Gd} {ρ ρ' : List (Option D)} {O O' O1 O2 : Om} {A : AE} {a b c e : Expr} {es : List Expr} {d d1 d2 d3 : D} {ds : List D} {pos pos' : Pos} {b1 b2 : Bool} {st : Stmt} {ss rest : List Stmt}
theorem eg_of (h : EV X B ρ O e d) : EG X B ρ O e d O := pe_imp h fun σ H Q ⟨st, k⟩ => ⟨st, fun v H1 e1 r1 => k v H1 (st.same e1) (vis_same e1) r1⟩
theorem ega_of (h : EA X B ρ O es ds) : EGA X B ρ O es ds O := pa_imp h fun σ H Q ⟨st, k⟩ => ⟨st, fun v H1 e1 r1 => k v H1 (st.same e1) (vis_same e1) r1⟩
theorem ega_nil : EGA X B ρ O [] [] O := ega_of ea_nil
theorem ega_cons (ha : EG X B ρ O e d O1) (hr : EGA X B ρ O1 es ds O2) (hs : starEach (e :: es) X.env = (false, eval e X.env) :: starEach es X.env := by rfl) : EGA X B ρ O (e :: es) (d :: ds) O2 :=
  pa_imp (pa_cons ha hr hs) fun σ H Q ⟨st, k⟩ => ⟨st, fun v H1 s1 e1 r1 => ⟨s1, fun vs H2 s2 e2 r2 => k (v :: vs) H2 s2 (e1.trans e2) (.cons (r1.mono e2) r2)⟩⟩
theorem j_nil (h : A.nx ρ O) : J X B [] ρ O A := pss_imp pss_nil fun Dn σ H ⟨st, p⟩ => p.nx ρ O σ H h st (Same.refl _)
theorem j_cons (h : J1 X B st ρ O { A with nx := fun ρ' O' => J X B rest ρ' O' A }) : J X B (st :: rest) ρ O A := by
  have h2 : PSs X rest (fun Dn σ H => ∃ ρ' O', J X B rest ρ' O' A ∧ StOk X.K B ρ' O' σ H ∧ Post X.K B A Dn (vis B.F O' H)) :=
    ⟨fun pins s σ H Dn I ⟨ρ', O', q, s', p⟩ => q.run pins s σ H Dn I ⟨s', p⟩⟩
  refine pss_imp (pss_cons h h2) fun Dn σ H ⟨st, p⟩ => ⟨st, ?_⟩
  exact ⟨fun ρ' O' σ' H' q s' e => ⟨ρ', O', q, s', p.grow e⟩, p.rt, p.bk, p.ct, p.ex⟩
theorem j_imp {A' : AE} (h : J X B ss ρ O A) (hn : ∀ ρ O, A.nx ρ O → A'.nx ρ O) (hr : ∀ d O, A.rt d O → A'.rt d O) (hb : ∀ ρ O, A.bk ρ O → A'.bk ρ O) (hc : ∀ ρ O, A.ct ρ O → A'.ct ρ O) (hx : ∀ C f d ρ O, A.ex C f d ρ O → A'.ex C f d ρ O) : J X B ss ρ O A' :=
  pss_imp h fun Dn σ H ⟨st, p⟩ => ⟨st, fun ρ O σ H q => p.nx ρ O σ H (hn _ _ q), fun d O v H q => p.rt d O v H (hr _ _ q), fun ρ O σ H q => p.bk ρ O σ H (hb _ _ q), fun ρ O σ H q => p.ct ρ O σ H (hc _ _ q), fun C f d ρ O σ H dx v q => p.ex C f d ρ O σ H dx v (hx _ _ _ _ _ q)⟩
theorem j_set {i : Nat} {x : Str} (hN : X.N.Nodup) (hi : X.N[i]? = some x) (hx : Loc X.env.scope x) (he : EV X B ρ O e d) (hs : swapsWith e (some (.Name x pos')) pos.line X.env = pure false) (hf : X.fn x = true ∨ X.env.scope.names.lookup x = some .local)
    (h : A.nx (ρ.set i (some d)) O) : J1 X B (.Assign [.Name x pos'] e pos) ρ O A :=
  ps_imp (ps_set hN hi hx he hs hf) fun Dn σ H ⟨st, p⟩ => ⟨st, fun v H1 e1 r1 => p.nx _ O _ H1 h ((st.same e1).set r1) (vis_same e1)⟩
theorem j_setG {i : Nat} {x : Str} (hN : X.N.Nodup) (hi : X.N[i]? = some x) (hx : Loc X.env.scope x) (he : EG X B ρ O e d O') (hs : swapsWith e (some (.Name x pos')) pos.line X.env = pure false) (hf : X.fn x = true ∨ X.env.scope.names.lookup x = some .local)
    (h : A.nx (ρ.set i (some d)) O') : J1 X B (.Assign [.Name x pos'] e pos) ρ O A :=
  ps_imp (ps_set hN hi hx he hs hf) fun Dn σ H ⟨st, p⟩ => ⟨st, fun v H1 s1 e1 r1 => p.nx _ O' _ H1 h (s1.set r1) e1⟩
theorem j_setN {i : Nat} {x : Str} (hN : X.N.Nodup) (hi : X.N[i]? = some x) (hx : Loc X.env.scope x) (he : EN X B ρ O e ds) (hs : swapsWith e (some (.Name x pos')) pos.line X.env = pure false) (hf : X.fn x = true ∨ X.env.scope.names.lookup x = some .local)
    (h : ∀ p, has O p = false → A.nx (ρ.set i (some (.rf p))) ((p, .lst ds) :: O)) : J1 X B (.Assign [.Name x pos'] e pos) ρ O A :=
  ps_imp (ps_set hN hi hx he hs hf) fun Dn σ H ⟨st, p⟩ => ⟨st, fun q H1 vs hp e1 hv r => by
    have op := st.m.newO hp
    have vs1 : Same (vis B.F O H) (vis B.F ((q, .lst ds) :: O) H1) := fun a o h => by
      obtain ⟨h1, h2, h3⟩ := vis_some.mp h
      have ne : a ≠ q := ne_of_none h3 hp
      exact vis_some.mpr ⟨h1, by rw [has_cons, h2, Bool.or_false]; exact beq_eq_false_iff_ne.mpr (Ne.symm ne), e1 _ _ h3⟩
    refine p.nx _ _ _ H1 (h q op) ⟨⟨fun a o hb => ?_, fun a m hm => ?_, ?_, fun a m hm => (st.m.lent a m hm).mono vs1 fun o q => e1 _ _ q⟩, ?_⟩ vs1
    · have := st.m.base a o hb
      have ne : a ≠ q := ne_of_none this.1 hp
      exact ⟨e1 _ _ this.1, by rw [has_cons, this.2, Bool.or_false]; exact beq_eq_false_iff_ne.mpr (Ne.symm ne)⟩
    · rcases List.mem_cons.mp hm with z | z
      · cases z; exact ⟨vs, hv, r⟩
      · exact (st.m.mem a m z).mono vs1 fun o q => e1 _ _ q
    · rw [List.map_cons, List.nodup_cons]
      refine ⟨fun z => ?_, st.m.nd⟩
      obtain ⟨⟨a, m⟩, hm, ea⟩ := List.mem_map.mp z
      have : has O q = true := has_mem.mpr ⟨m, by have z : a = q := ea; rw [← z]; exact hm⟩
      rw [op] at this; cases this
    · exact (st.env.mono vs1).set (.rf q)⟩
theorem j_expr (he : EG X B ρ O e d O') (h : A.nx ρ O') (hs : swapsWith e none pos.line X.env = pure false := by rfl) : J1 X B (.Expr e pos) ρ O A :=
  ps_imp (ps_expr he hs) fun Dn σ H ⟨st, p⟩ => ⟨st, fun v H1 s1 e1 r1 => p.nx ρ O' σ H1 h s1 e1⟩
theorem j_ret (he : EV X B ρ O e d) (h : A.rt d O) : J1 X B (.Return (some e) pos) ρ O A :=
  ps_imp (ps_ret he) fun Dn σ H ⟨st, p⟩ => ⟨st, fun v H1 e1 r1 => p.rt d O v H1 h (st.same e1).m r1⟩
theorem j_retG (he : EG X B ρ O e d O') (h : A.rt d O') : J1 X B (.Return (some e) pos) ρ O A :=
  ps_imp (ps_ret he) fun Dn σ H ⟨st, p⟩ => ⟨st, fun v H1 s1 e1 r1 => p.rt d O' v H1 h s1.m r1⟩
theorem j_if {s1 s2 : List Stmt} (hc : ET X B ρ O c b1) (h1 : b1 = true → J X B s1 ρ O A) (h2 : b1 = false → J X B s2 ρ O A) : J1 X B (.If c s1 s2 pos) ρ O A := by
  cases b1 with
  | true => exact ps_imp (ps_if hc (h1 rfl) (u := fun _ _ _ => False) ⟨fun _ _ _ _ _ _ h => h.elim⟩) fun Dn σ H ⟨st, p⟩ => ⟨st, fun H1 e1 => iteT ⟨st.same e1, p.grow (vis_same e1)⟩⟩
  | false => exact ps_imp (ps_if hc (t := fun _ _ _ => False) ⟨fun _ _ _ _ _ _ h => h.elim⟩ (h2 rfl)) fun Dn σ H ⟨st, p⟩ => ⟨st, fun H1 e1 => iteF ⟨st.same e1, p.grow (vis_same e1)⟩⟩
def Vs (O : Om) (d : D) (ds : List D) : Prop := d = .lst ds ∨ ∃ a, d = .rf a ∧ (a, M.lst ds) ∈ O
def Vw (O : Om) (d : D) (ds : List D) : Prop := Vs O d ds ∨ d = .frl ds
theorem Vs.at {K : PySem.W.Frag} {H : Hp} {v : V} (w : Vs (B.L ++ O) d ds) (m : MOk K B O H) (r : Rp K (vis B.F O H) v d) : ∃ a vs, v = .ref a ∧ H a = some (.lst vs) ∧ RpL K (vis B.F O H) vs ds := by
  rcases w with rfl | ⟨a, rfl, h⟩
  · cases r with
    | lst h r => exact ⟨_, _, rfl, vis_le _ _ h, r⟩
  · cases r
    obtain ⟨vs, h1, h2⟩ := (List.mem_append.mp h).elim (m.lent _ _) (m.mem _ _)
    exact ⟨_, vs, rfl, h1, h2⟩
theorem Vw.sql {K : PySem.W.Frag} {H : Hp} {v : V} (w : Vw (B.L ++ O) d ds) (m : MOk K B O H) (r : Rp K (vis B.F O H) v d) : ∃ a vs, v = .ref a ∧ SqL K H a vs ∧ RpL K (vis B.F O H) vs ds := by
  rcases w with w | rfl
  · obtain ⟨a, vs, e, h, r⟩ := w.at m r
    exact ⟨a, vs, e, .inl (.inl h), r⟩
  · cases r with
    | frl h r => exact ⟨_, _, rfl, vis_le.seq h, r⟩
end
end DL

set_option Elab.async false
set_option linter.all false
set_option maxRecDepth 100000
set_option maxHeartbeats 2000000
namespace DL
open PySem PySem.Spec PyProof.Rows L2
def Off (sl : List Nat) (σ σ' : L2.St) : Prop := σ'.length = σ.length ∧ ∀ j, j ∉ sl → σ'[j]? = σ[j]?
theorem Off.refl (sl : List Nat) (σ : L2.St) : Off sl σ σ := ⟨rfl, fun _ _ => rfl⟩
theorem Off.trans {s1 s2 : List Nat} {a b c : L2.St} (h : Off s1 a b) (k : Off s2 b c) : Off (s1 ++ s2) a c :=
  ⟨k.1.trans h.1, fun j hj => (k.2 j fun z => hj (List.mem_append_right _ z)).trans (h.2 j fun z => hj (List.mem_append_left _ z))⟩
theorem Off.wipe {sl vs : List Nat} {σ σ' : L2.St} (h : Off sl σ σ') (hs : ∀ j ∈ sl, j ∈ vs) : L2.wipe σ' vs = L2.wipe σ vs := by
  have at_ : ∀ (σ : L2.St) (vs : List Nat) (i : Nat), (L2.wipe σ vs)[i]? = if i ∈ vs then (σ[i]?).map (fun _ => none) else σ[i]? := by
    intro σ vs i
    induction vs with
    | nil => simp [L2.wipe]
    | cons v vs ih =>
      unfold L2.wipe
      by_cases e : v = i
      · subst e
        by_cases hl : v < (L2.wipe σ vs).length
        · rw [List.getElem?_set_self hl]
          have hl' : v < σ.length := by rw [L2.wipe_length] at hl; exact hl
          simp [hl']
        · have hl' : ¬ v < σ.length := by rw [L2.wipe_length] at hl; exact hl
          rw [List.getElem?_eq_none (by simpa using hl)]
          simp [List.getElem?_eq_none (Nat.le_of_not_lt hl')]
      · rw [List.getElem?_set_ne e, ih]
        have e' : ¬ i = v := fun z => e z.symm
        simp [e']
  apply List.ext_getElem?
  intro i
  rw [at_, at_]
  by_cases hi : i ∈ vs
  · rw [if_pos hi, if_pos hi]
    by_cases hl : i < σ.length
    · have hl' : i < σ'.length := by rw [h.1]; exact hl
      simp [hl, hl']
    · have hl' : ¬ i < σ'.length := by rw [h.1]; exact hl
      simp [hl, hl']
  · rw [if_neg hi, if_neg hi]
    exact h.2 i fun z => hi (hs i z)
structure EB (X : Cx) (tg : Expr) (g : TG) (sl : List Nat) (f : D → List (Option D) → Option (List (Option D))) : Prop where
  pg : PG X tg g
  is : ∀ (B : Gd) (O : Om) (d : D) (ρ ρ' : List (Option D)) (v : V) (σ : L2.St) (H : Hp) (Q : L2.St → Hp → Prop), f d ρ = some ρ' → StOk X.K B ρ O σ H → Rp X.K (vis B.F O H) v d → (∀ σ', StOk X.K B ρ' O σ' H → Off sl σ σ' → Q σ' H) → g v σ H Q
def bName (i : Nat) : D → List (Option D) → Option (List (Option D)) := fun d ρ => some (ρ.set i (some d))
section
variable {X : Cx} {B : Gd} {ρ ρ' : List (Option D)} {O O' O1 O2 : Om} {A : AE} {a b c e : Expr} {es : List Expr} {d d1 d2 d3 : D} {ds : List D} {pos pos' : Pos} {b1 b2 : Bool} {st : Stmt} {ss rest : List Stmt}
theorem eb_name {i : Nat} {x : Str} (hN : X.N.Nodup) (hi : X.N[i]? = some x) (hx : Loc X.env.scope x) (hf : X.fn x = true ∨ X.env.scope.names.lookup x = some .local) : EB X (.Name x pos) (gName i) [i] (bName i) :=
  ⟨pg_name hN hi hx hf, fun B O d ρ ρ' v σ H Q e s r k => by
    cases e
    exact k _ (s.set r) ⟨by simp, fun j hj => List.getElem?_set_ne (fun z => hj (by simp [z]))⟩⟩
structure EBs (X : Cx) (ts : List Expr) (g : TGs) (sl : List Nat) (f : List D → List (Option D) → Option (List (Option D))) : Prop where
  pg : PGs X ts g
  is : ∀ (B : Gd) (O : Om) (ds : List D) (ρ ρ' : List (Option D)) (vs : List V) (σ : L2.St) (H : Hp) (Q : L2.St → Hp → Prop), f ds ρ = some ρ' → StOk X.K B ρ O σ H → RpL X.K (vis B.F O H) vs ds → (∀ σ', StOk X.K B ρ' O σ' H → Off sl σ σ' → Q σ' H) → g vs σ H Q
def bNil : List D → List (Option D) → Option (List (Option D)) := fun ds ρ => match ds with | [] => some ρ | _ => none
def bCons (f : D → List (Option D) → Option (List (Option D))) (g : List D → List (Option D) → Option (List (Option D))) : List D → List (Option D) → Option (List (Option D)) :=
  fun ds ρ => match ds with | [] => none | d :: ds => match f d ρ with | none => none | some ρ' => g ds ρ'
theorem ebs_nil : EBs X [] gNil [] bNil := ⟨pgs_nil, fun B O ds ρ ρ' vs σ H Q e s r k => by
  cases r with
  | nil => cases e; exact ⟨rfl, k _ s (Off.refl _ _)⟩
  | cons _ _ => cases e⟩
theorem ebs_cons {t : TG} {u : TGs} {s1 s2 : List Nat} {f g} (h1 : EB X e t s1 f) (h2 : EBs X es u s2 g) (hs : (assignEach (e :: es) X.env).map (·.2) = assign e X.env :: (assignEach es X.env).map (·.2) := by rfl) : EBs X (e :: es) (gCons t u) (s1 ++ s2) (bCons f g) :=
  ⟨pgs_cons h1.pg h2.pg hs, fun B O ds ρ ρ' vs σ H Q e s r k => by
    cases r with
    | nil => cases e
    | @cons v vs d ds rv r =>
      have e' : (match f d ρ with | none => none | some ρ1 => g ds ρ1) = some ρ' := e
      cases h : f d ρ with
      | none => rw [h] at e'; cases e'
      | some ρ1 =>
        rw [h] at e'
        exact ⟨v, vs, rfl, h1.is B O d ρ ρ1 v σ H _ h s rv fun σ1 s1 o1 => h2.is B O ds ρ1 ρ' vs σ1 H Q e' s1 r fun σ2 s2 o2 => k σ2 s2 (o1.trans o2)⟩⟩
def bTup (g : List D → List (Option D) → Option (List (Option D))) : D → List (Option D) → Option (List (Option D)) := fun d ρ => match d with | .tup ds => g ds ρ | _ => none
theorem eb_tup {k : Nat} {t : TGs} {f} {n : Nat} {sl : List Nat} (hc : X.calm = true) (h : EBs X es t sl f) (hl : ∀ ds ρ ρ', f ds ρ = some ρ' → ds.length = n) (hn : (assignEach es X.env).length = n := by rfl) (hst : (assignEach es X.env).findIdx? (·.1) = none := by rfl) :
    EB X (.Tuple es k pos) (gTup X.K n t) sl (bTup f) :=
  ⟨pg_tup hc h.pg hn hst, fun B O d ρ ρ' v σ H Q e s r k => by
    cases d with
    | tup ds =>
      cases r with
      | tup hq r => exact ⟨_, _, rfl, same_t vis_le hq, by rw [r.length]; exact hl _ _ _ e, h.is B O ds ρ ρ' _ σ H Q e s r k⟩
    | _ => cases e⟩
theorem bcons_len {f g} {n : Nat} (h : ∀ ds ρ ρ', g ds ρ = some ρ' → ds.length = n) : ∀ ds ρ ρ', bCons f g ds ρ = some ρ' → ds.length = n + 1 := fun ds ρ ρ' e => by
  cases ds with
  | nil => cases e
  | cons d ds =>
    have e' : (match f d ρ with | none => none | some ρ1 => g ds ρ1) = some ρ' := e
    cases q : f d ρ with
    | none => rw [q] at e'; cases e'
    | some ρ1 => rw [q] at e'; rw [List.length_cons, h _ _ _ e']
theorem bnil_len : ∀ (ds : List D) (ρ ρ' : List (Option D)), bNil ds ρ = some ρ' → ds.length = 0 := fun ds ρ ρ' e => by
  cases ds with
  | nil => rfl
  | cons _ _ => cases e
theorem j_asg {tg : Expr} {g : TG} {sl : List Nat} {f} (he : EV X B ρ O e d) (hg : EB X tg g sl f) (hf : f d ρ = some ρ') (h : A.nx ρ' O) (hs : swapsWithSole [tg] e pos.line X.env = pure false := by rfl) (hw : swappedStores [tg] e X.env = pure none := by rfl)
    (h1 : (assignEach [tg] X.env).map (·.2) = [assign tg X.env] := by rfl) : J1 X B (.Assign [tg] e pos) ρ O A :=
  ps_imp (ps_asg he hg.pg hs hw h1) fun Dn σ H ⟨st, p⟩ => ⟨st, fun v H1 e1 r1 => hg.is B O d ρ ρ' v σ H1 _ hf (st.same e1) r1 fun σ' s' _ => p.nx ρ' O σ' H1 h s' (vis_same e1)⟩
structure Src (K : PySem.W.Frag) (L : Om) (Hv : Hp) (J : It) (G : Om → Prop) (ds : List D) : Prop where
  goes : ∀ (i : Nat) (B : Gd) (O : Om) (H : Hp), B.L = L → i < ds.length → MOk K B O H → Same Hv (vis B.F O H) → G O → J.go i H
  stops : ∀ (B : Gd) (O : Om) (H : Hp), B.L = L → MOk K B O H → Same Hv (vis B.F O H) → G O → J.stop ds.length H
  yields : ∀ (i : Nat) (B : Gd) (O : Om) (H : Hp) (x : V) (H' : Hp), B.L = L → i < ds.length → MOk K B O H → Same Hv (vis B.F O H) → G O → J.yld i H x H' → Same H H' ∧ ∃ d, ds[i]? = some d ∧ Rp K (vis B.F O H') x d
structure EI (X : Cx) (B : Gd) (ρ : List (Option D)) (O : Om) (tg iter : Expr) (wi : TI) (G : Om → Prop) (ds : List D) : Prop where
  pi : PI X tg iter wi
  is : ∀ (σ : L2.St) (H : Hp) (R : It → Hp → Prop), StOk X.K B ρ O σ H → (∀ J H1, Same H H1 → Src X.K B.L (vis B.F O H1) J G ds → R J H1) → wi σ H R
theorem src_list {K : PySem.W.Frag} {H : Hp} {a : Addr} {v : V} (w : Vw (B.L ++ O) d ds) (m : MOk K B O H) (r : Rp K (vis B.F O H) v d) (hv : v = .ref a) : Src K B.L (vis B.F O H) (Itl K a) (fun O' => Vw (B.L ++ O') d ds) ds := by
  subst hv
  have again : ∀ {B' : Gd} {O' : Om} {H' : Hp}, B'.L = B.L → Vw (B.L ++ O') d ds → MOk K B' O' H' → Same (vis B.F O H) (vis B'.F O' H') → ∃ vs', SqL K H' a vs' ∧ RpL K (vis B'.F O' H') vs' ds := fun {B' O' H'} eL w m e => by
    rw [← eL] at w
    obtain ⟨a', vs', ea, q, r⟩ := w.sql m (r.mono e)
    cases ea
    exact ⟨vs', q, r⟩
  refine ⟨fun i B' O' H' eL hi m e g => ?_, fun B' O' H' eL m e g => ?_, fun i B' O' H' x H2 eL hi m e g y => ?_⟩
  · obtain ⟨vs, q, r⟩ := again eL g m e
    obtain ⟨v, hv, _⟩ := r.get (i := i) (d := ds[i]) (by simp [hi])
    exact ⟨vs, v, q, hv⟩
  · obtain ⟨vs, q, r⟩ := again eL g m e
    exact ⟨vs, q, by rw [r.length]; exact Nat.le_refl _⟩
  · obtain ⟨vs, q, r⟩ := again eL g m e
    obtain ⟨e2, y⟩ := y
    subst e2
    obtain ⟨v, hv, rv⟩ := r.get (i := i) (d := ds[i]) (by simp [hi])
    have ex := y vs q
    rw [hv] at ex
    cases ex
    exact ⟨Same.refl _, _, by simp [hi], rv⟩
theorem ei_list {tg iter : Expr} (hi : EV X B ρ O iter d) (w : Vw (B.L ++ O) d ds) : EI X B ρ O tg iter (iList X.K (tD X.K B ρ O d)) (fun O' => Vw (B.L ++ O') d ds) ds :=
  ⟨pi_list hi, fun σ H R st k => ⟨st, fun v H1 e1 r1 => by
    obtain ⟨a, vs, rfl, hq, rl⟩ := w.sql (st.same e1).m r1
    exact ⟨a, rfl, ⟨vs, hq⟩, k _ H1 e1 (src_list w (st.same e1).m r1 rfl)⟩⟩⟩
theorem ei_tup {tg iter : Expr} (hi : EV X B ρ O iter (.tup ds)) : EI X B ρ O tg iter (iTup X.K (tD X.K B ρ O (.tup ds))) (fun _ => True) ds :=
  ⟨pi_tup hi, fun σ H R st k => ⟨st, fun v H1 e1 r1 => by
    cases r1 with
    | @tup a vs _ hq rl =>
    refine ⟨a, rfl, ⟨vs, same_t vis_le hq⟩, k _ H1 e1 ⟨fun i B' O' H' eL hi m e g => ?_, fun B' O' H' eL m e g => ?_, fun i B' O' H' x H2 eL hi m e g y => ?_⟩⟩
    · obtain ⟨v, hv, _⟩ := rl.get (i := i) (d := ds[i]) (by simp [hi])
      exact ⟨vs, v, same_t vis_le (same_t e hq), hv⟩
    · exact ⟨vs, same_t vis_le (same_t e hq), by rw [rl.length]; exact Nat.le_refl _⟩
    · obtain ⟨e2, y⟩ := y
      subst e2
      obtain ⟨v, hv, rv⟩ := rl.get (i := i) (d := ds[i]) (by simp [hi])
      have ex := y vs (same_t vis_le (same_t e hq))
      rw [hv] at ex
      cases ex
      exact ⟨Same.refl _, _, by simp [hi], rv.mono e⟩⟩⟩
theorem ei_str {tg iter : Expr} {z : Str} (hi : EV X B ρ O iter (.str z)) : EI X B ρ O tg iter (iStr (tD X.K B ρ O (.str z))) (fun _ => True) (z.cps.toList.map fun c => D.str ⟨#[c]⟩) :=
  ⟨pi_str hi, fun σ H R st k => ⟨st, fun v H1 e1 r1 => by
    cases r1
    refine ⟨z, rfl, k _ H1 e1 ⟨fun i B' O' H' eL hi m e g => ?_, fun B' O' H' eL m e g => ?_, fun i B' O' H' x H2 eL hi m e g y => ?_⟩⟩
    · show i < z.cps.size; simpa using hi
    · show z.cps.size ≤ _; simp
    · obtain ⟨e2, c, hc, ex⟩ := y
      subst e2 ex
      refine ⟨Same.refl _, .str ⟨#[c]⟩, ?_, .str _⟩
      rw [List.getElem?_map, Array.getElem?_toList, hc]; rfl⟩⟩
def rngD (lo : Int) (n : Nat) : List D := (List.range n).map fun i : Nat => D.int (lo + (i : Int))
theorem src_range {K : PySem.W.Frag} {L : Om} {Hv : Hp} {lo : Int} {n : Nat} : Src K L Hv (Itr lo n) (fun _ => True) (rngD lo n) := by
  have hl : (rngD lo n).length = n := by simp [rngD]
  refine ⟨fun i B' O' H' eL hi m e g => ?_, fun B' O' H' eL m e g => ?_, fun i B' O' H' x H2 eL hi m e g y => ?_⟩
  · rw [hl] at hi; exact hi
  · rw [hl]; exact Nat.le_refl _
  · rw [hl] at hi
    obtain ⟨e2, ex⟩ := y
    subst e2 ex
    exact ⟨Same.refl _, .int (lo + i), by simp [rngD, hi], .int _⟩
theorem ei_range1 {tg na : Expr} {p p' : Pos} {n : Int} (hgl : Gl X "range") (hm : X.mg "range" = none) (hi : EA X B ρ O [na] [.int n]) (hn : -(2 ^ 62) ≤ n ∧ n < 2 ^ 62) (hse : starEach [na] X.env = [(false, eval na X.env)] := by rfl) :
    EI X B ρ O tg (.Call (.Name "range" p) [na] [] p') (iRng1 (tA X.K B ρ O [.int n])) (fun _ => True) (rngD 0 n.toNat) :=
  ⟨pi_range1 hgl hm hi hse, fun σ H R st k => ⟨st, fun vs H1 e1 r1 => by
    cases r1 with
    | cons h r => cases h; cases r; exact ⟨n, rfl, hn.1, hn.2, k _ H1 e1 src_range⟩⟩⟩
def enumD (ds : List D) : List D := (List.range ds.length).map fun i : Nat => D.tup [.int (i : Int), (ds[i]?).getD .non]
def tAny (X : Cx) (B : Gd) (ss : List Stmt) : TS := fun Dn σ H => ∃ ρ O A, J X B ss ρ O A ∧ tW X.K B ρ O A Dn σ H
theorem any_ok : PSs X ss (tAny X B ss) := ⟨fun pins s σ H Dn I ⟨ρ, O, A, j, q⟩ => j.run pins s σ H Dn I q⟩
theorem j_for {iter tg : Expr} {body : List Stmt} {wi : TI} {sl : List Nat} {f} {g : TG} {G : Om → Prop} (R : Nat → List (Option D) → Om → Prop)
    (hp : PassesOwn (model X.prog X.w) X.A X.env X.xe) (hc : X.calm = true) (hi : EI X B ρ O tg iter wi G ds) (hg : EB X tg g sl f)
    (hv : ∀ i ρ O, R i ρ O → G O)
    (h0 : ∃ ρ0, Wk ρ0 ρ ∧ R 0 ρ0 O)
    (hs : ∀ i d ρ O, ds[i]? = some d → R i ρ O → ∃ ρ', f d ρ = some ρ' ∧ J X B body ρ' O { A with nx := fun ρ2 O2 => ∃ ρ3, Wk ρ3 ρ2 ∧ R (i + 1) ρ3 O2, ct := fun ρ2 O2 => ∃ ρ3, Wk ρ3 ρ2 ∧ R (i + 1) ρ3 O2, bk := A.nx })
    (hd : ∀ ρ O, R ds.length ρ O → A.nx ρ O)
    (hfs : ∀ x, foldedSetIterable iter X.env x = pure x := by intro _; rfl) : J1 X B (.For tg iter body [] pos) ρ O A := by
  refine ps_imp (ps_for hp hc hi.pi hg.pg (any_ok (B := B)) hfs) fun Dn σ H ⟨st, p⟩ => hi.is σ H _ st fun J H1 e1 S => ?_
  obtain ⟨ρ0, w0, h0⟩ := h0
  have s1 := (st.same e1).weak w0
  refine ⟨fun i m σ' H' => m = ds.length - i ∧ i ≤ ds.length ∧ ∃ ρ' O', R i ρ' O' ∧ StOk X.K B ρ' O' σ' H' ∧ Same (vis B.F O H1) (vis B.F O' H'), ⟨ds.length, by simp, Nat.zero_le _, ρ0, O, h0, s1, Same.refl _⟩, ?_⟩
  rintro i m σ' H' ⟨rfl, hi', ρ', O', hr, s', e'⟩
  by_cases hlt : i < ds.length
  · refine .inr ⟨S.goes i B O' H' rfl hlt s'.m e' (hv _ _ _ hr), fun σ2 H2 => ∃ ρ2 O2, R (i + 1) ρ2 O2 ∧ StOk X.K B ρ2 O2 σ2 H2 ∧ Same (vis B.F O H1) (vis B.F O2 H2), fun σ2 H2 ⟨ρ2, O2, h2, s2, e2⟩ => ⟨ds.length - (i + 1), by omega, rfl, hlt, ρ2, O2, h2, s2, e2⟩, fun x H2 y => ?_⟩
    obtain ⟨e2, d, hd', rv⟩ := S.yields i B O' H' x H2 rfl hlt s'.m e' (hv _ _ _ hr) y
    obtain ⟨ρ1, hf, j⟩ := hs i d ρ' O' hd' hr
    refine hg.is B O' d ρ' ρ1 x σ' H2 _ hf (s'.same e2) rv fun σ2 s2 _ => ⟨ρ1, O', _, j, s2, ?_⟩
    have e'' := e'.trans (vis_same (F := B.F) (O := O') e2)
    exact ⟨fun ρ3 O3 σ3 H3 ⟨ρ4, w, h4⟩ s3 e3 => ⟨ρ4, O3, h4, s3.weak w, e''.trans e3⟩, p.rt, fun ρ3 O3 σ3 H3 h3 s3 e3 => p.nx ρ3 O3 σ3 H3 h3 s3 ((vis_same e1).trans (e''.trans e3)), fun ρ3 O3 σ3 H3 ⟨ρ4, w, h4⟩ s3 e3 => ⟨ρ4, O3, h4, s3.weak w, e''.trans e3⟩, fun C f d ρ3 O3 σ3 H3 dx v h3 s3 e3 => p.ex C f d ρ3 O3 σ3 H3 dx v h3 s3 ((vis_same e1).trans (e''.trans e3))⟩
  · have e : i = ds.length := by omega
    subst e
    exact .inl ⟨S.stops B O' H' rfl s'.m e' (hv _ _ _ hr), p.nx ρ' O' σ' H' (hd ρ' O' hr) s' ((vis_same e1).trans e')⟩
def tAnyT (X : Cx) (B : Gd) (c : Expr) : TT := fun σ H Q => ∃ ρ O b, ET X B ρ O c b ∧ tT X.K B ρ O b σ H Q
theorem anyT_ok : PT X c (tAnyT X B c) := ⟨fun pins s σ H Q I ⟨ρ, O, b, j, q⟩ => j.run pins s σ H Q I q⟩
theorem has_keys {O O' : Om} (h : O.map (·.1) = O'.map (·.1)) (a : Addr) : has O a = has O' a := by
  have : ∀ O : Om, has O a = (O.map (·.1)).contains a := fun O => by
    unfold has
    induction O with
    | nil => rfl
    | cons q O ih => rw [List.any_cons, ih, List.map_cons, List.contains_cons, Bool.beq_comm]
  rw [this, this, h]
theorem vis_keys {O O' : Om} {F : Addr → Bool} {H : Hp} (h : O.map (·.1) = O'.map (·.1)) : vis F O H = vis F O' H := by
  funext a
  unfold vis
  rw [has_keys h a]
theorem wipe_wipe (σ : L2.St) (vs : List Nat) : L2.wipe (L2.wipe σ vs) vs = L2.wipe σ vs := by
  have z : ∀ (us : List Nat), (∀ j ∈ us, j ∈ vs) → L2.wipe (L2.wipe σ vs) us = L2.wipe σ vs := by
    intro us hu
    induction us with
    | nil => rfl
    | cons u us ih =>
      show (L2.wipe (L2.wipe σ vs) us).set u none = L2.wipe σ vs
      rw [show L2.wipe (L2.wipe σ vs) us = L2.wipe σ vs from ih fun j hj => hu j (List.mem_cons_of_mem _ hj)]
      have hm := hu u List.mem_cons_self
      have : ∀ (ws : List Nat), u ∈ ws → (L2.wipe σ ws).set u none = L2.wipe σ ws := by
        intro ws
        induction ws with
        | nil => intro h; simp at h
        | cons w ws ih2 =>
          intro h
          unfold L2.wipe
          by_cases e : w = u
          · subst e; rw [List.set_set]
          · rw [List.set_comm _ _ e, ih2 (by rcases List.mem_cons.mp h with z | z; exact absurd z.symm e; exact z)]
      exact this vs hm
  exact z vs fun _ h => h
def wipeD (ρ : List (Option D)) : List Nat → List (Option D)
  | [] => ρ
  | v :: vs => (wipeD ρ vs).set v none
theorem wipeD_env {K : PySem.W.Frag} {Hv : Hp} {σ : L2.St} (h : EnvR K Hv σ ρ) (vs : List Nat) : EnvR K Hv (L2.wipe σ vs) (wipeD ρ vs) := by
  induction vs with
  | nil => exact h
  | cons v vs ih =>
    refine ⟨by unfold L2.wipe wipeD; rw [List.length_set, List.length_set]; exact ih.1, fun i d e => ?_⟩
    unfold wipeD at e
    by_cases hi : v = i
    · subst hi
      by_cases hl : v < (wipeD ρ vs).length
      · rw [List.getElem?_set_self hl] at e; cases e
      · rw [List.getElem?_eq_none (by simpa using hl)] at e; cases e
    · rw [List.getElem?_set_ne hi] at e
      obtain ⟨u, a, b⟩ := ih.2 i d e
      exact ⟨u, by unfold L2.wipe; rw [List.getElem?_set_ne hi]; exact a, b⟩
abbrev ETs (X : Cx) (B : Gd) (ρ : List (Option D)) (O : Om) (ifs : List Expr) (b : Bool) : Prop := PTs X ifs (tT X.K B ρ O b)
theorem ets_nil : ETs X B ρ O [] true := ⟨fun pins s σ H Q I ⟨st, k⟩ => pts_nil.run pins s σ H Q I (k H (Same.refl H))⟩
theorem ets_one (h : ET X B ρ O c b1) : ETs X B ρ O [c] b1 := pts_one h
def tAnyTs (Xs : Cx → Prop) (ifs : List Expr) : TT := fun σ H Q => ∃ (K : PySem.W.Frag) (B : Gd) (ρ : List (Option D)) (O : Om) (b : Bool), (∀ X, Xs X → X.K = K ∧ ETs X B ρ O ifs b) ∧ tT K B ρ O b σ H Q
def tAnyE (Xs : Cx → Prop) (e : Expr) : TE := fun σ H Q => ∃ (K : PySem.W.Frag) (B : Gd) (ρ : List (Option D)) (O : Om) (d : D), (∀ X, Xs X → X.K = K ∧ EV X B ρ O e d) ∧ tD K B ρ O d σ H Q
theorem anyTs_ok {Xs : Cx → Prop} {ifs : List Expr} (h : Xs X) : PTs X ifs (tAnyTs Xs ifs) := ⟨fun pins s σ H Q I ⟨K, B, ρ, O, b, j, q⟩ => by
  obtain ⟨ek, jj⟩ := j X h
  subst ek
  exact jj.run pins s σ H Q I q⟩
theorem anyE_ok {Xs : Cx → Prop} (h : Xs X) : PE X e (tAnyE Xs e) := ⟨fun pins s σ H Q I ⟨K, B, ρ, O, d, j, q⟩ => by
  obtain ⟨ek, jj⟩ := j X h
  subst ek
  exact jj.run pins s σ H Q I q⟩
def Blk (X : Cx) (scope : Scope) : Cx → Prop := fun X' => ∃ (s : Shared) (H : Hp) (C : Addr) (cl : List (Str × Addr)) (fp : List Addr), X' = X.blk s H scope (compEnvC scope cl C X.env) fp
def Gd.hid (B : Gd) (D : Addr) (H : Hp) (O : Om) (h1 : ∀ a, B.F a = true → ∃ o, B.Hb a = some o) (h2 : ∃ o, H D = some o) (h3 : ∀ a o, B.Hb a = some o → H a = some o ∧ has O a = false) (h4 : has O D = false) : Gd :=
  ⟨fun a => B.F a || a == D, fun a => if has O a = true then none else H a, B.W, B.L, fun a h => by
    rw [Bool.or_eq_true] at h
    rcases h with h | h
    · obtain ⟨o, e⟩ := h1 a h
      obtain ⟨q1, q2⟩ := h3 a o e
      exact ⟨o, by rw [q2]; exact q1⟩
    · have e : a = D := beq_iff_eq.mp h
      subst e
      obtain ⟨o, q⟩ := h2
      exact ⟨o, by rw [h4]; exact q⟩, fun a m h => by rw [B.lF a m h]; rfl⟩
theorem lcW_imp {α : Type} {xs : List α} {h : α → D} {pr : α → Bool} {el : α → D} {elt iter tg : Expr} {ifs : List Expr} {scope : Scope} {own : List (Str × Nat)} {wi : TI} {G : Om → Prop} {g : TG} {sl : List Nat} {f}
    (hc : X.calm = true) (hN : X.N.Nodup) (hi : EI X B ρ O tg iter wi G (xs.map h)) (hG : G O) (ok : BlkOk X.N X.env.scope scope own)
    (hg : ∀ X', Blk X scope X' → EB X' tg g sl f) (hsl : ∀ j ∈ sl, j ∈ own.map (·.2))
    (hb : ∀ x ∈ xs, ∃ ρ', f (h x) (wipeD ρ (own.map (·.2))) = some ρ' ∧ (∀ X' B', B'.L = B.L → Blk X scope X' → ETs X' B' ρ' O ifs (pr x)) ∧ (pr x = true → ∀ X' B', B'.L = B.L → Blk X scope X' → EV X' B' ρ' O elt (el x)))
    (hz : xs.length < sizeLine) (σ : L2.St) (H : Hp) (Q : VK) (hq : tN X.K B ρ O ((xs.filter pr).map el) σ H Q) :
    tLc wi g (tAnyTs (Blk X scope) ifs) (tAnyE (Blk X scope) elt) (own.map (·.2)) σ H Q := by
  obtain ⟨st, k⟩ := hq
  refine hi.is σ H _ st fun J H1 e1 S D hD => ?_
  have s1 := st.same e1
  have oD := s1.m.newO hD
  have fD := s1.m.newF hD
  -- what holds at a turn: all that stood, and the new list's items known without it
  let Inv : Nat → Hp → Prop := fun i H' => Same H1 H' ∧ ∃ acc, H' D = some (.lst acc) ∧ RpL X.K (vis B.F ((D, .lst []) :: O) H') acc (((xs.take i).filter pr).map el)
  have visD : ∀ {H' : Hp}, vis B.F ((D, .lst []) :: O) H' = fun a => if (B.F a || a == D || has O a) = true then none else H' a := fun {H'} => by
    funext a
    unfold vis
    rw [has_cons, Bool.beq_comm (a := D), Bool.or_assoc]
  have keep : ∀ {H' : Hp}, Same H1 H' → Same (vis B.F O H1) (vis B.F ((D, .lst []) :: O) H') := fun {H'} e a o h => by
    obtain ⟨h1, h2, h3⟩ := vis_some.mp h
    have ne : a ≠ D := ne_of_none h3 hD
    exact vis_some.mpr ⟨h1, by rw [has_cons, h2, Bool.or_false]; exact beq_eq_false_iff_ne.mpr (Ne.symm ne), e _ _ h3⟩
  have hid : ∀ {H' : Hp} (e : Same H1 H') (hd : ∃ o, H' D = some o), ∃ B' : Gd, B'.L = B.L ∧ (∀ H2, vis B'.F O H2 = vis B.F ((D, .lst []) :: O) H2) ∧ StOk X.K B' (wipeD ρ (own.map (·.2))) O (L2.wipe σ (own.map (·.2))) H' := fun {H'} e hd => by
    have b3 : ∀ a o, B.Hb a = some o → H' a = some o ∧ has O a = false := fun a o q => ⟨e _ _ (s1.m.base a o q).1, (s1.m.base a o q).2⟩
    have ev : ∀ H2, vis (B.hid D H' O B.ok hd b3 oD).F O H2 = vis B.F ((D, .lst []) :: O) H2 := fun H2 => by rw [visD]; rfl
    refine ⟨B.hid D H' O B.ok hd b3 oD, rfl, ev, ⟨⟨fun a o q => ?_, fun a m hm => ?_, s1.m.nd, fun a m hm => ?_⟩, ?_⟩⟩
    · have q' : (if has O a = true then none else H' a) = some o := q
      cases ha : has O a with
      | true => rw [ha, if_pos rfl] at q'; cases q'
      | false => rw [ha, if_neg Bool.false_ne_true] at q'; exact ⟨q', rfl⟩
    · rw [ev]
      exact (s1.m.mem a m hm).mono (keep e) fun o q => e _ _ q
    · rw [ev]
      exact (s1.m.lent a m hm).mono (keep e) fun o q => e _ _ q
    · rw [ev]
      exact wipeD_env (s1.env.mono (keep e)) _
  refine ⟨fun i m H' => m = xs.length - i ∧ i ≤ xs.length ∧ Inv i H', ⟨xs.length, by simp, Nat.zero_le _, same_new hD, [], upd_same, .nil⟩, ?_⟩
  rintro i m H' ⟨rfl, hi', eS, acc, hA, rA⟩
  have hlx : (xs.map h).length = xs.length := List.length_map ..
  obtain ⟨B', eL, ev, sB⟩ := hid eS ⟨_, hA⟩
  have eB : Same (vis B.F O H1) (vis B'.F O H') := by rw [ev]; exact keep eS
  by_cases hlt : i < xs.length
  · refine .inr ⟨S.goes i B' O H' eL (by rw [hlx]; exact hlt) sB.m eB hG, fun H2 => Inv (i + 1) H2, fun H2 q => ⟨xs.length - (i + 1), by omega, rfl, hlt, q⟩, fun x H2 y => ?_⟩
    obtain ⟨e2, d, hd', rv⟩ := S.yields i B' O H' x H2 eL (by rw [hlx]; exact hlt) sB.m eB hG y
    have ed : d = h (xs[i]) := by
      rw [List.getElem?_map, List.getElem?_eq_getElem hlt] at hd'
      exact (Option.some.inj hd').symm
    subst ed
    obtain ⟨ρ', hf, ht, he⟩ := hb (xs[i]) (List.getElem_mem hlt)
    have hK : ∀ X', Blk X scope X' → X'.K = X.K := fun X' ⟨s, H, C, cl, fp, e⟩ => by rw [e]
    refine (hg (X.blk X.s_0 H scope (compEnvC scope [] 0 X.env) []) ⟨X.s_0, H, 0, [], [], rfl⟩).is B' O _ _ ρ' x _ H2 _ hf (sB.same e2) rv fun σ2 s2 off => ⟨(off.wipe hsl).trans (wipe_wipe _ _), ?_⟩
    refine ⟨X.K, B', ρ', O, pr xs[i], fun X' hX' => ⟨hK X' hX', ht X' B' eL hX'⟩, s2, fun H3 e3 => ?_⟩
    have tk : xs.take (i + 1) = xs.take i ++ [xs[i]] := by rw [List.take_succ, List.getElem?_eq_getElem hlt]; rfl
    have eS3 : Same H1 H3 := (eS.trans e2).trans e3
    have la : acc.length < sizeLine := by
      rw [rA.length, List.length_map]
      have := List.length_filter_le pr (xs.take i)
      rw [List.length_take] at this
      omega
    cases hp : pr xs[i] with
    | false =>
      refine iteF ⟨eS3, acc, e3 _ _ (e2 _ _ hA), ?_⟩
      rw [tk, List.filter_append]
      have : List.filter pr [xs[i]] = [] := by simp [hp]
      rw [this, List.append_nil]
      exact rA.mono (vis_same (e2.trans e3))
    | true =>
      refine iteT ⟨X.K, B', ρ', O, el xs[i], fun X' hX' => ⟨hK X' hX', he hp X' B' eL hX'⟩, s2.same e3, fun v H4 e4 r4 => ⟨acc, e4 _ _ (e3 _ _ (e2 _ _ hA)), la, ?_⟩⟩
      have up : vis B.F ((D, .lst []) :: O) (upd H4 D (.lst (acc ++ [v]))) = vis B.F ((D, .lst []) :: O) H4 := by
        rw [visD, visD]
        funext a
        by_cases q : a = D
        · subst q; simp
        · rw [upd_ne q]
      refine ⟨fun a o q => ?_, acc ++ [v], upd_same, ?_⟩
      · rw [upd_ne (ne_of_none q hD)]
        exact e4 _ _ (eS3 _ _ q)
      · rw [up, tk, List.filter_append]
        have : List.filter pr [xs[i]] = [xs[i]] := by simp [hp]
        rw [this, List.map_append]
        refine (rA.mono (vis_same ((e2.trans e3).trans e4))).append (.cons ?_ .nil)
        rw [← ev]
        exact r4
  · have e : i = xs.length := by omega
    subst e
    refine .inl ⟨by have q := S.stops B' O H' eL sB.m eB hG; rw [hlx] at q; exact q, k D H' acc (e1.free hD) (e1.trans eS) hA ?_⟩
    rw [List.take_length] at rA
    rw [show vis B.F ((D, .lst ((xs.filter pr).map el)) :: O) H' = vis B.F ((D, .lst []) :: O) H' from vis_keys rfl]
    exact rA
theorem en_lcW {α : Type} {xs : List α} {h : α → D} {pr : α → Bool} {el : α → D} {elt iter tg : Expr} {ifs : List Expr} {scope : Scope} {own : List (Str × Nat)} {wi : TI} {G : Om → Prop} {g : TG} {sl : List Nat} {f}
    (hc : X.calm = true) (hN : X.N.Nodup) (hi : EI X B ρ O tg iter wi G (xs.map h)) (hG : G O) (ok : BlkOk X.N X.env.scope scope own)
    (hg : ∀ X', Blk X scope X' → EB X' tg g sl f) (hsl : ∀ j ∈ sl, j ∈ own.map (·.2))
    (hb : ∀ x ∈ xs, ∃ ρ', f (h x) (wipeD ρ (own.map (·.2))) = some ρ' ∧ (∀ X' B', B'.L = B.L → Blk X scope X' → ETs X' B' ρ' O ifs (pr x)) ∧ (pr x = true → ∀ X' B', B'.L = B.L → Blk X scope X' → EV X' B' ρ' O elt (el x)))
    (hz : xs.length < sizeLine) (hs : ∀ x, foldedSetIterable iter X.env x = pure x := by intro _; rfl) :
    EN X B ρ O (.ListComp elt [⟨tg, iter, ifs, 0⟩] scope pos) ((xs.filter pr).map el) :=
  pe_imp (pe_lc (own := own) (g := g) (tt := tAnyTs (Blk X scope) ifs) (te := tAnyE (Blk X scope) elt) hc hN hi.pi ok (fun s H C cl fp => (hg _ ⟨s, H, C, cl, fp, rfl⟩).pg) (fun s H C cl fp => anyTs_ok ⟨s, H, C, cl, fp, rfl⟩) (fun s H C cl fp => anyE_ok ⟨s, H, C, cl, fp, rfl⟩) hs) fun σ H Q q => lcW_imp hc hN hi hG ok hg hsl hb hz σ H Q q
theorem j_setLc {α : Type} {xs : List α} {h : α → D} {pr : α → Bool} {el : α → D} {elt iter tg : Expr} {ifs : List Expr} {scope : Scope} {own : List (Str × Nat)} {wi : TI} {G : Om → Prop} {g : TG} {sl : List Nat} {f}
    (hc : X.calm = true) (hN : X.N.Nodup) (hi : EI X B ρ O tg iter wi G (xs.map h)) (hG : G O) (ok : BlkOk X.N X.env.scope scope own)
    (hg : ∀ X', Blk X scope X' → EB X' tg g sl f) (hsl : ∀ j ∈ sl, j ∈ own.map (·.2))
    (hb : ∀ x ∈ xs, ∃ ρ', f (h x) (wipeD ρ (own.map (·.2))) = some ρ' ∧ (∀ X' B', B'.L = B.L → Blk X scope X' → ETs X' B' ρ' O ifs (pr x)) ∧ (pr x = true → ∀ X' B', B'.L = B.L → Blk X scope X' → EV X' B' ρ' O elt (el x)))
    (hz : xs.length < sizeLine) {i : Nat} {y : Str} {py : Pos} (hy : X.N[i]? = some y) (hyl : X.env.scope.names.lookup y = some .local) (hsw : swapsWith (.ListComp elt [⟨tg, iter, ifs, 0⟩] scope pos') (some (.Name y py)) pos.line X.env = pure true) {es : List D} (hes : (xs.filter pr).map el = es) (hnx : A.nx (ρ.set i (some (.lst es))) O) (hs : ∀ x, foldedSetIterable iter X.env x = pure x := by intro _; rfl) :
    J1 X B (.Assign [.Name y py] (.ListComp elt [⟨tg, iter, ifs, 0⟩] scope pos') pos) ρ O A :=
  by
  subst hes
  exact ps_imp (ps_setLc (own := own) (g := g) (tt := tAnyTs (Blk X scope) ifs) (te := tAnyE (Blk X scope) elt) hc hN hy hyl hsw hi.pi ok (fun s H C cl fp => (hg _ ⟨s, H, C, cl, fp, rfl⟩).pg) (fun s H C cl fp => anyTs_ok ⟨s, H, C, cl, fp, rfl⟩) (fun s H C cl fp => anyE_ok ⟨s, H, C, cl, fp, rfl⟩) hs) fun Dn σ H ⟨st, p⟩ => lcW_imp hc hN hi hG ok hg hsl hb hz σ H _ ⟨st, fun q H1 vs hp e1 hv r => by
    have fp := st.m.newF hp
    have op := st.m.newO hp
    have r' : Rp X.K (vis B.F O H1) (.ref q) (.lst ((xs.filter pr).map el)) := .lst (vis_some.mpr ⟨fp, op, hv⟩) (r.mono fun a o h => by
      obtain ⟨h1, h2, h3⟩ := vis_some.mp h
      rw [has_cons, Bool.or_eq_false_iff] at h2
      exact vis_some.mpr ⟨h1, h2.2, h3⟩)
    exact p.nx _ O _ H1 hnx ((st.same e1).set r') (vis_same e1)⟩
end
end DL

set_option Elab.async false
set_option linter.all false
set_option maxRecDepth 100000
set_option maxHeartbeats 2000000
namespace DL
open PySem PySem.Spec PyProof.Rows L2
section
variable {X : Cx} {B : Gd} {ρ ρ' : List (Option D)} {O O' O1 O2 : Om} {A : AE} {a b c e o : Expr} {es : List Expr} {d d1 d2 d3 : D} {ds : List D} {pos pos' p apos : Pos} {b1 b2 : Bool} {st : Stmt} {ss rest : List Stmt} {x : Str}
theorem ev_bltn {v : V} {u : Value} (hg : Gl X x) (hm : X.mg x = none) (hv : bootBuiltins x = some u) (r : RelV v u) (rp : ∀ H, Rp X.K H v d) (hn : x ≠ "__name__" := by decide) (hd : (x == ("__debug__" : Str)) = false := by decide) : EV X B ρ O (.Name x pos) d :=
  pe_imp (pe_bltn hg hm hv r hn hd) fun σ H Q ⟨st, k⟩ => k v H (Same.refl H) (rp _)
def RC (K : PySem.W.Frag) (B : Gd) (O : Om) (r : List V → Hp → VK → Prop) (ds : List D) (d : D) : Prop :=
  ∀ (xs : List V) (H : Hp) (Q : VK), MOk K B O H → RpL K (vis B.F O H) xs ds → (∀ v H', Same H H' → Rp K (vis B.F O H') v d → Q v H') → r xs H Q
def RCN (K : PySem.W.Frag) (B : Gd) (O : Om) (r : List V → Hp → VK → Prop) (ds es : List D) : Prop :=
  ∀ (xs : List V) (H : Hp) (Q : VK), MOk K B O H → RpL K (vis B.F O H) xs ds → (∀ p H' vs, H p = none → Same H H' → H' p = some (.lst vs) → RpL K (vis B.F ((p, .lst es) :: O) H') vs es → Q (.ref p) H') → r xs H Q
theorem call_rc {r : List V → Hp → VK → Prop} (hr : RC X.K B O r ds d) (σ : L2.St) (H : Hp) (Q : VK) (h : tD X.K B ρ O d σ H Q) : tCB r (tA X.K B ρ O ds) σ H Q := by
  obtain ⟨st, k⟩ := h
  exact ⟨st, fun vs H1 e1 r1 => hr vs H1 Q (st.same e1).m r1 fun v H2 e2 r2 => k v H2 (e1.trans e2) r2⟩
theorem call_rcn {r : List V → Hp → VK → Prop} {es : List D} (hr : RCN X.K B O r ds es) (σ : L2.St) (H : Hp) (Q : VK) (h : tN X.K B ρ O es σ H Q) : tCB r (tA X.K B ρ O ds) σ H Q := by
  obtain ⟨st, k⟩ := h
  exact ⟨st, fun vs H1 e1 r1 => hr vs H1 Q (st.same e1).m r1 fun p H2 ws hp e2 hq r2 => k p H2 ws (e1.free hp) (e1.trans e2) hq r2⟩
theorem ev_callB {r : List V → Hp → VK → Prop} {id : String} (hc : CallR X (.builtin id) r) (hr : RC X.K B O r ds d) (hg : Gl X x) (hm : X.mg x = none) (hv : bootBuiltins x = some (.builtin id)) (ha : EA X B ρ O (e :: es) ds) (hn : x ≠ "__name__" := by decide) (hdb : (x == ("__debug__" : Str)) = false := by decide)
    (he : starEach (e :: es) X.env = (false, eval e X.env) :: starEach es X.env := by rfl) (hpl : (backTo pos (starEach es X.env)).any (·.1) = false := by rfl) : EV X B ρ O (.Call (.Name x p) (e :: es) [] pos) d :=
  pe_imp (pe_callB hc hg hm hv ha hn hdb he hpl) (call_rc hr)
theorem ev_callTy {r : List V → Hp → VK → Prop} {T : String} (hc : CallR X (.type T) r) (hr : RC X.K B O r ds d) (hg : Gl X x) (hm : X.mg x = none) (hv : bootBuiltins x = some (.type T)) (ha : EA X B ρ O (e :: es) ds) (hn : x ≠ "__name__" := by decide) (hdb : (x == ("__debug__" : Str)) = false := by decide)
    (he : starEach (e :: es) X.env = (false, eval e X.env) :: starEach es X.env := by rfl) (hpl : (backTo pos (starEach es X.env)).any (·.1) = false := by rfl) : EV X B ρ O (.Call (.Name x p) (e :: es) [] pos) d :=
  pe_imp (pe_callTy hc hg hm hv ha hn hdb he hpl) (call_rc hr)
theorem en_callTy {r : List V → Hp → VK → Prop} {T : String} {ds' : List D} (hc : CallR X (.type T) r) (hr : RCN X.K B O r ds ds') (hg : Gl X x) (hm : X.mg x = none) (hv : bootBuiltins x = some (.type T)) (ha : EA X B ρ O (e :: es) ds) (hn : x ≠ "__name__" := by decide) (hdb : (x == ("__debug__" : Str)) = false := by decide)
    (he : starEach (e :: es) X.env = (false, eval e X.env) :: starEach es X.env := by rfl) (hpl : (backTo pos (starEach es X.env)).any (·.1) = false := by rfl) : EN X B ρ O (.Call (.Name x p) (e :: es) [] pos) ds' :=
  pe_imp (pe_callTy hc hg hm hv ha hn hdb he hpl) (call_rcn hr)
theorem new_same {K : PySem.W.Frag} {H : Hp} (m : MOk K B O H) {vs : List V} (r : RpL K (vis B.F O H) vs ds) {Q : VK} (k : ∀ p H' vs, H p = none → Same H H' → H' p = some (.lst vs) → RpL K (vis B.F ((p, .lst ds) :: O) H') vs ds → Q (.ref p) H') :
    ∀ l, H l = none → Q (.ref l) (upd H l (.lst vs)) := fun l hl => k l _ vs hl (same_new hl) upd_same (new_vis m hl r _)
theorem vw_rp {K : PySem.W.Frag} {H : Hp} {xs : List V} (w : Vw (B.L ++ O) d ds) (m : MOk K B O H) (r : RpL K (vis B.F O H) xs [d]) : ∃ a vs, xs = [.ref a] ∧ SqL K H a vs ∧ RpL K (vis B.F O H) vs ds := by
  cases r with
  | cons h r =>
    cases r
    obtain ⟨a, vs, e, q, rl⟩ := w.sql m h
    exact ⟨a, vs, by rw [e], q, rl⟩
def Vq (O : Om) (d : D) (ds : List D) : Prop := Vw O d ds ∨ d = .tup ds
theorem Vq.sq {K : PySem.W.Frag} {H : Hp} {v : V} (w : Vq (B.L ++ O) d ds) (m : MOk K B O H) (r : Rp K (vis B.F O H) v d) : ∃ a vs, v = .ref a ∧ (SqL K H a vs ∨ SqT K H a vs) ∧ RpL K (vis B.F O H) vs ds := by
  rcases w with w | rfl
  · obtain ⟨a, vs, e, q, rl⟩ := w.sql m r
    exact ⟨a, vs, e, .inl q, rl⟩
  · cases r with
    | tup h r => exact ⟨_, _, rfl, .inr (same_t vis_le h), r⟩
theorem vq_rp {K : PySem.W.Frag} {H : Hp} {xs : List V} (w : Vq (B.L ++ O) d ds) (m : MOk K B O H) (r : RpL K (vis B.F O H) xs [d]) : ∃ a vs, xs = [.ref a] ∧ (SqL K H a vs ∨ SqT K H a vs) ∧ RpL K (vis B.F O H) vs ds := by
  cases r with
  | cons h r =>
    cases r
    obtain ⟨a, vs, e, q, rl⟩ := w.sq m h
    exact ⟨a, vs, by rw [e], q, rl⟩
theorem rc_len {K : PySem.W.Frag} (w : Vq (B.L ++ O) d ds) : RC K B O (fun xs H Q => ∃ p ys, xs = [.ref p] ∧ (SqL K H p ys ∨ SqT K H p ys) ∧ Q (.int ys.length) H) [d] (.int ds.length) := fun xs H Q m r k => by
  obtain ⟨a, vs, e, q, rl⟩ := vq_rp w m r
  exact ⟨a, vs, e, q, by rw [rl.length]; exact k _ H (Same.refl H) (.int _)⟩
theorem rc_lenS {z : Str} {K : PySem.W.Frag} (hz : z.length ≤ sizeLine) : RC K B O (fun xs H Q => ∃ z, xs = [.str z] ∧ z.length ≤ sizeLine ∧ Q (.int z.length) H) [.str z] (.int z.length) := fun xs H Q m r k => by
  cases r with
  | cons h r => cases r; cases h; exact ⟨z, rfl, hz, k _ H (Same.refl H) (.int _)⟩
theorem rc_int {i : Int} {K : PySem.W.Frag} : RC K B O (fun xs H Q => (∃ i, xs = [.int i] ∧ Q (.int i) H) ∨ ∃ k, xs = [.bl k] ∧ Q (.int (if k then 1 else 0)) H) [.int i] (.int i) := fun xs H Q m r k => by
  cases r with
  | cons h r => cases r; cases h; exact .inl ⟨i, rfl, k _ H (Same.refl H) (.int _)⟩
theorem rc_intS {z : Str} {n : Int} {K : PySem.W.Frag} (h1 : PySem.intText? z = some n) (h2 : z.length ≤ 640) : RC K B O (fun xs H Q => ∃ a n, xs = [.str a] ∧ PySem.intText? a = some n ∧ a.length ≤ 640 ∧ Q (.int n) H) [.str z] (.int n) := fun xs H Q m r k => by
  cases r with
  | cons h r => cases r; cases h; exact ⟨z, n, rfl, h1, h2, k _ H (Same.refl H) (.int _)⟩
theorem rc_strI {i : Int} {K : PySem.W.Frag} (hz : i.natAbs.log2 < 1920) : RC K B O (fun xs H Q => ∃ i, xs = [.int i] ∧ i.natAbs.log2 < 1920 ∧ Q (.str (toString i)) H) [.int i] (.str (toString i)) := fun xs H Q m r k => by
  cases r with
  | cons h r => cases r; cases h; exact ⟨i, rfl, hz, k _ H (Same.refl H) (.str _)⟩
theorem rcn_list {K : PySem.W.Frag} (w : Vq (B.L ++ O) d ds) : RCN K B O (fun xs H Q => ∃ p ys, xs = [.ref p] ∧ (SqL K H p ys ∨ SqT K H p ys) ∧ ∀ l, H l = none → Q (.ref l) (upd H l (.lst ys))) [d] ds := fun xs H Q m r k => by
  obtain ⟨a, vs, e, q, rl⟩ := vq_rp w m r
  exact ⟨a, vs, e, q, new_same m rl k⟩
theorem rc_tuple {K : PySem.W.Frag} (w : Vq (B.L ++ O) d ds) : RC K B O (fun xs H Q => ∃ p ys, xs = [.ref p] ∧ ((SqL K H p ys ∧ ∀ l, H l = none → Q (.ref l) (upd H l (.tup ys))) ∨ (SqT K H p ys ∧ Q (.ref p) H))) [d] (.tup ds) := fun xs H Q m r k => by
  rcases w with w | rfl
  · obtain ⟨a, vs, e, q, rl⟩ := vw_rp w m r
    exact ⟨a, vs, e, .inl ⟨q, fun l hl => k _ _ (same_new hl) (.tup (.inl (.inl (m.visNew hl))) (rl.mono (vis_same (same_new hl))))⟩⟩
  · cases r with
    | cons h r =>
      cases r
      cases h with
      | tup hq r => exact ⟨_, _, rfl, .inr ⟨same_t vis_le hq, k _ H (Same.refl H) (.tup hq r)⟩⟩
theorem rc_any {bs : List Bool} {K : PySem.W.Frag} (w : Vw (B.L ++ O) d (bs.map fun x => D.bl x)) : RC K B O (rAny K) [d] (.bl (bs.any id)) := fun xs H Q m r k => by
  obtain ⟨a, vs, e, q, rl⟩ := vw_rp w m r
  have ev := rl.bls
  subst ev
  exact ⟨a, bs, e, q, k _ H (Same.refl H) (.bl _)⟩
inductive DT (O : Om) : D → String → Prop where
  | non : DT O .non "NoneType"
  | bl {b : Bool} : DT O (.bl b) "bool"
  | int {i : Int} : DT O (.int i) "int"
  | str {s : Str} : DT O (.str s) "str"
  | lst {ds : List D} : DT O (.lst ds) "list"
  | tup {ds : List D} : DT O (.tup ds) "tuple"
  | mlst {a : Addr} {ds : List D} : (a, M.lst ds) ∈ O → DT O (.rf a) "list"
  | mdk {a : Addr} {kvs : List (Key × D)} : (a, M.dk kvs) ∈ O → DT O (.rf a) "dict"
theorem dt_ty {K : PySem.W.Frag} {H : Hp} {v : V} {t : String} (h : DT (B.L ++ O) d t) (m : MOk K B O H) (r : Rp K (vis B.F O H) v d) : TyX K H v (.type t) := by
  cases h with
  | non => cases r; exact .base .non
  | bl => cases r; exact .base (.bl _)
  | int => cases r; exact .base (.int _)
  | str => cases r; exact .base (.str _)
  | lst =>
    cases r with
    | lst hq r => exact .base (.lst (vis_le _ _ hq))
  | tup =>
    cases r with
    | tup hq r =>
      rcases same_t vis_le hq with (h | ⟨o, h⟩) | ⟨o, its, n, h, hc, _⟩
      · exact .base (.tup h)
      · exact .fTuple h
      · exact .kTuple h hc
  | mlst hm =>
    cases r
    obtain ⟨vs, h, _⟩ := (List.mem_append.mp hm).elim (m.lent _ _) (m.mem _ _)
    exact .base (.lst h)
  | mdk hm =>
    cases r
    obtain ⟨vs, h, _⟩ := (List.mem_append.mp hm).elim (m.lent _ _) (m.mem _ _)
    exact .base (.dK h)
theorem rc_isi {t c : String} {K : PySem.W.Frag} (h : DT (B.L ++ O) d t) (hk : kitB t c = some b1) : RC K B O (rIsi K) [d, .ty c] (.bl b1) := fun xs H Q m r k => by
  cases r with
  | cons h1 r =>
    cases r with
    | cons h2 r =>
      cases r
      cases h2
      exact ⟨_, _, _, _, b1, rfl, .ty c, dt_ty h m h1, kit_ty hk, k _ H (Same.refl H) (.bl _)⟩
theorem ix_imp {r : R2} (hr : IxR X r) (hrd : RD X.K B O r d1 d2 d) (ha : EV X B ρ O a d1) (hb : EV X B ρ O b d2) (hs : PlainIx b := by intro _ _; rfl) : EV X B ρ O (.Subscript a b pos) d := pe_imp (pe_ix hr ha hb hs) (two hrd)
theorem rd_ixL {i : Int} {K : PySem.W.Frag} (w : Vw (B.L ++ O) d1 ds) (h : atI ds i = some d) : RD K B O (rIxL K) d1 (.int i) d := fun x y H Q m r1 r2 k => by
  cases r2
  obtain ⟨a, vs, e, q, rl⟩ := w.sql m r1
  obtain ⟨j, h1, h2, h3, h4, h5⟩ := atI_get h
  obtain ⟨v, hv, rv⟩ := rl.get h2
  refine ⟨a, vs, i, v, e, rfl, q, ?_, k v H (Same.refl H) rv⟩
  unfold atI at h ⊢
  rw [rl.length]
  cases hi : ixN ds.length i with
  | none => rw [hi] at h; cases h
  | some j' =>
    rw [hi] at h
    have e' := (ixN_seq hi).1
    rw [h1] at e'
    cases e'
    exact hv
theorem rd_ixT {i : Int} {K : PySem.W.Frag} (h : atI ds i = some d) : RD K B O (rIxT K) (.tup ds) (.int i) d := fun x y H Q m r1 r2 k => by
  cases r2
  cases r1 with
  | tup hq rl =>
    obtain ⟨j, h1, h2, h3, h4, h5⟩ := atI_get h
    obtain ⟨v, hv, rv⟩ := rl.get h2
    refine ⟨_, _, i, v, rfl, rfl, same_t vis_le hq, ?_, k v H (Same.refl H) rv⟩
    unfold atI at h ⊢
    rw [rl.length]
    cases hi : ixN ds.length i with
    | none => rw [hi] at h; cases h
    | some j' =>
      rw [hi] at h
      have e' := (ixN_seq hi).1
      rw [h1] at e'
      cases e'
      exact hv
theorem rd_ixS {z : Str} {i : Int} {c : Nat} {K : PySem.W.Frag} (hz : z.length ≤ sizeLine) (h : atI z.cps.toList i = some c) : RD K B O rIxS (.str z) (.int i) (.str ⟨#[c]⟩) := fun x y H Q m r1 r2 k => by
  cases r1; cases r2
  exact ⟨z, i, c, rfl, rfl, hz, h, k _ H (Same.refl H) (.str _)⟩
theorem ev_ixL {i : Int} (ha : EV X B ρ O a d1) (hb : EV X B ρ O b (.int i)) (w : Vw (B.L ++ O) d1 ds) (h : atI ds i = some d) (hs : PlainIx b := by intro _ _; rfl) : EV X B ρ O (.Subscript a b pos) d := ix_imp ix_list (rd_ixL w h) ha hb hs
theorem ev_ixT {i : Int} (ha : EV X B ρ O a (.tup ds)) (hb : EV X B ρ O b (.int i)) (h : atI ds i = some d) (hs : PlainIx b := by intro _ _; rfl) : EV X B ρ O (.Subscript a b pos) d := ix_imp ix_tup (rd_ixT h) ha hb hs
theorem ev_ixS {z : Str} {i : Int} {c : Nat} (ha : EV X B ρ O a (.str z)) (hb : EV X B ρ O b (.int i)) (hz : z.length ≤ sizeLine) (h : atI z.cps.toList i = some c) (hs : PlainIx b := by intro _ _; rfl) : EV X B ρ O (.Subscript a b pos) (.str ⟨#[c]⟩) := ix_imp ix_str (rd_ixS hz h) ha hb hs
def tOo (K : PySem.W.Frag) (B : Gd) (ρ : List (Option D)) (O : Om) (i : Option Int) : TO := fun σ H Q => StOk K B ρ O σ H ∧ ∀ H', Same H H' → Q i H'
abbrev EO (X : Cx) (B : Gd) (ρ : List (Option D)) (O : Om) (e : Option Expr) (i : Option Int) : Prop := PO X e (tOo X.K B ρ O i)
theorem po_imp {e : Option Expr} {t t' : TO} (h : PO X e t) (w : ∀ σ H Q, t' σ H Q → t σ H Q) : PO X e t' := ⟨fun pins s σ H Q I q => h.run pins s σ H Q I (w σ H Q q)⟩
theorem eo_none : EO X B ρ O none none := po_imp po_none fun σ H Q ⟨st, k⟩ => k H (Same.refl H)
theorem eo_some {i : Int} (h : EV X B ρ O e (.int i)) : EO X B ρ O (some e) (some i) := po_imp (po_some h) fun σ H Q ⟨st, k⟩ => ⟨st, fun v H1 e1 r1 => by cases r1; exact ⟨i, rfl, k H1 e1⟩⟩
def cutD (xs : List D) (lo hi : Option Int) : List D := (xs.drop (HT.sIx xs.length 0 lo)).take (HT.sIx xs.length xs.length hi - HT.sIx xs.length 0 lo)
theorem RpL.cut {K : PySem.W.Frag} {H : Hp} {vs : List V} {ds : List D} (r : RpL K H vs ds) (lo hi : Option Int) : RpL K H (cutV vs lo hi) (cutD ds lo hi) := by
  unfold cutV cutD
  rw [r.length]
  exact (r.drop _).take _
theorem ev_sliceS {lo hi : Option Expr} {l h : Option Int} {p2 : Pos} {z : Str} (ha : EV X B ρ O e (.str z)) (hl : EO X B ρ O lo l) (hh : EO X B ρ O hi h) (hz : z.length ≤ sizeLine) : EV X B ρ O (.Subscript e (.Slice lo hi none p2) pos) (.str (cutS z l h)) :=
  pe_imp (pe_slice sl_str ha hl hh) fun σ H Q ⟨st, k⟩ => ⟨st, fun v H1 e1 r1 => ⟨st.same e1, fun H2 e2 => ⟨(st.same e1).same e2, fun H3 e3 => by
    cases r1
    exact ⟨z, rfl, hz, k _ H3 ((e1.trans e2).trans e3) (.str _)⟩⟩⟩⟩
theorem rd_inC {K : PySem.W.Frag} {c : Nat} {z : Str} : RD K B O (fun x y H Q => ∃ (c : Nat) (z : Str), x = .str ⟨#[c]⟩ ∧ y = .str z ∧ Q (.bl (decide (c ∈ z.cps.toList))) H) (.str ⟨#[c]⟩) (.str z) (.bl (decide (c ∈ z.cps.toList))) := fun x y H Q m r1 r2 k => by
  cases r1; cases r2
  exact ⟨c, z, rfl, rfl, k _ H (Same.refl H) (.bl _)⟩
theorem ev_m1 {id : String} {name : Str} {r : V → List V → Hp → VK → Prop} {z : Str} (slot : Slot "str" name id) (ty : typeOf (.builtin id) = pure (.type "method_descriptor")) (rule : MtR X id r) (ho : EV X B ρ O o (.str z)) (he : EV X B ρ O e d1)
    (hr : RC X.K B O (fun xs H Q => r (.str z) xs H Q) [d1] d)
    (hs : starEach [e] X.env = [(false, eval e X.env)] := by rfl) (hbase : attributeBase o name X.env (eval o X.env) = eval o X.env := by rfl) (hline : (apos.endLine == pos.line) = true := by rfl) : EV X B ρ O (.Call (.Attribute o name apos) [e] [] pos) d :=
  pe_imp (pe_m1 slot ty rule ho he hs hbase hline) fun σ H Q ⟨st, k⟩ => ⟨st, fun v H1 e1 r1 => by
    cases r1
    exact ⟨⟨z, rfl⟩, st.same e1, fun y H2 e2 r2 => hr [y] H2 Q ((st.same e1).same e2).m (.cons r2 .nil) fun v H3 e3 r3 => k v H3 ((e1.trans e2).trans e3) r3⟩⟩
theorem en_m1 {id : String} {name : Str} {r : V → List V → Hp → VK → Prop} {z : Str} (slot : Slot "str" name id) (ty : typeOf (.builtin id) = pure (.type "method_descriptor")) (rule : MtR X id r) (ho : EV X B ρ O o (.str z)) (he : EV X B ρ O e d1)
    (hr : RCN X.K B O (fun xs H Q => r (.str z) xs H Q) [d1] ds)
    (hs : starEach [e] X.env = [(false, eval e X.env)] := by rfl) (hbase : attributeBase o name X.env (eval o X.env) = eval o X.env := by rfl) (hline : (apos.endLine == pos.line) = true := by rfl) : EN X B ρ O (.Call (.Attribute o name apos) [e] [] pos) ds :=
  pe_imp (pe_m1 slot ty rule ho he hs hbase hline) fun σ H Q ⟨st, k⟩ => ⟨st, fun v H1 e1 r1 => by
    cases r1
    exact ⟨⟨z, rfl⟩, st.same e1, fun y H2 e2 r2 => hr [y] H2 Q ((st.same e1).same e2).m (.cons r2 .nil) fun p H3 ws hp e3 hv r3 => k p H3 ws (e1.free (e2.free hp)) ((e1.trans e2).trans e3) hv r3⟩⟩
theorem ev_find {z y : Str} (ho : EV X B ρ O o (.str z)) (he : EV X B ρ O e (.str y)) (hs : starEach [e] X.env = [(false, eval e X.env)] := by rfl) (hbase : attributeBase o "find" X.env (eval o X.env) = eval o X.env := by rfl) (hline : (apos.endLine == pos.line) = true := by rfl) :
    EV X B ρ O (.Call (.Attribute o "find" apos) [e] [] pos) (.int (Txt.find z y)) :=
  ev_m1 F.slot_str_find F.type_str_find mt_find ho he (fun xs H Q m r k => by
    cases r with
    | cons h r => cases r; cases h; exact ⟨z, y, rfl, rfl, k _ H (Same.refl H) (.int _)⟩) hs hbase hline
theorem en_split {z y : Str} (ho : EV X B ρ O o (.str z)) (he : EV X B ρ O e (.str y)) (hy : (y.length == 0) = false) (hz : z.length + 2 ≤ sizeLine) (hs : starEach [e] X.env = [(false, eval e X.env)] := by rfl) (hbase : attributeBase o "split" X.env (eval o X.env) = eval o X.env := by rfl) (hline : (apos.endLine == pos.line) = true := by rfl) :
    EN X B ρ O (.Call (.Attribute o "split" apos) [e] [] pos) ((Txt.split z y).map fun s => D.str s) :=
  en_m1 F.slot_str_split F.type_str_split mt_split ho he (fun xs H Q m r k => by
    cases r with
    | cons h r => cases r; cases h; exact ⟨z, y, rfl, rfl, hy, hz, new_same m (.ofStrs _) k⟩) hs hbase hline
theorem ev_join {z : Str} {ys : List Str} (ho : EV X B ρ O o (.str z)) (he : EV X B ρ O e d1) (w : Vq (B.L ++ O) d1 (ys.map fun s => D.str s)) (hz : (ys.map (·.length)).sum + ys.length * z.length ≤ 16777216)
    (hs : starEach [e] X.env = [(false, eval e X.env)] := by rfl) (hbase : attributeBase o "join" X.env (eval o X.env) = eval o X.env := by rfl) (hline : (apos.endLine == pos.line) = true := by rfl) :
    EV X B ρ O (.Call (.Attribute o "join" apos) [e] [] pos) (.str (Txt.join z ys)) :=
  ev_m1 F.slot_str_join F.type_str_join mt_join ho he (fun xs H Q m r k => by
    obtain ⟨a, vs, e, q, rl⟩ := vq_rp w m r
    have ev := rl.strs
    subst ev
    exact ⟨z, a, ys, rfl, e, q, hz, k _ H (Same.refl H) (.str _)⟩) hs hbase hline
def putO (O : Om) (p : Addr) (m : M) : Om := O.map fun q => if q.1 = p then (p, m) else q
theorem putO_keys {p : Addr} {m : M} : (putO O p m).map (·.1) = O.map (·.1) := by
  unfold putO
  rw [List.map_map]
  refine List.map_congr_left fun q _ => ?_
  show (if q.1 = p then (p, m) else q).1 = q.1
  split
  · rename_i h; exact h.symm
  · rfl
theorem vis_put {F : Addr → Bool} {H : Hp} {p : Addr} {o : HO} (h : has O p = true) : vis F O (upd H p o) = vis F O H := by
  funext a
  unfold vis
  by_cases e : a = p
  · subst e
    rw [h, Bool.or_true, if_pos rfl, if_pos rfl]
  · rw [upd_ne e]
theorem StOk.put {K : PySem.W.Frag} {σ : L2.St} {H : Hp} {p : Addr} {m m' : M} {o : HO} (st : StOk K B ρ O σ H) (hm : (p, m) ∈ O) (r : MRp K (vis B.F O H) (upd H p o) p m') : StOk K B ρ (putO O p m') σ (upd H p o) ∧ vis B.F (putO O p m') (upd H p o) = vis B.F O H := by
  have hp : has O p = true := has_mem.mpr ⟨m, hm⟩
  have ev : vis B.F (putO O p m') (upd H p o) = vis B.F O H := by rw [vis_keys (O' := O) putO_keys, vis_put hp]
  refine ⟨⟨⟨fun a u hb => ?_, fun a u ha => ?_, by rw [putO_keys]; exact st.m.nd, fun a u ha => ?_⟩, by rw [ev]; exact st.env⟩, ev⟩
  · obtain ⟨h1, h2⟩ := st.m.base a u hb
    have ne : a ≠ p := fun z => by rw [z, hp] at h2; cases h2
    exact ⟨by rw [upd_ne ne]; exact h1, by rw [has_keys putO_keys]; exact h2⟩
  · rw [ev]
    unfold putO at ha
    obtain ⟨⟨b, n⟩, hb, e⟩ := List.mem_map.mp ha
    by_cases q : b = p
    · have e' : (if b = p then (p, m') else (b, n)) = (a, u) := e
      rw [if_pos q] at e'
      cases e'
      exact r
    · have e' : (if b = p then (p, m') else (b, n)) = (a, u) := e
      rw [if_neg q] at e'
      cases e'
      exact (st.m.mem _ _ hb).mono (Same.refl _) fun o h => by rw [upd_ne q]; exact h
  · rw [ev]
    have ne : a ≠ p := fun z => by
      obtain ⟨u', hu⟩ := B.ok a (B.lF a u ha)
      have := (st.m.base a u' hu).2
      rw [z, hp] at this; cases this
    exact (st.m.lent a u ha).mono (Same.refl _) fun o h => by rw [upd_ne ne]; exact h
inductive Put : Om → Addr → M → M → Om → Prop where
  | head {O : Om} {p : Addr} {m m' : M} : Put ((p, m) :: O) p m m' ((p, m') :: O)
  | tail {O O' : Om} {q : Addr × M} {p : Addr} {m m' : M} : Put O p m m' O' → Put (q :: O) p m m' (q :: O')
theorem Put.mem {p : Addr} {m m' : M} : ∀ {O O' : Om}, Put O p m m' O' → (p, m) ∈ O
  | _, _, .head => List.mem_cons_self
  | _, _, .tail h => List.mem_cons_of_mem _ h.mem
theorem Put.eq {p : Addr} {m m' : M} : ∀ {O O' : Om}, Put O p m m' O' → (O.map (·.1)).Nodup → putO O p m' = O'
  | _, _, .head (O := O), nd => by
    rw [List.map_cons, List.nodup_cons] at nd
    show (if p = p then (p, m') else (p, m)) :: putO O p m' = _
    rw [if_pos rfl]
    congr 1
    unfold putO
    refine (List.map_congr_left fun q hq => ?_).trans (List.map_id _)
    have : q.1 ≠ p := fun z => nd.1 (z ▸ List.mem_map_of_mem (f := (·.1)) hq)
    show (if q.1 = p then (p, m') else q) = q
    rw [if_neg this]
  | _, _, .tail (q := q) (O := O) h, nd => by
    rw [List.map_cons, List.nodup_cons] at nd
    have : q.1 ≠ p := fun z => nd.1 (z ▸ List.mem_map_of_mem (f := (·.1)) h.mem)
    show (if q.1 = p then (p, m') else q) :: putO O p m' = _
    rw [if_neg this, h.eq nd.2]
theorem StOk.putP {K : PySem.W.Frag} {σ : L2.St} {H : Hp} {p : Addr} {m m' : M} {o : HO} (st : StOk K B ρ O σ H) (hm : Put O p m m' O') (r : MRp K (vis B.F O H) (upd H p o) p m') : StOk K B ρ O' σ (upd H p o) ∧ vis B.F O' (upd H p o) = vis B.F O H := by
  have h := st.put hm.mem r
  rw [hm.eq st.m.nd] at h
  exact h
theorem eg_append {p : Addr} {ds0 : List D} (ho : EV X B ρ O o (.rf p)) (hm : (p, M.lst ds0) ∈ O) (he : EG X B ρ O e d O1) (hm1 : Put O1 p (.lst ds) (.lst (ds ++ [d])) O2) (hz : ds.length < sizeLine)
    (hbase : attributeBase o "append" X.env (eval o X.env) = eval o X.env := by rfl)
    (hfew : ((backTo pos (starEach [e] X.env)).all (fun x => !x.1) && (backToKw pos (keywordEach [] X.env)).all (fun x => x.1.isSome)
      && decide ([e].length + ([] : List Keyword).length + (if ([] : List Keyword).isEmpty then 0 else 1) < 30)) = true := by rfl)
    (hline : (apos.endLine == pos.line) = true := by rfl) (hs : starEach [e] X.env = (false, eval e X.env) :: starEach [] X.env := by rfl) (hplain : (backTo pos (starEach [] X.env)).any (·.1) = false := by rfl) :
    EG X B ρ O (.Call (.Attribute o "append" apos) [e] [] pos) .non O2 :=
  pe_imp (pe_bm PySem.F.plainAttrs_list PySem.F.slot_list_append PySem.F.type_list_append mt_append ho (pa_cons he pa_nil hs) hbase hfew hline hs hplain) fun σ H Q ⟨st, k⟩ => ⟨st, fun v H1 e1 r1 => by
    cases r1
    have s1 := st.same e1
    obtain ⟨vs, h1, h2⟩ := s1.m.mem _ _ hm
    refine ⟨.inl ⟨rfl, vs, .inl (.inl h1)⟩, s1, fun w H2 s2 e2 r2 => ?_⟩
    obtain ⟨ws, h3, h4⟩ := s2.m.mem _ _ hm1.mem
    obtain ⟨s3, ev⟩ := s2.putP (o := .lst (ws ++ [w])) hm1 ⟨_, upd_same, h4.append (.cons r2 .nil)⟩
    refine ⟨p, ws, w, rfl, rfl, h3, by rw [h4.length]; exact hz, k .non _ s3 ?_ .non⟩
    rw [ev]
    exact (vis_same e1).trans e2⟩
theorem eg_pop {p : Addr} (ho : EV X B ρ O o (.rf p)) (hd : ds[ds.length - 1]? = some d) (hm : Put O p (.lst ds) (.lst ds.dropLast) O')
    (hbase : attributeBase o "pop" X.env (eval o X.env) = eval o X.env := by rfl) (hline : (apos.endLine == pos.line) = true := by rfl) :
    EG X B ρ O (.Call (.Attribute o "pop" apos) [] [] pos) d O' :=
  pe_imp (pe_bm0 PySem.F.plainAttrs_list PySem.F.slot_list_pop PySem.F.type_list_pop mt_pop ho hbase hline) fun σ H Q ⟨st, k⟩ => ⟨st, fun v H1 e1 r1 => by
    cases r1
    have s1 := st.same e1
    obtain ⟨vs, h1, h2⟩ := s1.m.mem _ _ hm.mem
    obtain ⟨w, hw, rw'⟩ := h2.get hd
    obtain ⟨s3, ev⟩ := s1.putP (o := .lst vs.dropLast) hm ⟨_, upd_same, h2.dropLast⟩
    refine ⟨.inl ⟨rfl, vs, .inl (.inl h1)⟩, p, vs, w, rfl, rfl, h1, by rw [h2.length]; exact hw, k w _ s3 ?_ ?_⟩
    · rw [ev]; exact vis_same e1
    · rw [ev]; exact rw'⟩
end
end DL

set_option Elab.async false
set_option linter.all false
set_option maxRecDepth 100000
set_option maxHeartbeats 2000000
namespace DL
open PySem PySem.Spec PyProof.Rows L2
mutual
inductive Frz (O : Om) : D → D → Prop where
  | refl (d : D) : Frz O d d
  | mlst {p : Addr} {ds ds' : List D} : (p, M.lst ds) ∈ O → FrzL O ds ds' → Frz O (.rf p) (.lst ds')
  | mins {p C : Addr} {ns : List Str} {ds ds' : List D} : (p, M.ins C ns ds) ∈ O → FrzL O ds ds' → Frz O (.rf p) (.obj C ns ds')
  | tup {ds ds' : List D} : FrzL O ds ds' → Frz O (.tup ds) (.tup ds')
  | lst {ds ds' : List D} : FrzL O ds ds' → Frz O (.lst ds) (.lst ds')
inductive FrzL (O : Om) : List D → List D → Prop where
  | refl (ds : List D) : FrzL O ds ds
  | cons {d d' : D} {ds ds' : List D} : Frz O d d' → FrzL O ds ds' → FrzL O (d :: ds) (d' :: ds')
end
section
variable {K : PySem.W.Frag} {B : Gd} {O : Om} {H : Hp}
theorem vis_all : Same (vis B.F O H) (vis B.F [] H) := fun a o h => by
  obtain ⟨h1, h2, h3⟩ := vis_some.mp h
  exact vis_some.mpr ⟨h1, rfl, h3⟩
theorem MOk.visM (m : MOk K B O H) {p : Addr} {o : HO} (hp : has O p = true) (e : H p = some o) : vis B.F [] H p = some o := by
  refine vis_some.mpr ⟨?_, rfl, e⟩
  cases q : B.F p with
  | false => rfl
  | true =>
    obtain ⟨u, e'⟩ := B.ok p q
    have := (m.base p u e').2
    rw [hp] at this; cases this
mutual
theorem Rp.frz {Hv Hv' : Hp} (e : Same Hv Hv') (hm : ∀ p m, (p, m) ∈ O → MRp K Hv Hv' p m) : ∀ {v : V} {d d' : D}, Frz O d d' → Rp K Hv v d → Rp K Hv' v d'
  | _, _, _, .refl d, r => r.mono e
  | _, _, _, .mlst h f, r => by
    cases r
    obtain ⟨vs, h1, h2⟩ := hm _ _ h
    exact .lst h1 (RpL.frz e hm f h2)
  | _, _, _, .mins h f, r => by
    cases r
    obtain ⟨dx, fv, h1, h2, h3⟩ := hm _ _ h
    exact .obj h1 h2 (RpL.frz e hm f h3)
  | _, _, _, .tup f, r => by
    cases r with
    | tup hq r => exact .tup (same_t e hq) (RpL.frz e hm f r)
  | _, _, _, .lst f, r => by
    cases r with
    | lst hq r => exact .lst (e _ _ hq) (RpL.frz e hm f r)
theorem RpL.frz {Hv Hv' : Hp} (e : Same Hv Hv') (hm : ∀ p m, (p, m) ∈ O → MRp K Hv Hv' p m) : ∀ {vs : List V} {ds ds' : List D}, FrzL O ds ds' → RpL K Hv vs ds → RpL K Hv' vs ds'
  | _, _, _, .refl ds, r => r.mono e
  | _, _, _, .cons f g, r => by
    cases r with
    | cons h r => exact .cons (Rp.frz e hm f h) (RpL.frz e hm g r)
end
theorem MOk.frz (m : MOk K B O H) : ∀ p mm, (p, mm) ∈ O → MRp K (vis B.F O H) (vis B.F [] H) p mm := fun p mm h =>
  (m.mem p mm h).mono (Same.refl _) fun o q => m.visM (has_mem.mpr ⟨_, h⟩) q
end
structure Bor (K : PySem.W.Frag) (F : Addr → Bool) (L O : Om) (H : Hp) : Prop where
  ok : ∀ a, F a = true → ∃ o, H a = some o
  lF : ∀ a m, (a, m) ∈ L → F a = true
  lent : ∀ a m, (a, m) ∈ L → MRp K (vis F O H) H a m
def spP (K : PySem.W.Frag) (Ar : Om → List D → D → Prop) : Sp := fun vs H Q _ => ∃ (F : Addr → Bool) (L : Om) (ds : List D) (d : D), Bor K F L [] H ∧ RpL K (vis F [] H) vs ds ∧ Ar L ds d ∧
  ∀ v H', Same H H' → Rp K (vis F [] H') v d → Q v H'
def spN (K : PySem.W.Frag) (Ar : Om → List D → List D → Prop) : Sp := fun vs H Q _ => ∃ (F : Addr → Bool) (L : Om) (ds es : List D), Bor K F L [] H ∧ RpL K (vis F [] H) vs ds ∧ Ar L ds es ∧
  ∀ p H' ws, H p = none → Same H H' → H' p = some (.lst ws) → RpL K (vis F [(p, .lst es)] H') ws es → Q (.ref p) H'
def spI (K : PySem.W.Frag) (C : Addr) (Ar : Om → List D → List Str → List D → Prop) : Sp := fun vs H Q _ => ∃ (F : Addr → Bool) (L : Om) (x dx : Addr) (us : List V) (ds : List D) (ns : List Str) (fs : List D), vs = .ref x :: us ∧ Bor K F L [(x, .ins C [] [])] H ∧ F x = false ∧
  H x = some (.ins C dx []) ∧ RpL K (vis F [(x, .ins C [] [])] H) us ds ∧ Ar L ds ns fs ∧
  ∀ H' dx' fv, (∀ a o, a ≠ x → H a = some o → H' a = some o) → H' x = some (.ins C dx' fv) → fv.map (·.1) = ns → RpL K (vis F [(x, .ins C [] [])] H') (fv.map (·.2)) fs → Q .non H'
structure Fok (P : Program) (w : World) (K : PySem.W.Frag) (mg : Str → Option Value) (base : Heap) (CX : CXT) (k : Nat) (f : Addr) (sp : Sp) : Prop where
  ex : ∃ fd ps, FnOk P w K mg base CX k f fd ps sp ∧ Binds K fd ps []
  kp : PySem.W.keepIn K (.ref f) = true
theorem Fok.raw {P : Program} {w : World} {K : PySem.W.Frag} {mg : Str → Option Value} {base : Heap} {CX : CXT} {k : Nat} {f : Addr} {sp : Sp} (F : Fok P w K mg base CX k f sp) : FnR P w K mg base CX k f sp := by
  obtain ⟨fd, ps, G, b⟩ := F.ex
  have h := G.raw b .nil
  exact h.imp fun vs H Q E q => by rw [List.append_nil]; exact q
structure Cal (P : Program) (w : World) (K : PySem.W.Frag) (mg : Str → Option Value) (base : Heap) (CX : CXT) (k : Nat) (x : Str) (sp : Sp) : Prop where
  ex : ∃ f, Fok P w K mg base CX k f sp ∧ mg x = some (.ref f)
theorem pe_callR {X : Cx} {CX : CXT} {k : Nat} {f : Addr} {sp : Sp} {E : XK} {x : Str} {e : Expr} {es : List Expr} {t : TA} {p pos : Pos} (F : FnR X.prog X.w X.K X.mg X.base CX k f sp) (hr : Room k X.A) (hg : Gl X x) (hm : X.mg x = some (.ref f)) (hk : PySem.W.keepIn X.K (.ref f) = true) (hx : Passes CX X E)
    (ha : PA X (e :: es) t) (hdb : (x == ("__debug__" : Str)) = false := by decide) (he : starEach (e :: es) X.env = (false, eval e X.env) :: starEach es X.env := by rfl) (hpl : (backTo pos (starEach es X.env)).any (·.1) = false := by rfl) :
    PE X (.Call (.Name x p) (e :: es) [] pos) (fun σ H Q => t σ H fun vs H1 => sp vs H1 Q E) := by
  refine ⟨fun pins s σ H Q I h => ?_⟩
  refine wpAny_Call_Name_kw (ld_glob I hg hm ?_ hdb)
  refine PySem.W.callWith_K (h₀ := X.base) I.ok.mod.kin hk (thn (ha.run pos pins s σ H _ I h) fun us s1 ⟨vs, H1, I1, r, q⟩ => ⟨I1.kIn, ?_⟩) he hpl
  exact wpAny_call (run_fnR F hr hx I1 r q)
section
variable {X : Cx} {B : Gd} {ρ ρ' : List (Option D)} {O O' O1 O2 : Om} {A : AE} {a b c e o : Expr} {es : List Expr} {d d1 d2 d3 : D} {ds : List D} {pos pos' p apos : Pos} {b1 b2 : Bool} {st : Stmt} {ss rest : List Stmt} {x : Str} {k : Nat} {C : Addr}
def frF (B : Gd) (O : Om) : Addr → Bool := fun a => B.F a || has O a
theorem vis_fr {H : Hp} : vis (frF B O) [] H = vis B.F O H := by
  funext a
  unfold vis frF
  show (if (B.F a || has O a || false) = true then none else H a) = _
  rw [Bool.or_false]
theorem vis_fr1 {H : Hp} {q : Addr} {m : M} : vis (frF B O) [(q, m)] H = vis B.F ((q, m) :: O) H := by
  funext a
  unfold vis frF
  rw [has_cons, has_cons]
  show (if (B.F a || has O a || (q == a || false)) = true then none else H a) = _
  rw [Bool.or_false, Bool.or_assoc, Bool.or_comm (has O a)]
theorem fr_ok {K : PySem.W.Frag} {H : Hp} (m : MOk K B O H) : ∀ a, frF B O a = true → ∃ o, H a = some o := fun a h => by
  unfold frF at h
  rw [Bool.or_eq_true] at h
  rcases h with h | h
  · obtain ⟨o, e⟩ := B.ok a h
    exact ⟨o, (m.base a o e).1⟩
  · obtain ⟨mm, e⟩ := has_mem.mp h
    exact (m.mem a mm e).some
theorem bor_of {K : PySem.W.Frag} {H : Hp} (m : MOk K B O H) : Bor K (frF B O) (B.L ++ O) [] H :=
  ⟨fr_ok m, fun a mm h => by
    unfold frF
    rcases List.mem_append.mp h with h | h
    · rw [B.lF a mm h]; rfl
    · rw [has_mem.mpr ⟨mm, h⟩, Bool.or_true], fun a mm h => by
    rw [vis_fr]
    exact (List.mem_append.mp h).elim (m.lent a mm) (m.mem a mm)⟩
theorem spP_use {K : PySem.W.Frag} {Ar : Om → List D → D → Prop} {H : Hp} {Q : VK} {E : XK} {vs : List V} (m : MOk K B O H) (r : RpL K (vis B.F O H) vs ds) (h : Ar (B.L ++ O) ds d) (k : ∀ v H', Same H H' → Rp K (vis B.F O H') v d → Q v H') : spP K Ar vs H Q E :=
  ⟨frF B O, B.L ++ O, ds, d, bor_of m, by rw [vis_fr]; exact r, h, fun v H' e r' => k v H' e (by rw [vis_fr] at r'; exact r')⟩
theorem spN_use {K : PySem.W.Frag} {Ar : Om → List D → List D → Prop} {H : Hp} {Q : VK} {E : XK} {vs : List V} {fs : List D} (m : MOk K B O H) (r : RpL K (vis B.F O H) vs ds) (h : Ar (B.L ++ O) ds fs) (k : ∀ p H' ws, H p = none → Same H H' → H' p = some (.lst ws) → RpL K (vis B.F ((p, .lst fs) :: O) H') ws fs → Q (.ref p) H') : spN K Ar vs H Q E :=
  ⟨frF B O, B.L ++ O, ds, fs, bor_of m, by rw [vis_fr]; exact r, h, fun p H' ws hp e hv r' => k p H' ws hp e hv (by rw [vis_fr1] at r'; exact r')⟩
theorem ev_call {Ar : Om → List D → D → Prop} (c : Cal X.prog X.w X.K X.mg X.base CX0 k x (spP X.K Ar)) (hr : Room k X.A) (hg : Gl X x) (ha : EA X B ρ O (e :: es) ds) (h : Ar (B.L ++ O) ds d) (hdb : (x == ("__debug__" : Str)) = false := by decide)
    (he : starEach (e :: es) X.env = (false, eval e X.env) :: starEach es X.env := by rfl) (hpl : (backTo pos (starEach es X.env)).any (·.1) = false := by rfl) : EV X B ρ O (.Call (.Name x p) (e :: es) [] pos) d := by
  obtain ⟨f, F, hm⟩ := c.ex
  exact pe_imp (pe_callR (E := E0) F.raw hr hg hm F.kp pass0 ha hdb he hpl) fun σ H Q ⟨st, k⟩ => ⟨st, fun vs H1 e1 r1 => spP_use (st.same e1).m r1 h fun v H2 e2 r2 => k v H2 (e1.trans e2) r2⟩
theorem eg_call {Ar : Om → List D → D → Prop} (c : Cal X.prog X.w X.K X.mg X.base CX0 k x (spP X.K Ar)) (hr : Room k X.A) (hg : Gl X x) (ha : EGA X B ρ O (e :: es) ds O') (h : Ar (B.L ++ O') ds d) (hdb : (x == ("__debug__" : Str)) = false := by decide)
    (he : starEach (e :: es) X.env = (false, eval e X.env) :: starEach es X.env := by rfl) (hpl : (backTo pos (starEach es X.env)).any (·.1) = false := by rfl) : EG X B ρ O (.Call (.Name x p) (e :: es) [] pos) d O' := by
  obtain ⟨f, F, hm⟩ := c.ex
  exact pe_imp (pe_callR (E := E0) F.raw hr hg hm F.kp pass0 ha hdb he hpl) fun σ H Q ⟨st, k⟩ => ⟨st, fun vs H1 s1 e1 r1 => spP_use s1.m r1 h fun v H2 e2 r2 => k v H2 (s1.same e2) (e1.trans (vis_same e2)) r2⟩
theorem en_call {Ar : Om → List D → List D → Prop} {fs : List D} (c : Cal X.prog X.w X.K X.mg X.base CX0 k x (spN X.K Ar)) (hr : Room k X.A) (hg : Gl X x) (ha : EA X B ρ O (e :: es) ds) (h : Ar (B.L ++ O) ds fs) (hdb : (x == ("__debug__" : Str)) = false := by decide)
    (he : starEach (e :: es) X.env = (false, eval e X.env) :: starEach es X.env := by rfl) (hpl : (backTo pos (starEach es X.env)).any (·.1) = false := by rfl) : EN X B ρ O (.Call (.Name x p) (e :: es) [] pos) fs := by
  obtain ⟨f, F, hm⟩ := c.ex
  exact pe_imp (pe_callR (E := E0) F.raw hr hg hm F.kp pass0 ha hdb he hpl) fun σ H Q ⟨st, k⟩ => ⟨st, fun vs H1 e1 r1 => spN_use (st.same e1).m r1 h fun p H2 ws hp e2 hv r2 => k p H2 ws (e1.free hp) (e1.trans e2) hv r2⟩
theorem look_at : ∀ {fv : List (Str × V)} {ns : List Str} {f : Str} {i : Nat} {v : V}, fv.map (·.1) = ns → ns.idxOf? f = some i → (fv.map (·.2))[i]? = some v → fv.lookup f = some v
  | [], _, _, _, _, rfl, h, _ => by simp at h
  | (g, u) :: fv, _, f, i, v, rfl, h, hv => by
    rw [List.map_cons, List.idxOf?_cons] at h
    by_cases e : g = f
    · subst e
      simp at h
      subst h
      simp at hv
      subst hv
      simp [List.lookup]
    · have e1 : (g == f) = false := beq_eq_false_iff_ne.mpr e
      have e2 : (f == g) = false := beq_eq_false_iff_ne.mpr (Ne.symm e)
      rw [e1] at h
      simp only [Bool.false_eq_true, if_false, Option.map_eq_some_iff] at h
      obtain ⟨j, hj, rfl⟩ := h
      rw [List.lookup_cons, e2]
      exact look_at rfl hj (by simpa using hv)
theorem look_no : ∀ {fv : List (Str × V)} {ns : List Str} {f : Str}, fv.map (·.1) = ns → ns.idxOf? f = none → fv.lookup f = none
  | [], _, _, rfl, _ => rfl
  | (g, u) :: fv, _, f, rfl, h => by
    rw [List.map_cons, List.idxOf?_cons] at h
    by_cases e : g = f
    · subst e; simp at h
    · have e1 : (g == f) = false := beq_eq_false_iff_ne.mpr e
      have e2 : (f == g) = false := beq_eq_false_iff_ne.mpr (Ne.symm e)
      rw [e1] at h
      simp only [Bool.false_eq_true, if_false, Option.map_eq_none_iff] at h
      rw [List.lookup_cons, e2]
      exact look_no rfl h
def Vo (O : Om) (d : D) (C : Addr) (ns : List Str) (ds : List D) : Prop := d = .obj C ns ds ∨ ∃ a, d = .rf a ∧ (a, M.ins C ns ds) ∈ O
theorem Vo.at {K : PySem.W.Frag} {H : Hp} {v : V} {ns : List Str} (w : Vo (B.L ++ O) d C ns ds) (m : MOk K B O H) (r : Rp K (vis B.F O H) v d) : ∃ a dx fv, v = .ref a ∧ H a = some (.ins C dx fv) ∧ fv.map (·.1) = ns ∧ RpL K (vis B.F O H) (fv.map (·.2)) ds := by
  rcases w with rfl | ⟨a, rfl, h⟩
  · cases r with
    | obj h1 h2 h3 => exact ⟨_, _, _, rfl, vis_le _ _ h1, h2, h3⟩
  · cases r
    obtain ⟨dx, fv, h1, h2, h3⟩ := (List.mem_append.mp h).elim (m.lent _ _) (m.mem _ _)
    exact ⟨_, dx, fv, rfl, h1, h2, h3⟩
theorem ev_fld {ns : List Str} {f : Str} {i : Nat} (he : EV X B ρ O e d1) (w : Vo (B.L ++ O) d1 C ns ds) (c : Cls X.K C) (n : NoAttr X.K C f) (hi : ns.idxOf? f = some i) (hd : ds[i]? = some d) (hb : attributeBase e f X.env (eval e X.env) = eval e X.env := by rfl) :
    EV X B ρ O (.Attribute e f pos) d :=
  pe_imp (pe_fld he hb) fun σ H Q ⟨st, k⟩ => ⟨st, fun v H1 e1 r1 => by
    obtain ⟨a, dx, fv, ea, h1, h2, h3⟩ := w.at (st.same e1).m r1
    obtain ⟨u, hu, ru⟩ := h3.get hd
    exact ⟨a, C, dx, fv, u, ea, h1, c, n, look_at h2 hi hu, k u H1 e1 ru⟩⟩
theorem ev_cval {f : Str} {mc : Value} {v : V} {u : Value} (he : EV X B ρ O e (.rf C)) (rd : ClX.CRead X.K C mc) (cv : ClX.CVal X.K C mc f v u) (rp : ∀ H, Rp X.K H v d) (hb : attributeBase e f X.env (eval e X.env) = eval e X.env := by rfl) : EV X B ρ O (.Attribute e f pos) d :=
  pe_imp (ClX.pe_cval he hb) fun σ H Q ⟨st, k⟩ => ⟨st, fun v H1 e1 r1 => by
    cases r1
    exact ⟨C, mc, _, _, rfl, rd, cv, k _ H1 e1 (rp _)⟩⟩
theorem put_new : ∀ {fv : List (Str × V)} {f : Str} {v : V}, (fv.map (·.1)).idxOf? f = none → putF f v fv = fv ++ [(f, v)]
  | [], _, _, _ => rfl
  | (g, u) :: fv, f, v, h => by
    rw [List.map_cons, List.idxOf?_cons] at h
    by_cases e : g = f
    · subst e; simp at h
    · have e1 : (g == f) = false := beq_eq_false_iff_ne.mpr e
      rw [e1] at h
      simp only [Bool.false_eq_true, if_false, Option.map_eq_none_iff] at h
      show (if g = f then (g, v) :: fv else (g, u) :: putF f v fv) = _
      rw [if_neg e, put_new h]
      rfl
theorem put_at : ∀ {fv : List (Str × V)} {f : Str} {v : V} {i : Nat}, (fv.map (·.1)).idxOf? f = some i → (putF f v fv).map (·.1) = fv.map (·.1) ∧ (putF f v fv).map (·.2) = (fv.map (·.2)).set i v
  | [], _, _, _, h => by simp at h
  | (g, u) :: fv, f, v, i, h => by
    rw [List.map_cons, List.idxOf?_cons] at h
    by_cases e : g = f
    · subst e
      simp at h
      subst h
      have : putF g v ((g, u) :: fv) = (g, v) :: fv := by
        show (if g = g then (g, v) :: fv else (g, u) :: putF g v fv) = _
        rw [if_pos rfl]
      rw [this]
      exact ⟨rfl, rfl⟩
    · have e1 : (g == f) = false := beq_eq_false_iff_ne.mpr e
      rw [e1] at h
      simp only [Bool.false_eq_true, if_false, Option.map_eq_some_iff] at h
      obtain ⟨j, hj, rfl⟩ := h
      have : putF f v ((g, u) :: fv) = (g, u) :: putF f v fv := by
        show (if g = f then (g, v) :: fv else (g, u) :: putF f v fv) = _
        rw [if_neg e]
      obtain ⟨h1, h2⟩ := put_at (v := v) hj
      rw [this, List.map_cons, List.map_cons, List.map_cons, List.map_cons, h1, h2]
      exact ⟨rfl, rfl⟩
theorem j_fldNew {q : Addr} {ns : List Str} {f : Str} (ho : EV X B ρ O o (.rf q)) (he : EV X B ρ O e d) (c : Cls X.K C) (n : NoAttr X.K C f) (hm : Put O q (.ins C ns ds) (.ins C (ns ++ [f]) (ds ++ [d])) O') (hi : ns.idxOf? f = none) (hl : ns.length < 1000)
    (h : A.nx ρ O') (hs : swapsWith e (some (.Attribute o f pos')) pos.line X.env = pure false) : J1 X B (.Assign [.Attribute o f pos'] e pos) ρ O A :=
  ps_imp (ps_fld ho he hs) fun Dn σ H ⟨st, pp⟩ => ⟨st, fun v H1 e1 r1 => ⟨st.same e1, fun u H2 e2 r2 => by
    cases r2
    have s2 := (st.same e1).same e2
    obtain ⟨dx, fv, h1, h2, h3⟩ := s2.m.mem _ _ hm.mem
    have hp : putF f v fv = fv ++ [(f, v)] := put_new (by rw [h2]; exact hi)
    obtain ⟨s3, ev⟩ := s2.putP (o := .ins C dx (putF f v fv)) hm ⟨dx, _, upd_same, by rw [hp, List.map_append, h2]; rfl, by
      rw [hp, List.map_append]
      exact h3.append (.cons (r1.mono (vis_same e2)) .nil)⟩
    refine ⟨q, C, dx, fv, rfl, h1, c, n, by rw [← List.length_map (f := (·.1)) (as := fv), h2]; exact hl, pp.nx ρ _ σ _ h s3 ?_⟩
    rw [ev]
    exact vis_same (e1.trans e2)⟩⟩
theorem j_fldSet {q : Addr} {ns : List Str} {f : Str} {i : Nat} (ho : EV X B ρ O o (.rf q)) (he : EV X B ρ O e d) (c : Cls X.K C) (n : NoAttr X.K C f) (hm : Put O q (.ins C ns ds) (.ins C ns (ds.set i d)) O') (hi : ns.idxOf? f = some i) (hl : ns.length < 1000)
    (h : A.nx ρ O') (hs : swapsWith e (some (.Attribute o f pos')) pos.line X.env = pure false) : J1 X B (.Assign [.Attribute o f pos'] e pos) ρ O A :=
  ps_imp (ps_fld ho he hs) fun Dn σ H ⟨st, pp⟩ => ⟨st, fun v H1 e1 r1 => ⟨st.same e1, fun u H2 e2 r2 => by
    cases r2
    have s2 := (st.same e1).same e2
    obtain ⟨dx, fv, h1, h2, h3⟩ := s2.m.mem _ _ hm.mem
    obtain ⟨g1, g2⟩ := put_at (fv := fv) (v := v) (f := f) (i := i) (by rw [h2]; exact hi)
    obtain ⟨s3, ev⟩ := s2.putP (o := .ins C dx (putF f v fv)) hm ⟨dx, _, upd_same, by rw [g1, h2], by
      rw [g2]
      exact h3.set (r1.mono (vis_same e2)) i⟩
    refine ⟨q, C, dx, fv, rfl, h1, c, n, by rw [← List.length_map (f := (·.1)) (as := fv), h2]; exact hl, pp.nx ρ _ σ _ h s3 ?_⟩
    rw [ev]
    exact vis_same (e1.trans e2)⟩⟩
theorem ev_meth {Ar : Om → List D → D → Prop} {ns : List Str} {m : Str} {f : Addr} (he : EV X B ρ O o (.obj C ns ds)) (c : Cls X.K C) (hm : Meth X.K C m f) (F : Fok X.prog X.w X.K X.mg X.base CX0 k f (spP X.K Ar)) (hr : Room k X.A) (ha : EA X B ρ O (e :: es) es') (hn : ns.idxOf? m = none)
    (h : Ar (B.L ++ O) (.obj C ns ds :: es') d) (pl : Sem Bool)
    (hst : starEach (e :: es) X.env = (false, eval e X.env) :: starEach es X.env := by rfl) (hpl : (backTo pos (starEach es X.env)).any (·.1) = false := by rfl)
    (ht : eval (.Call (.Attribute o m apos) (e :: es) [] pos) X.env = (do
      let ov ← eval o X.env
      standAt apos.atName
      let (f, first) ← holding [ov] (getMethod ov m pl)
      callWith pos f first (backTo pos (starEach (e :: es) X.env)) (backToKw pos (keywordEach [] X.env))) := by rfl) :
    EV X B ρ O (.Call (.Attribute o m apos) (e :: es) [] pos) d :=
  pe_imp (pe_methR (E := E0) (pl := pl) he c hm F.raw hr pass0 ha hst hpl ht) fun σ H Q ⟨st, k⟩ => ⟨st, fun v H1 e1 r1 => by
    cases r1 with
    | obj h1 h2 h3 => exact ⟨_, _, _, rfl, vis_le _ _ h1, look_no h2 hn, st.same e1, fun vs H2 e2 r2 => spP_use ((st.same e1).same e2).m (.cons ((Rp.obj h1 h2 h3).mono (vis_same e2)) r2) h fun w H3 e3 r3 => k w H3 ((e1.trans e2).trans e3) r3⟩⟩
theorem ev_cmeth {Ar : Om → List D → D → Prop} {m : Str} {mc : Value} {pp g : Addr} {es' : List D} (he : EV X B ρ O o (.rf C)) (rd : ClX.CRead X.K C mc) (c : ClX.CMet X.K C mc m pp g) (F : Fok X.prog X.w X.K X.mg X.base CX0 k g (spP X.K Ar)) (hr : Room k X.A) (ha : EA X B ρ O (e :: es) es')
    (h : Ar (B.L ++ O) (.rf C :: es') d) (pl : Sem Bool)
    (hst : starEach (e :: es) X.env = (false, eval e X.env) :: starEach es X.env := by rfl) (hpl : (backTo pos (starEach es X.env)).any (·.1) = false := by rfl)
    (ht : eval (.Call (.Attribute o m apos) (e :: es) [] pos) X.env = (do
      let ov ← eval o X.env
      standAt apos.atName
      let (f, first) ← holding [ov] (getMethod ov m pl)
      callWith pos f first (backTo pos (starEach (e :: es) X.env)) (backToKw pos (keywordEach [] X.env))) := by rfl) :
    EV X B ρ O (.Call (.Attribute o m apos) (e :: es) [] pos) d :=
  pe_imp (ClX.pe_cmeth (E := E0) (pl := pl) he rd c F.raw hr pass0 ha hst hpl ht) fun σ H Q ⟨st, k⟩ => ⟨st, fun v H1 e1 r1 => by
    cases r1
    exact ⟨rfl, st.same e1, fun vs H2 e2 r2 => spP_use ((st.same e1).same e2).m (.cons (.rf C) r2) h fun w H3 e3 r3 => k w H3 ((e1.trans e2).trans e3) r3⟩⟩
theorem made_use {K : PySem.W.Frag} {Ar : Om → List D → List Str → List D → Prop} {H : Hp} {Q : VK} {E : XK} {vs : List V} {ns : List Str} {fs : List D} (m : MOk K B O H) (r : RpL K (vis B.F O H) vs ds) (h : Ar (B.L ++ O) ds ns fs)
    (k : ∀ v H', Same H H' → Rp K (vis B.F O H') v (.obj C ns fs) → Q v H') (x dx : Addr) (hx : H x = none) (hdx : H dx = none) (ne : dx ≠ x) :
    spI K C Ar (V.ref x :: vs) (upd (upd H dx (.own x)) x (.ins C dx [])) (fun v H2 => v = .non ∧ Q (.ref x) H2) E := by
  have s1 : Same H (upd (upd H dx (.own x)) x (.ins C dx [])) := fun b o e => by
    rw [upd_ne (ne_of_none e hx), upd_ne (ne_of_none e hdx)]
    exact e
  have fx : frF B O x = false := by
    unfold frF
    rw [m.newF hx, m.newO hx]; rfl
  have v1 : Same (vis B.F O H) (vis (frF B O) [(x, .ins C [] [])] (upd (upd H dx (.own x)) x (.ins C dx []))) := fun a o q => by
    obtain ⟨h1, h2, h3⟩ := vis_some.mp q
    have na : a ≠ x := ne_of_none h3 hx
    refine vis_some.mpr ⟨by unfold frF; rw [h1, h2]; rfl, ?_, s1 _ _ h3⟩
    rw [has_cons]
    show (x == a || false) = false
    rw [Bool.or_false]
    exact beq_eq_false_iff_ne.mpr (Ne.symm na)
  have bo := bor_of m
  refine ⟨frF B O, B.L ++ O, x, dx, vs, ds, ns, fs, rfl, ⟨fun a h => let ⟨o, e⟩ := fr_ok m a h; ⟨o, s1 _ _ e⟩, bo.lF, fun a mm hm => (show MRp K (vis B.F O H) H a mm by rw [← vis_fr]; exact bo.lent a mm hm).mono v1 fun o q => s1 _ _ q⟩, fx, upd_same, r.mono v1, h, fun H' dx' fv hk hx' hns r' => ⟨rfl, ?_⟩⟩
  · have s2 : Same H H' := fun b o e => hk b o (ne_of_none e hx) (s1 b o e)
    refine k _ H' s2 (.obj (vis_some.mpr ⟨m.newF hx, m.newO hx, hx'⟩) hns (r'.mono fun a o q => ?_))
    obtain ⟨h1, h2, h3⟩ := vis_some.mp q
    unfold frF at h1
    rw [Bool.or_eq_false_iff] at h1
    exact vis_some.mpr ⟨h1.1, h1.2, h3⟩
end
section
variable {P : Program} {w : World} {K : PySem.W.Frag} {mg : Str → Option Value} {base : Heap}
def startD (N : List Str) (ds : List D) : List (Option D) := ds.map some ++ List.replicate (N.length - ds.length) none
theorem start_env {Hv : Hp} {N : List Str} {vs : List V} {ds : List D} (r : RpL K Hv vs ds) : EnvR K Hv (L2.start N vs) (startD N ds) := by
  have hl := r.length
  refine ⟨by simp [L2.start, startD, hl], fun i d e => ?_⟩
  unfold startD at e
  unfold L2.start
  by_cases hi : i < ds.length
  · rw [List.getElem?_append_left (by simpa using hi)] at e
    rw [List.getElem?_append_left (by rw [List.length_map, hl]; exact hi)]
    rw [List.getElem?_map] at e
    obtain ⟨d', h1, h2⟩ := Option.map_eq_some_iff.mp e
    cases h2
    obtain ⟨v, hv, rv⟩ := r.get h1
    exact ⟨v, by rw [List.getElem?_map, hv]; rfl, rv⟩
  · rw [List.getElem?_append_right (by simpa using hi)] at e
    obtain ⟨_, h⟩ := List.mem_replicate.mp (List.mem_of_getElem? e)
    cases h
theorem fn_new {Ar : Om → List D → List D → Prop} {x qual : Str} {st : Stmt} {f : Addr} {fd : FuncData} {N ps : List Str} {k : Nat} (F : Fun K x qual st f fd) (S : FnScope N ps (defScope st)) (len : ∀ L ds d, Ar L ds d → ds.length = ps.length)
    (h : ∀ (cdv : Value) (A : Around) (outer : List Env) (s : Shared) (H : Hp) (E : XK) (B : Gd) (ds : List D) (es : List D), Room k (A.deeper (envOfC qual (defScope st) s.heap.objs.size f cdv)) → Ar B.L ds es →
      J (cxOf CX0 P w K mg base N qual (defScope st) f cdv A outer s H E).nox B (defBody st) (startD N ds) [] { nx := fun _ _ => False, rt := fun d' O' => ∃ p, d' = .rf p ∧ O' = [(p, .lst es)] }) : FnOk P w K mg base CX0 (k + 1) f fd ps (spN K Ar) := by
  refine F.ok S (fun vs H Q E q => ?_) (fun cdv A outer s H vs Q E hr q => ?_)
  · obtain ⟨F', L, ds, d, _, r, ha, _⟩ := q
    rw [r.length]; exact len L ds d ha
  · obtain ⟨F', L, ds, es, bo, r, ha, kk⟩ := q
    refine ⟨_, h cdv A outer s H E ⟨F', H, fun c d _ H => E c d H, L, bo.ok, bo.lF⟩ ds es hr ha, ⟨⟨fun a o e => ⟨e, rfl⟩, (fun a m hm => nomatch hm), (by simp), bo.lent⟩, start_env r⟩, fun _ _ _ _ z => z.elim, ?_, fun _ _ _ _ z => z.elim, fun _ _ _ _ z => z.elim, fun _ _ _ _ _ _ _ _ _ z => z.elim⟩
    rintro d' O' v H' ⟨p, rfl, rfl⟩ m r'
    cases r'
    obtain ⟨ws, h1, h2⟩ := m.mem p _ List.mem_cons_self
    refine kk p H' ws ?_ (fun a o q => (m.base a o q).1) h1 h2
    cases q : H p with
    | none => rfl
    | some o =>
      have := (m.base p o q).2
      simp [has] at this
theorem fn_init {C : Addr} {Ar : Om → List D → List Str → List D → Prop} {x qual : Str} {st : Stmt} {f : Addr} {fd : FuncData} {N ps : List Str} {k : Nat} (F : Fun K x qual st f fd) (S : FnScope N ps (defScope st)) (len : ∀ L ds ns fs, Ar L ds ns fs → ds.length + 1 = ps.length)
    (h : ∀ (cdv : Value) (A : Around) (outer : List Env) (s : Shared) (H : Hp) (E : XK) (B : Gd) (x : Addr) (ds : List D) (ns : List Str) (fs : List D), Room k (A.deeper (envOfC qual (defScope st) s.heap.objs.size f cdv)) → Ar B.L ds ns fs →
      J (cxOf CX0 P w K mg base N qual (defScope st) f cdv A outer s H E).nox B (defBody st) (startD N (.rf x :: ds)) [(x, .ins C [] [])] { nx := fun _ O' => ∃ fs' O1, O' = O1 ++ [(x, .ins C ns fs')] ∧ FrzL O1 fs' fs, rt := fun _ _ => False }) : FnOk P w K mg base CX0 (k + 1) f fd ps (spI K C Ar) := by
  refine F.ok S (fun vs H Q E q => ?_) (fun cdv A outer s H vs Q E hr q => ?_)
  · obtain ⟨F', L, x, dx, us, ds, ns, fs, rfl, _, _, _, r, ha, _⟩ := q
    rw [List.length_cons, r.length]; exact len L ds ns fs ha
  · obtain ⟨F', L, x, dx, us, ds, ns, fs, rfl, bo, fx, hx, r, ha, kk⟩ := q
    let Hb : Hp := fun a => if a = x then none else H a
    have hbx : ∀ a o, Hb a = some o → a ≠ x ∧ H a = some o := fun a o e => by
      have e' : (if a = x then none else H a) = some o := e
      by_cases q : a = x
      · rw [if_pos q] at e'; cases e'
      · rw [if_neg q] at e'; exact ⟨q, e'⟩
    have hF' : ∀ a, F' a = true → ∃ o, Hb a = some o := fun a h => by
      obtain ⟨o, e⟩ := bo.ok a h
      have ne : a ≠ x := fun z => by rw [z, fx] at h; cases h
      exact ⟨o, by show (if a = x then none else H a) = _; rw [if_neg ne]; exact e⟩
    refine ⟨_, h cdv A outer s H E ⟨F', Hb, fun c d _ H => E c d H, L, hF', bo.lF⟩ x ds ns fs hr ha, ⟨⟨fun a o e => ?_, fun a m hm => ?_, by simp, bo.lent⟩, start_env (.cons (.rf x) r)⟩, ?_, fun _ _ _ _ z => z.elim, fun _ _ _ _ z => z.elim, fun _ _ _ _ z => z.elim, fun _ _ _ _ _ _ _ _ _ z => z.elim⟩
    · obtain ⟨n, e⟩ := hbx a o e
      refine ⟨e, ?_⟩
      show (x == a || false) = false
      rw [Bool.or_false]
      exact beq_eq_false_iff_ne.mpr (Ne.symm n)
    · cases List.mem_singleton.mp hm
      exact ⟨dx, [], hx, rfl, .nil⟩
    · rintro ρ O' σ H' ⟨fs', O1, rfl, fz⟩ s' _
      obtain ⟨dx', fv, h1, h2, h3⟩ := s'.m.mem x _ (List.mem_append_right _ List.mem_cons_self)
      have nd := s'.m.nd
      rw [List.map_append, List.nodup_append] at nd
      have nx : ∀ p m, (p, m) ∈ O1 → p ≠ x := fun p m hp => nd.2.2 p (List.mem_map_of_mem (f := (·.1)) hp) x (by simp)
      have e1 : Same (vis F' (O1 ++ [(x, .ins C ns fs')]) H') (vis F' [(x, .ins C [] [])] H') := fun a o q => by
        obtain ⟨q1, q2, q3⟩ := vis_some.mp q
        refine vis_some.mpr ⟨q1, ?_, q3⟩
        unfold has at q2 ⊢
        rw [List.any_append, Bool.or_eq_false_iff] at q2
        exact q2.2
      refine kk H' dx' fv (fun a o na q => (s'.m.base a o (by show (if a = x then none else H a) = _; rw [if_neg na]; exact q)).1) h1 h2 (RpL.frz e1 (fun p m hp => ?_) fz h3)
      refine (s'.m.mem p m (List.mem_append_left _ hp)).mono (Same.refl _) fun o q => ?_
      have q' := s'.m.visM (has_mem.mpr ⟨m, List.mem_append_left _ hp⟩) q
      obtain ⟨g1, _, g3⟩ := vis_some.mp q'
      refine vis_some.mpr ⟨g1, ?_, g3⟩
      show (x == p || false) = false
      rw [Bool.or_false]
      exact beq_eq_false_iff_ne.mpr (Ne.symm (nx p m hp))
end
end DL
namespace DL
open PySem PySem.Spec PyProof.Rows L2
section
variable {X : Cx} {B : Gd} {ρ ρ1 : List (Option D)} {O O1 : Om} {A : AE} {st : Stmt} {rest : List Stmt}
theorem wk_refl : Wk ρ ρ := ⟨rfl, fun _ _ h => h⟩
theorem wk_nil : Wk [] [] := wk_refl
theorem wk_none {r r' : List (Option D)} {d : Option D} (h : Wk r r') : Wk (none :: r) (d :: r') := ⟨by simp [h.1], fun i e q => by
  cases i with
  | zero => simp at q
  | succ i => simpa using h.2 i e (by simpa using q)⟩
theorem wk_some {r r' : List (Option D)} {d d' : D} (e : d = d') (h : Wk r r') : Wk (some d :: r) (some d' :: r') := ⟨by simp [h.1], fun i e' q => by
  cases i with
  | zero => subst e; simpa using q
  | succ i => simpa using h.2 i e' (by simpa using q)⟩
end
end DL

set_option Elab.async false
set_option linter.all false
set_option maxRecDepth 100000
set_option maxHeartbeats 2000000
namespace DL
open PySem PySem.Spec PyProof.Rows L2
section
variable {X : Cx} {B : Gd} {ρ ρ' : List (Option D)} {O O' O1 O2 : Om} {A : AE} {a b c e o : Expr} {es : List Expr} {d d1 d2 d3 : D} {ds : List D} {pos pos' p apos : Pos} {b1 b2 : Bool} {st : Stmt} {ss rest : List Stmt} {x : Str} {k : Nat} {C : Addr}
theorem nm (i : Nat) (hd : ρ[i]? = some (some d)) (hN : X.N[i]? = some x := by rfl) (hv : Vis X.env.scope x := by first | exact Or.inl rfl | exact Or.inr (Or.inl rfl) | exact Or.inr (Or.inr rfl)) (h1 : (x == ("__debug__" : Str)) = false := by decide) (h2 : (x == ("__classdict__" : Str)) = false := by decide) :
    EV X B ρ O (.Name x pos) d := ev_name hN hv hd h1 h2
theorem sset (i : Nat) (nd : X.N.Nodup) (he : EV X B ρ O e d) (h : A.nx (ρ.set i (some d)) O) (hi : X.N[i]? = some x := by rfl) (hx : Loc X.env.scope x := by first | exact .inl rfl | exact .inr rfl) (hs : swapsWith e (some (.Name x pos')) pos.line X.env = pure false := by rfl)
    (hf : X.fn x = true ∨ X.env.scope.names.lookup x = some .local := by first | exact .inr rfl | exact .inl rfl) : J1 X B (.Assign [.Name x pos'] e pos) ρ O A := j_set nd hi hx he hs hf h
theorem ssetG (i : Nat) (nd : X.N.Nodup) (he : EG X B ρ O e d O') (h : A.nx (ρ.set i (some d)) O') (hi : X.N[i]? = some x := by rfl) (hx : Loc X.env.scope x := by first | exact .inl rfl | exact .inr rfl) (hs : swapsWith e (some (.Name x pos')) pos.line X.env = pure false := by rfl)
    (hf : X.fn x = true ∨ X.env.scope.names.lookup x = some .local := by first | exact .inr rfl | exact .inl rfl) : J1 X B (.Assign [.Name x pos'] e pos) ρ O A := j_setG nd hi hx he hs hf h
theorem ssetN (i : Nat) (nd : X.N.Nodup) (he : EN X B ρ O e ds) (h : ∀ p, has O p = false → A.nx (ρ.set i (some (.rf p))) ((p, .lst ds) :: O)) (hi : X.N[i]? = some x := by rfl) (hx : Loc X.env.scope x := by first | exact .inl rfl | exact .inr rfl) (hs : swapsWith e (some (.Name x pos')) pos.line X.env = pure false := by rfl)
    (hf : X.fn x = true ∨ X.env.scope.names.lookup x = some .local := by first | exact .inr rfl | exact .inl rfl) : J1 X B (.Assign [.Name x pos'] e pos) ρ O A := j_setN nd hi hx he hs hf h
theorem bnm (i : Nat) (nd : X.N.Nodup) (hi : X.N[i]? = some x := by rfl) (hx : Loc X.env.scope x := by first | exact .inl rfl | exact .inr rfl) (hf : X.fn x = true ∨ X.env.scope.names.lookup x = some .local := by first | exact .inr rfl | exact .inl rfl) : EB X (.Name x pos) (gName i) [i] (bName i) := eb_name nd hi hx hf
theorem ev_conv {d' : D} (h : EV X B ρ O e d) (q : d = d') : EV X B ρ O e d' := q ▸ h
theorem en_conv {es' : List D} (h : EN X B ρ O e ds) (q : ds = es') : EN X B ρ O e es' := q ▸ h
theorem et_conv (h : ET X B ρ O e b1) (q : b1 = b2) : ET X B ρ O e b2 := q ▸ h
theorem rd_notinC {K : PySem.W.Frag} {c : Nat} {z : Str} : RD K B O (fun x y H Q => ∃ (c : Nat) (z : Str), x = .str ⟨#[c]⟩ ∧ y = .str z ∧ Q (.bl (!decide (c ∈ z.cps.toList))) H) (.str ⟨#[c]⟩) (.str z) (.bl (!decide (c ∈ z.cps.toList))) := fun x y H Q m r1 r2 k => by
  cases r1; cases r2
  exact ⟨c, z, rfl, rfl, k _ H (Same.refl H) (.bl _)⟩
def isNonD : D → Bool
  | .non => true
  | _ => false
theorem rd_isN {K : PySem.W.Frag} : RD K B O (fun x y H Q => y = .non ∧ Q (.bl (decide (x = .non))) H) d1 .non (.bl (isNonD d1)) := fun x y H Q m r1 r2 k => by
  cases r2
  refine ⟨rfl, ?_⟩
  have : decide (x = V.non) = isNonD d1 := by cases r1 <;> simp [isNonD]
  rw [this]
  exact k _ H (Same.refl H) (.bl _)
theorem et_lst (h : EV X B ρ O e d) (w : Vw (B.L ++ O) d ds) (he : ∀ whole, isTrue e X.env whole = (do let v ← whole; standAt e.pos; holding [v] (truthy v)) := by intro _; rfl) : ET X B ρ O e (!ds.isEmpty) :=
  pt_imp (pt_truth h he) fun σ H Q ⟨st, k⟩ => ⟨st, fun v H1 e1 r1 => by
    obtain ⟨a, vs, rfl, q, rl⟩ := w.sql (st.same e1).m r1
    refine ⟨!vs.isEmpty, .inl ⟨vs, q, rfl⟩, ?_⟩
    have : vs.isEmpty = ds.isEmpty := by
      have := rl.length
      cases vs <;> cases ds <;> simp_all
    rw [this]
    exact k H1 e1⟩
theorem en_rev {k : Nat} {p1 p2 p3 : Pos} (he : EV X B ρ O e d) (w : Vw (B.L ++ O) d ds) : EN X B ρ O (.Subscript e (.Slice none none (some (.UnaryOp .USub (.Constant (.int 1) k p1) p2)) p3) pos) ds.reverse :=
  pe_imp (pe_revL he) fun σ H Q ⟨st, kk⟩ => ⟨st, fun v H1 e1 r1 => by
    obtain ⟨a, vs, rfl, q, rl⟩ := w.sql (st.same e1).m r1
    exact ⟨a, vs, rfl, q, new_same (st.same e1).m rl.reverse fun p H' ws hp e2 hv r => kk p H' ws (e1.free hp) (e1.trans e2) hv r⟩⟩
theorem atI_map {α : Type} {xs : List α} {f : α → D} (df : α) {i : Int} (h0 : 0 ≤ i) (h : i < (xs.length : Int)) : atI (xs.map f) i = some (f (xs.getD i.toNat df)) := by
  obtain ⟨j, rfl⟩ : ∃ j : Nat, i = (j : Int) := ⟨i.toNat, by omega⟩
  have hj : j < xs.length := by omega
  exact atI_nat (by simp [hj])
theorem atM {α : Type} {xs : List α} {f : α → D} (df : α) {i : Int} (h0 : 0 ≤ i) (h : i < (xs.length : Int)) : atI (xs.map fun x => f x) i = some (f (xs.getD i.toNat df)) := atI_map df h0 h
theorem atC {xs : List Nat} {i : Int} (h0 : 0 ≤ i) (h : i < (xs.length : Int)) : atI xs i = some (xs.getD i.toNat 0) := by
  obtain ⟨j, rfl⟩ : ∃ j : Nat, i = (j : Int) := ⟨i.toNat, by omega⟩
  have hj : j < xs.length := by omega
  exact atI_nat (by simp [hj])
structure KDi (K : PySem.W.Frag) (w : World) (a : Addr) (f : Str → Option D) : Prop where
  ex : ∃ es n, KDict K w a es n
  at_ : ∀ z : Str, ∃ r, PySem.W.nsIn K a z = some r ∧ (match f z, r with | none, none => True | some dv, some u => ∃ v, RelV v u ∧ ∀ H, Rp K H v dv | _, _ => False)
theorem et_inD {f : Str → Option D} {q : Addr} {z : Str} (D : KDi X.K X.w q f) (ha : EV X B ρ O a (.str z)) (hb : EV X B ρ O b (.rf q)) (hm : behindInMarks .In b = false) : ET X B ρ O (.Compare a [.In] [b] pos) (f z).isSome := by
  obtain ⟨es, n, kd⟩ := D.ex
  obtain ⟨r, h1, h2⟩ := D.at_ z
  have e : r.isSome = (f z).isSome := by cases hf : f z <;> cases r <;> simp_all
  refine et_cmp (op_in_kd kd) (fun x y H Q m r1 r2 k => ?_) ha hb hm
  cases r1; cases r2
  exact ⟨z, r, rfl, rfl, h1, by rw [e]; exact k _ H (Same.refl H) (.bl _)⟩
theorem ev_itemD {f : Str → Option D} {q : Addr} {z : Str} (D : KDi X.K X.w q f) (ha : EV X B ρ O a (.rf q)) (hb : EV X B ρ O b (.str z)) (h : f z = some d) (hs : PlainIx b := by intro _ _; rfl) : EV X B ρ O (.Subscript a b pos) d := by
  obtain ⟨es, n, kd⟩ := D.ex
  obtain ⟨r, h1, h2⟩ := D.at_ z
  rw [h] at h2
  cases r with
  | none => exact h2.elim
  | some u =>
    obtain ⟨v, rv, rp⟩ := h2
    refine pe_imp (pe_ix ix_kdict ha hb hs) (two fun x y H Q m r1 r2 k => ?_)
    cases r1; cases r2
    exact ⟨q, z, v, rfl, rfl, ⟨es, n, u, kd.at_, kd.lit, h1, rv⟩, k v H (Same.refl H) (rp _)⟩
theorem pe_kget2 {K0 : Nat} {q : Addr} {es0 : Array DictEntry} {n0 : Nat} {to ty tx : TE} {e1 e2 : Expr} (kd : KDict X.K X.w q es0 n0) (ho : PE X o to) (he : PE X e1 ty) (hf : PE X e2 tx) (m : M2 X o "get" apos e1 e2 pos) :
    PE X (.Call (.Attribute o "get" apos) [e1, e2] [] pos) (fun σ H Q => to σ H fun x H1 => x = .ref q ∧ ty σ H1 fun y H2 => tx σ H2 fun z H3 => ∃ (k : Str) (r : Option Value), y = .str k ∧ PySem.W.nsIn X.K q k = some r ∧ ((r = none → Q z H3) ∧ ∀ u, r = some u → ∃ v, RelV v u ∧ Q v H3)) := by
  refine ⟨fun pins s σ H Q I h => ?_⟩
  refine wpAny_Call_method m.base m.few m.line PySem.F.plainAttrs_dict PySem.F.slot_dict_get PySem.F.type_dict_get (thn (ho.run pins s σ H _ I h) fun u s1 ⟨x, H1, I1, rx, ex, q1⟩ => ?_)
  subst ex
  obtain rfl : u = Value.ref q := rx
  have hq := I1.kIn _ _ kd.at_
  refine ⟨⟨_, hq, rfl⟩, fun b e => by cases e; exact ⟨_, hq, rfl⟩, ?_⟩
  rw [m.trees]
  refine Calls.callWith_builtin rfl (Calls.evalArgs_plain (Calls.spliced_cons (thn (he.run pins s1 σ H1 _ I1 q1) fun iv s2 ⟨y, H2, I2, ry, q2⟩ =>
    Calls.spliced_cons (thn (hf.run pins s2 σ H2 _ I2 q2) fun fv s3 ⟨z, H3, I3, rz, k, r, ey, e, q3⟩ => Calls.spliced_nil ?_))))
  subst ey
  obtain ⟨t, rfl⟩ := ry
  have hm := PySem.W.mapOf_K (prog := X.prog) (w := X.w) I3.kIn kd.at_ kd.lit
  refine call_meetsIn PySem.F.slot_dict_get hm.typeIs PySem.F.entry_dict_get (PySem.F.args_dict_get_3 _ _ _) (meets_dict_get_default (strKind X.prog X.w) q (strKind_is X.prog X.w k t) kd.low fv) ⟨_, hm, ?_⟩
  have hfk := PySem.W.find_K kd.at_ e
  show EP X pins σ Q (((findBy Value.isStrOf es0 k)).getD fv) _
  rw [hfk]
  cases r with
  | none => exact ⟨z, H3, I3.tok _, rz, q3.1 rfl⟩
  | some u =>
    obtain ⟨v, rv, qv⟩ := q3.2 u rfl
    exact ⟨v, H3, I3.tok _, rv, qv⟩
theorem ev_getD {f : Str → Option D} {q : Addr} {z : Str} {e1 e2 : Expr} (D : KDi X.K X.w q f) (ho : EV X B ρ O o (.rf q)) (he : EV X B ρ O e1 (.str z)) (hf : EV X B ρ O e2 d1) (m : M2 X o "get" apos e1 e2 pos := by exact ⟨rfl, rfl, rfl, rfl⟩) : EV X B ρ O (.Call (.Attribute o "get" apos) [e1, e2] [] pos) ((f z).getD d1) := by
  obtain ⟨es, n, kd⟩ := D.ex
  obtain ⟨r, h1, h2⟩ := D.at_ z
  refine pe_imp (pe_kget2 (K0 := 0) kd ho he hf m) fun σ H Q ⟨st, k⟩ => ⟨st, fun v H1 e1 r1 => ?_⟩
  cases r1
  refine ⟨rfl, st.same e1, fun v2 H2 e2 r2 => ?_⟩
  cases r2
  refine ⟨(st.same e1).same e2, fun v3 H3 e3 r3 => ⟨z, r, rfl, h1, fun hr => ?_, fun u hu => ?_⟩⟩
  · subst hr
    cases hz : f z with
    | some dv => rw [hz] at h2; exact h2.elim
    | none => exact k v3 H3 ((e1.trans e2).trans e3) (by rw [hz]; exact r3)
  · subst hu
    cases hz : f z with
    | none => rw [hz] at h2; exact h2.elim
    | some dv =>
      rw [hz] at h2
      obtain ⟨v, rv, rp⟩ := h2
      exact ⟨v, rv, k v H3 ((e1.trans e2).trans e3) (by rw [hz]; exact rp _)⟩
theorem pe_makeL {i k : Nat} {f : Addr} {sp : Sp} {E : XK} {CX : CXT} {t : TA} (M : Mk X.K C f) (F : FnR X.prog X.w X.K X.mg X.base CX k f sp) (hr : Room (k + 1) X.A) (hN : X.N[i]? = some x) (hv : Vis X.env.scope x) (hx : Passes CX X E) (ha : PA X (e :: es) t)
    (hdb : (x == ("__debug__" : Str)) = false := by decide) (hcd : (x == ("__classdict__" : Str)) = false := by decide)
    (he : starEach (e :: es) X.env = (false, eval e X.env) :: starEach es X.env := by rfl) (hpl : (backTo pos (starEach es X.env)).any (·.1) = false := by rfl) : PE X (.Call (.Name x p) (e :: es) [] pos) (fun σ H Q => σ[i]? = some (some (.ref C)) ∧ StX.tMakeR C sp E t σ H Q) := by
  refine ⟨fun pins s σ H Q I h => ?_⟩
  obtain ⟨hs, ht⟩ := h
  refine wpAny_Call_Name_kw (thn ((pe_var (pos := p) hN hv hdb hcd).run pins s σ H (fun v H1 => v = .ref C ∧ H1 = H) I ⟨.ref C, hs, rfl, rfl⟩) fun u s1 ⟨v, H1, I1, r1, q1⟩ => ?_)
  obtain ⟨rfl, rfl⟩ := q1
  cases r1
  refine PySem.W.callWith_K (h₀ := X.base) I.ok.mod.kin M.kp (thn (ha.run pos pins s1 σ _ _ I1 ht) fun us s2 ⟨vs, H2, I2, r, q⟩ => ⟨I2.kIn, ?_⟩) he hpl
  exact StX.run_makeR M F hr hx I2 r q
theorem ev_makeL {Ar : Om → List D → List Str → List D → Prop} {f : Addr} {ns : List Str} {fs : List D} (i : Nat) (hd : ρ[i]? = some (some (.rf C))) (Mk : Mk X.K C f) (F : Fok X.prog X.w X.K X.mg X.base CX0 k f (spI X.K C Ar)) (hr : Room (k + 1) X.A) (ha : EA X B ρ O (e :: es) ds) (h : Ar (B.L ++ O) ds ns fs)
    (hN : X.N[i]? = some x := by rfl) (hv : Vis X.env.scope x := by first | exact Or.inl rfl | exact Or.inr (Or.inl rfl) | exact Or.inr (Or.inr rfl)) (hdb : (x == ("__debug__" : Str)) = false := by decide) (hcd : (x == ("__classdict__" : Str)) = false := by decide)
    (he : starEach (e :: es) X.env = (false, eval e X.env) :: starEach es X.env := by rfl) (hpl : (backTo pos (starEach es X.env)).any (·.1) = false := by rfl) : EV X B ρ O (.Call (.Name x p) (e :: es) [] pos) (.obj C ns fs) :=
  pe_imp (pe_makeL (E := E0) Mk F.raw hr hN hv pass0 ha hdb hcd he hpl) fun σ H Q ⟨st, k⟩ => by
    obtain ⟨v, hv, rv⟩ := st.env.2 i _ hd
    cases rv
    exact ⟨hv, st, fun vs H1 e1 r1 y dy hy hdy ne => made_use (st.same e1).m r1 h (fun v H2 e2 r2 => k v H2 (e1.trans e2) r2) y dy hy hdy ne⟩
mutual
inductive PyR : D → PyData → Prop where
  | non : PyR .non .none
  | bl (b : Bool) : PyR (.bl b) (.bool b)
  | int (i : Int) : PyR (.int i) (.int i)
  | str (x : Str) : PyR (.str x) (.str x)
  | lst {ds : List D} {ps : List PyData} : PyRL ds ps → PyR (.lst ds) (.list ps)
  | tup {ds : List D} {ps : List PyData} : PyRL ds ps → PyR (.tup ds) (.tuple ps)
inductive PyRL : List D → List PyData → Prop where
  | nil : PyRL [] []
  | cons {d : D} {ds : List D} {p : PyData} {ps : List PyData} : PyR d p → PyRL ds ps → PyRL (d :: ds) (p :: ps)
end
section
variable {K : PySem.W.Frag} {Hv H : Hp} (e : Same Hv H)
mutual
theorem PyR.dp (e : Same Hv H) : ∀ {d : D} {p : PyData} {v : V}, PyR d p → Rp K Hv v d → Dp K H v p
  | _, _, _, .non, r => by cases r; exact .non
  | _, _, _, .bl b, r => by cases r; exact .bl b
  | _, _, _, .int b, r => by cases r; exact .int b
  | _, _, _, .str b, r => by cases r; exact .str b
  | _, _, _, .lst h, r => by cases r with | lst hq r => exact .lst (.inl (.inl (e _ _ hq))) (PyRL.dp e h r)
  | _, _, _, .tup h, r => by cases r with | tup hq r => exact .tup (same_t e hq) (PyRL.dp e h r)
theorem PyRL.dp (e : Same Hv H) : ∀ {ds : List D} {ps : List PyData} {vs : List V}, PyRL ds ps → RpL K Hv vs ds → DpAll K H vs ps
  | _, _, _, .nil, r => by cases r; exact .nil
  | _, _, _, .cons h g, r => by cases r with | cons q r => exact .cons (PyR.dp e h q) (PyRL.dp e g r)
end
end
structure EqOk {α : Type} [DecidableEq α] (f : α → D) (P : α → Prop) (n : Nat) (g : α → PyData) : Prop where
  py : ∀ x, PyR (f x) (g x)
  lay : ∀ x, P x → (g x).canLay0 = true
  dep : ∀ x, (g x).depth ≤ n
  eqv : ∀ x y, PyData.eqv (g x) (g y) = decide (x = y)
theorem EqOk.int : EqOk D.int (fun _ => True) 0 PyData.int := ⟨fun x => .int x, fun x _ => by simp [PyData.canLay0], fun x => by simp [PyData.depth], fun x y => by rw [Bool.eq_iff_iff]; simp [PyData.eqv]⟩
theorem EqOk.str : EqOk D.str (fun x => PyData.strOk x = true) 0 PyData.str := ⟨fun x => .str x, fun x h => by simpa [PyData.canLay0] using h, fun x => by simp [PyData.depth], fun x y => by rw [Bool.eq_iff_iff]; simp [PyData.eqv]⟩
section
variable {α : Type} [DecidableEq α] {f : α → D} {P : α → Prop} {n : Nat} {g : α → PyData}
theorem EqOk.pyL (h : EqOk f P n g) : ∀ xs : List α, PyRL (xs.map f) (xs.map g)
  | [] => .nil
  | x :: xs => .cons (h.py x) (h.pyL xs)
theorem EqOk.layL (h : EqOk f P n g) : ∀ xs : List α, (∀ x ∈ xs, P x) → PyData.canLayAll0 (xs.map g) = true
  | [], _ => by simp [PyData.canLayAll0]
  | x :: xs, q => by
    simp only [List.map_cons, PyData.canLayAll0, h.lay x (q x List.mem_cons_self), h.layL xs fun y hy => q y (List.mem_cons_of_mem _ hy), Bool.and_self]
theorem EqOk.eqvL (h : EqOk f P n g) : ∀ xs ys : List α, PyData.eqvAll (xs.map g) (ys.map g) = decide (xs = ys)
  | [], [] => by simp [PyData.eqvAll]
  | [], y :: ys => by simp [PyData.eqvAll]
  | x :: xs, [] => by simp [PyData.eqvAll]
  | x :: xs, y :: ys => by
    simp only [List.map_cons, PyData.eqvAll, h.eqv x y, h.eqvL xs ys, List.cons.injEq]
    rw [Bool.eq_iff_iff]; simp
theorem EqOk.depL (h : EqOk f P n g) : ∀ xs : List α, PyData.depthAll (xs.map g) ≤ n
  | [] => by simp [PyData.depthAll]
  | x :: xs => by
    have h1 := h.dep x
    have h2 := h.depL xs
    simp only [List.map_cons, PyData.depthAll]
    omega
theorem EqOk.lst (h : EqOk f P n g) : EqOk (fun xs : List α => D.lst (xs.map f)) (fun xs => ∀ x ∈ xs, P x) (n + 1) (fun xs => PyData.list (xs.map g)) :=
  ⟨fun xs => .lst (h.pyL xs), fun xs q => by simpa [PyData.canLay0] using h.layL xs q, fun xs => by have := h.depL xs; simp only [PyData.depth]; omega, fun xs ys => by simpa [PyData.eqv] using h.eqvL xs ys⟩
theorem EqOk.tup (h : EqOk f P n g) : EqOk (fun xs : List α => D.tup (xs.map f)) (fun xs => ∀ x ∈ xs, P x) (n + 1) (fun xs => PyData.tuple (xs.map g)) :=
  ⟨fun xs => .tup (h.pyL xs), fun xs q => by simpa [PyData.canLay0] using h.layL xs q, fun xs => by have := h.depL xs; simp only [PyData.depth]; omega, fun xs ys => by simpa [PyData.eqv] using h.eqvL xs ys⟩
def Vd (O : Om) (d d' : D) : Prop := d = d' ∨ ∃ a ds, d = .rf a ∧ (a, M.lst ds) ∈ O ∧ d' = .lst ds
theorem Vd.dp {K : PySem.W.Frag} {H : Hp} {v : V} {d' : D} {q : PyData} (w : Vd (B.L ++ O) d d') (m : MOk K B O H) (r : Rp K (vis B.F O H) v d) (h : PyR d' q) : Dp K H v q := by
  rcases w with rfl | ⟨a, ds, rfl, hm, rfl⟩
  · exact h.dp vis_le r
  · cases r
    obtain ⟨vs, h1, h2⟩ := (List.mem_append.mp hm).elim (m.lent _ _) (m.mem _ _)
    cases h with
    | lst h => exact .lst (.inl (.inl h1)) (h.dp vis_le h2)
theorem shaped_of {q : PyData} (h1 : q.canLay0 = true) (h2 : q.depth ≤ n) (hn : n ≤ 64) : SeqAt.shaped q = true := by
  unfold SeqAt.shaped
  rw [h1, Bool.true_and]
  exact decide_eq_true (by omega)
theorem rd_neD {K : PySem.W.Frag} {x y : α} (h : EqOk f P n g) (hn : n ≤ 64) (w1 : Vd (B.L ++ O) d1 (f x)) (w2 : Vd (B.L ++ O) d2 (f y)) (h1 : P x) (h2 : P y) : RD K B O (rNeD K) d1 d2 (.bl (!decide (x = y))) := fun u v H Q m r1 r2 k =>
  ⟨g x, g y, w1.dp m r1 (h.py x), w2.dp m r2 (h.py y), shaped_of (h.lay x h1) (h.dep x) hn, shaped_of (h.lay y h2) (h.dep y) hn, by rw [h.eqv]; exact k _ H (Same.refl H) (.bl _)⟩
end
end
end DL
namespace DL
theorem map_item {α : Type} {xs : List α} {f : α → D} {i : Nat} {d : D} (h : (xs.map f)[i]? = some d) : ∃ x, xs[i]? = some x ∧ d = f x := by
  rw [List.getElem?_map] at h
  obtain ⟨x, h1, h2⟩ := Option.map_eq_some_iff.mp h
  exact ⟨x, h1, h2.symm⟩
end DL

set_option Elab.async false
set_option linter.all false
set_option maxRecDepth 100000
set_option maxHeartbeats 2000000
namespace PySem
open PySem.Spec PyProof.Rows
theorem dl_enum_new {v : Value} {o : Obj} {H : Heap → Prop} (B : Begins v o H) :
    Meets (Builtin.«enumerate.__new__» ⟨[.type "enumerate", v], []⟩) (fun _ R s => H s.heap ∧
      R (.ok (.ret (.ref (s.heap.push o).objs.size))) { s with heap := (s.heap.push o).push { cls := .type "enumerate", data := .fields #[.none, .bool false, .ref s.heap.objs.size, rawInt 0, .none, .none] } }) :=
  .of_wp fun prog w A R s h => by
    obtain ⟨hp, g, d, tk, os⟩ := s; obtain ⟨h1, h⟩ := h
    have hsub := sub_enumerate
    have q1 : ∀ {A' : Around} {E : Value → Shared → Prop} {Q : Value → Shared → Prop}, Q (.ref hp.objs.size) ⟨hp.push o, g, d, tk, os⟩ → wpAny (model prog w) A' (pyIter v) Q E ⟨hp, g, d, tk, os⟩ :=
      fun q => B.iter prog w _ _ ⟨hp, g, d, tk, os⟩ _ h1 q
    wp_walk using q1
    refine wpAny_stack_any fun st => wpAny_pure ?_
    split
    · rename_i c _ _ _ _ _
      cases (c == Value.type "enumerate")
      · wp_walk using q1
        exact ⟨_, rfl, h⟩
      · wp_walk using q1
        exact ⟨_, rfl, h⟩
    · wp_walk using q1
      exact ⟨_, rfl, h⟩
theorem dl_enum_begins {prog : Program} {w : World} {A : Around} {E : Value → Shared → Prop} {s : Shared} {v : Value} {o : Obj} {H : Heap → Prop} {Q : Value → Shared → Prop} (B : Begins v o H) (h1 : H s.heap)
    (h : ∀ h', IsEnum h' (s.heap.objs.size + 1) s.heap.objs.size 0 .none → h'.get? s.heap.objs.size = some o → h'.objs.size = s.heap.objs.size + 2 →
      (∀ b o, s.heap.get? b = some o → h'.get? b = some o) → Q (.ref (s.heap.objs.size + 1)) { s with heap := h' }) :
    wpAny (model prog w) A (call (.type "enumerate") [v]) Q E s := by
  refine callType_new F.called_enumerate (by decide) (F.typeCall_enumerate_1 _) (F.newCall_enumerate_1 _) (fun obj => F.args_object_init_2 obj _) F.entry_enumerate_new
    (dl_enum_new B) ⟨h1, ?_⟩
  have hz : (s.heap.push o).objs.size = s.heap.objs.size + 1 := Heap.size_push ..
  show _ ∧ _
  rw [hz]
  have he : IsEnum ((s.heap.push o).push { cls := .type "enumerate", data := .fields #[.none, .bool false, .ref s.heap.objs.size, rawInt 0, .none, .none] }) (s.heap.objs.size + 1) s.heap.objs.size 0 .none := by
    have := Heap.get?_push_size (s.heap.push o) (o := { cls := .type "enumerate", data := .fields #[.none, .bool false, .ref s.heap.objs.size, rawInt 0, .none, .none] }) rfl
    rw [hz] at this; exact this
  refine ⟨⟨_, he, rfl⟩, h _ he (Heap.get?_push_of_some _ (Heap.get?_push_size _ B.free)) (by rw [Heap.size_push, hz]) fun b o x => Heap.get?_push_of_some _ (Heap.get?_push_of_some _ x)⟩
end PySem
namespace L2
open PySem PySem.Spec PyProof.Rows
def Itet (K : PySem.W.Frag) (a : Addr) : It :=
  ⟨fun i H => ∃ (xs : List V) (x : V), SqT K H a xs ∧ xs[i]? = some x, fun i H v H' => ∃ T x, v = .ref T ∧ H T = none ∧ H' = upd H T (.tup [.int (i : Nat), x]) ∧ ∀ xs, SqT K H a xs → xs[i]? = some x, fun i H => ∃ xs : List V, SqT K H a xs ∧ xs.length ≤ i⟩
theorem enum_ne_tup {h : Heap} {e it t : Addr} {i : Int} {old : Value} {items : Array Value} (he : IsEnum h e it i old) (ht : h.IsTuple t items) : e ≠ t := by
  rintro rfl
  have e1 : h.get? e = _ := he
  obtain ⟨o, e2, hc, _⟩ := ht
  rw [e1] at e2
  cases e2
  have hc' : (Value.type "enumerate") = .type "tuple" := hc
  exact absurd hc' (by decide)
theorem iter_ne_tup {h : Heap} {it t a : Addr} {i : Nat} {items : Array Value} (he : h.IsTupleIter it a i) (ht : h.IsTuple t items) : t ≠ it := by
  rintro rfl
  obtain ⟨o, ho, hc, hd⟩ := he
  obtain ⟨o', e2, hc', _⟩ := ht
  rw [ho] at e2
  cases e2
  rw [hc] at hc'
  exact absurd hc' (by decide)
theorem turn_enumT {P : Program} {w : World} {K : PySem.W.Frag} {elts : List Expr} {kk : Nat} {tpos : Pos} (a e it : Addr) :
    Turn P w K (.Tuple elts kk tpos) (Itet K a) [e, it] e (fun i h => (∃ old, IsEnum h e it ((i : Nat) : Int) old) ∧ h.IsTupleIter it a i ∧ e ≠ it) where
  mem := by simp
  obj := fun i h st b hb => by
    obtain ⟨⟨old, he⟩, ⟨o, ho, hc, hd⟩, _⟩ := st
    have e' : b = e ∨ b = it := by simpa using hb
    rcases e' with z | z
    · rw [z]; exact ⟨_, he, fun v q => nomatch q⟩
    · rw [z]; exact ⟨o, ho, fun v q => by rw [hd] at q; cases q⟩
  keep := fun i h h' st k => let ⟨⟨old, he⟩, hi, hne⟩ := st; ⟨⟨old, k e (by simp) _ he⟩, hi.at fun o q => k it (by simp) o q, hne⟩
  item := by
    intro X hP hw hK hc i pins s σ H E I hf st hg
    subst hP hw hK
    obtain ⟨⟨old, he⟩, hit, hne⟩ := st
    obtain ⟨xs, x, hq, hx⟩ := hg
    obtain ⟨its, rv, p, hz⟩ := I.tuple hq
    have pt : s.heap.IsTuple a its.toArray := p
    obtain ⟨u, hu, ru⟩ := rv.get hx
    have hel : e < s.heap.objs.size := Heap.lt_size he
    have hil : it < s.heap.objs.size := by obtain ⟨_, q, _⟩ := hit; exact Heap.lt_size q
    have hea := enum_ne_tup he pt
    have hia := iter_ne_tup hit pt
    have hlt : i < its.toArray.size := by
      have := (List.getElem?_eq_some_iff.mp hu).1
      simpa using this
    refine wpAny_pyNext_enum_itemD (Draws.tuple (show X.A.in1.handled = none from I.ok.hd hc) it a hia its.toArray) he ⟨hit, pt⟩ hlt hne (by simp [hne, hea]) fun x' h' tk hx' ho st' hT hsz hk => ?_
    obtain rfl : x' = u := by
      have : its.toArray[i]? = some u := by simpa using hu
      rw [this] at hx'; exact (Option.some.inj hx').symm
    obtain ⟨hit', pt'⟩ := st'
    refine ⟨_, rfl, wpAny_letOwnedTupleGo_enum (s := { s with heap := h', toks := tk + 1 }) ho fun h'' he' sb => ?_⟩
    have hT2 : h''.get? s.heap.objs.size = some { cls := .type "tuple", data := .seq #[.int i tk, x'] } := (sb.2 _ (Nat.ne_of_gt hel)).trans hT
    have new : ObjOk X.prog X.w (upd H s.heap.objs.size (.tup [.int (i : Nat), x])) h'' s.heap.objs.size (.tup [.int (i : Nat), x]) :=
      ⟨by show 2 ≤ sizeLine; decide, [.int i tk, x'], .cons ⟨_, rfl⟩ (.cons ru .nil), ⟨_, hT2, rfl, _, rfl⟩⟩
    have I1 : Inv X pins σ (upd H s.heap.objs.size (.tup [.int (i : Nat), x])) { s with heap := h'', toks := tk + 1 } :=
      I.turnedNew (ch := [e, it]) (fun b ob hb q => (sb.2 b (fun z => hb (by simp [z]))).trans (hk b ob (fun z => hb (by simp [z])) (fun z => hb (by simp [z])) q)) hf (Nat.le_refl _) new
    refine ⟨.ref s.heap.objs.size, _, I1, rfl, ⟨_, x, rfl, I.hok.fresh (Nat.le_refl _), rfl, fun ys hy => by rw [I.tuple_inj hy hq]; exact hx⟩, ⟨⟨x', ?_⟩, hit'.at fun o q => (sb.2 it (Ne.symm hne)).trans q, hne⟩, fun b hb => ?_⟩
    · have e1 : ((i + 1 : Nat) : Int) = (i : Int) + 1 := by omega
      rw [e1]; exact he'
    · have hb' : b < s.heap.objs.size := by
        have e' : b = e ∨ b = it := by simpa using hb
        rcases e' with z | z
        · rw [z]; exact hel
        · rw [z]; exact hil
      rw [upd_ne (Nat.ne_of_lt hb')]
      exact (hf b hb).1
  done := by
    intro X hP hw hK hc i pins s σ H E I hf st hg
    subst hP hw hK
    obtain ⟨⟨old, he⟩, hit, hne⟩ := st
    obtain ⟨xs, hq, hx⟩ := hg
    obtain ⟨its, rv, p, hz⟩ := I.tuple hq
    have pt : s.heap.IsTuple a its.toArray := p
    obtain ⟨f0, f1, f2, f3, f4, f5⟩ := hf it (by simp)
    have hl := rv.length
    have hT : s.TypeIs (.ref e) "enumerate" := ⟨_, he, rfl⟩
    unfold pyNext
    refine wpAny_bind (wpAny_attempt (wpAny_callSpecial?_slot (name := Str.ofString "__next__") hT F.slot_enumerate_next
      (wpAny_call_entry F.slot_enumerate_next hT F.entry_enumerate_next ?_ (F.args_enumerate_next_1 _))))
    show wpAny _ _ (field (.ref e) 2 >>= _) _ _ _
    refine wpAny_bind (wpAny_field he rfl (x := .ref it) rfl ?_)
    refine wpAny_bind (wpAny_nextOf_tuple_end (show X.A.in1.in1.handled = none from I.ok.hd hc) hit pt (by simp; omega) fun h' x eb hx' => ?_)
    obtain ⟨o, ho, hcl⟩ := hx'
    refine wpAny_bind (wpAny_isInstance (T := "StopIteration") (b := true) ⟨o, ho, hcl⟩ isSubtype_stop ?_)
    exact wpAny_pure ⟨rfl, I.turned (t' := s.toks) (fun b o hb q => eb b o hb q) f0 f1 f3 f4 f5⟩
  self := fun A i s Q E st h => let ⟨⟨_, he⟩, _⟩ := st; wpAny_pyIter_enum he h
def iEnumT (K : PySem.W.Frag) (ta : TA) : TI := fun σ H R => ta σ H fun vs H1 => ∃ a xs, vs = [.ref a] ∧ ((SqL K H1 a xs ∧ R (Ite K a) H1) ∨ (SqT K H1 a xs ∧ R (Itet K a) H1))
theorem pi_enumT {X : Cx} {e : Expr} {ta : TA} {p pos tpos : Pos} {elts : List Expr} {kk : Nat} (hg : Gl X "enumerate") (hm : X.mg "enumerate" = none) (ha : PA X [e] ta) (hs : starEach [e] X.env = [(false, eval e X.env)] := by rfl) :
    PI X (.Tuple elts kk tpos) (.Call (.Name "enumerate" p) [e] [] pos) (iEnumT X.K ta) := by
  refine ⟨fun pins s σ H R I h => ?_⟩
  refine Call_ (ld_blt I hg hm boot_enumerate (PyProof.Rows.callWith_type1 (thn (ha.run pos pins s σ H _ I h) fun us s1 ⟨vs, H1, I1, r1, q1⟩ => ?_) hs rfl))
  obtain ⟨a, xs, ex, q⟩ := q1
  subst ex
  cases r1 with
  | cons r rr =>
    cases rr
    cases r
    rcases q with ⟨hq, q⟩ | ⟨hq, q⟩
    · obtain ⟨its, rv, p', hz⟩ := I1.list hq
      refine call_enumerate_list p'.isList fun h' he hit hsz hk => wpAny_pyIter_enum he ?_
      have I2 : Inv X pins σ H1 { s1 with heap := h' } := I1.kept (t' := s1.toks) hk
      refine ⟨s1.heap.objs.size + 1, [s1.heap.objs.size + 1, s1.heap.objs.size], _, _, H1, rfl, I2, turn_enum a (s1.heap.objs.size + 1) s1.heap.objs.size, ⟨⟨.none, he⟩, hit, Nat.succ_ne_self _⟩, fun b hb => ?_, q⟩
      have e' : b = s1.heap.objs.size + 1 ∨ b = s1.heap.objs.size := by simpa using hb
      have hle : s1.heap.objs.size ≤ b := by
        rcases e' with z | z
        · rw [z]; exact Nat.le_add_right _ _
        · rw [z]; exact Nat.le_refl _
      exact I1.fpOk hle (I1.hok.fresh hle)
    · obtain ⟨its, rv, p', hz⟩ := I1.tuple hq
      refine dl_enum_begins (begins_tuple a its.toArray) (show s1.heap.IsTuple a its.toArray from p') fun h' he hit hsz hk => wpAny_pyIter_enum he ?_
      have I2 : Inv X pins σ H1 { s1 with heap := h' } := I1.kept (t' := s1.toks) hk
      refine ⟨s1.heap.objs.size + 1, [s1.heap.objs.size + 1, s1.heap.objs.size], _, _, H1, rfl, I2, turn_enumT a (s1.heap.objs.size + 1) s1.heap.objs.size, ⟨⟨.none, he⟩, ⟨_, hit, rfl, rfl⟩, Nat.succ_ne_self _⟩, fun b hb => ?_, q⟩
      have e' : b = s1.heap.objs.size + 1 ∨ b = s1.heap.objs.size := by simpa using hb
      have hle : s1.heap.objs.size ≤ b := by
        rcases e' with z | z
        · rw [z]; exact Nat.le_add_right _ _
        · rw [z]; exact Nat.le_refl _
      exact I1.fpOk hle (I1.hok.fresh hle)
end L2
namespace DL
open PySem PySem.Spec PyProof.Rows L2
section
variable {X : Cx} {B : Gd} {ρ ρ' : List (Option D)} {O O' O1 O2 : Om} {A : AE} {a b c e o : Expr} {es : List Expr} {d d1 d2 d3 : D} {ds : List D} {pos pos' p apos : Pos} {b1 b2 : Bool} {st : Stmt} {ss rest : List Stmt} {x : Str} {k : Nat} {C : Addr}
theorem ei_enumQ {ea : Expr} {elts : List Expr} {kk : Nat} {p p' tpos : Pos} (hgl : Gl X "enumerate") (hm : X.mg "enumerate" = none) (hi : EA X B ρ O [ea] [d]) (w : Vq (B.L ++ O) d ds) (hse : starEach [ea] X.env = [(false, eval ea X.env)] := by rfl) :
    EI X B ρ O (.Tuple elts kk tpos) (.Call (.Name "enumerate" p) [ea] [] p') (iEnumT X.K (tA X.K B ρ O [d])) (fun O' => Vq (B.L ++ O') d ds) (enumD ds) :=
  ⟨pi_enumT hgl hm hi hse, fun σ H R st k => ⟨st, fun vs H1 e1 r1 => by
    have hl : (enumD ds).length = ds.length := by simp [enumD]
    cases r1 with
    | @cons v _ _ _ h r =>
    cases r
    rcases w with w | rfl
    · obtain ⟨a, vs, rfl, hq, rl⟩ := w.sql (st.same e1).m h
      have S := src_list w (st.same e1).m h rfl
      refine ⟨a, vs, rfl, .inl ⟨hq, k _ H1 e1 ⟨fun i B' O' H' eL hi m e g => ?_, fun B' O' H' eL m e g => ?_, fun i B' O' H' x H2 eL hi m e g y => ?_⟩⟩⟩
      · rw [hl] at hi
        have g' : Vw (B.L ++ O') d ds := by
          rcases g with g | g
          · exact g
          · subst g; rcases w with (w | ⟨a', w, _⟩) | w <;> cases w
        exact S.goes i B' O' H' eL hi m e g'
      · rw [hl]
        have g' : Vw (B.L ++ O') d ds := by
          rcases g with g | g
          · exact g
          · subst g; rcases w with (w | ⟨a', w, _⟩) | w <;> cases w
        exact S.stops B' O' H' eL m e g'
      · rw [hl] at hi
        have g' : Vw (B.L ++ O') d ds := by
          rcases g with g | g
          · exact g
          · subst g; rcases w with (w | ⟨a', w, _⟩) | w <;> cases w
        obtain ⟨T, x', ex, hT, e2, y⟩ := y
        subst e2 ex
        obtain ⟨_, d', hd', rd⟩ := S.yields i B' O' H' x' H' eL hi m e g' ⟨rfl, y⟩
        refine ⟨same_new hT, .tup [.int (i : Int), d'], ?_, .tup (.inl (.inl (m.visNew hT))) (.cons (.int _) (.cons (rd.mono (vis_same (same_new hT))) .nil))⟩
        unfold enumD; rw [List.getElem?_map, List.getElem?_range hi]; simp [hd']
    · cases h with
      | @tup a vs _ hq rl =>
      refine ⟨a, vs, rfl, .inr ⟨same_t vis_le hq, k _ H1 e1 ⟨fun i B' O' H' eL hi m e g => ?_, fun B' O' H' eL m e g => ?_, fun i B' O' H' x H2 eL hi m e g y => ?_⟩⟩⟩
      · rw [hl] at hi
        obtain ⟨v, hv, _⟩ := rl.get (i := i) (d := ds[i]) (by simp [hi])
        exact ⟨vs, v, same_t vis_le (same_t e hq), hv⟩
      · rw [hl]
        exact ⟨vs, same_t vis_le (same_t e hq), by rw [rl.length]; exact Nat.le_refl _⟩
      · rw [hl] at hi
        obtain ⟨T, x', ex, hT, e2, y⟩ := y
        subst e2 ex
        obtain ⟨v, hv, rv⟩ := rl.get (i := i) (d := ds[i]) (by simp [hi])
        have ex := y vs (same_t vis_le (same_t e hq))
        rw [hv] at ex
        cases ex
        refine ⟨same_new hT, .tup [.int (i : Int), ds[i]], ?_, .tup (.inl (.inl (m.visNew hT))) (.cons (.int _) (.cons ((rv.mono e).mono (vis_same (same_new hT))) .nil))⟩
        unfold enumD; rw [List.getElem?_map, List.getElem?_range hi]; simp [hi]⟩⟩
theorem et_chainI {op op' : CmpOp} {g g' : Int → Int → Bool} {i j l : Int} (ho : OpR X (compareOp op) (rI0 fun i j => .bl (g i j))) (ho' : OpR X (compareOp op') (rI0 fun i j => .bl (g' i j))) (ha : EV X B ρ O a (.int i)) (hb : EV X B ρ O b (.int j)) (hc : EV X B ρ O c (.int l))
    (hm : lastMarks [op, op'] [b, c] = false := by with_unfolding_all rfl) : ET X B ρ O (.Compare a [op, op'] [b, c] pos) (g i j && g' j l) :=
  pt_imp (pt_chain ho ho' ha hb hc hm) fun σ H Q ⟨st, k⟩ => ⟨st, fun v H1 e1 r1 => by
    cases r1
    refine ⟨st.same e1, fun v H2 e2 r2 => ?_⟩
    cases r2
    refine ⟨i, j, rfl, rfl, g i j, rfl, ?_⟩
    cases h : g i j with
    | false => simp only [h, Bool.false_and] at k ⊢; exact ⟨false, rfl, k _ (e1.trans e2)⟩
    | true =>
      simp only [h, Bool.true_and, if_true] at k ⊢
      refine ⟨(st.same e1).same e2, fun v H3 e3 r3 => ?_⟩
      cases r3
      exact ⟨j, l, rfl, rfl, g' j l, rfl, k _ ((e1.trans e2).trans e3)⟩⟩
theorem atS {z : Str} {i : Int} (h0 : 0 ≤ i) (h : i < (z.length : Int)) : atI z.cps.toList i = some (z.cps.toList.getD i.toNat 0) := atC h0 (by rw [Array.length_toList]; exact h)
end
end DL

set_option Elab.async false
set_option linter.all false
set_option maxRecDepth 100000
set_option maxHeartbeats 2000000
namespace DL
open PySem PySem.Spec PyProof.Rows L2
structure Cmp (α : Type) where
  ok : Prop
  val : α
namespace Cmp
variable {α β : Type}
abbrev ret (a : α) : Cmp α := ⟨True, a⟩
def req (p : Prop) (m : Cmp α) : Cmp α := ⟨p ∧ m.ok, m.val⟩
abbrev bnd (v : β) (f : β → Cmp α) : Cmp α := f v
def bind (m : Cmp β) (f : β → Cmp α) : Cmp α := ⟨m.ok ∧ (f m.val).ok, (f m.val).val⟩
def bad [Inhabited α] : Cmp α := ⟨False, default⟩
end Cmp
structure Exn where
  c : Nat
  d : D
inductive Ctl (S L R : Type) where
  | nx (s : S) | rt (r : R) | bk (l : L) | ct (l : L) | ex (e : Exn)
section
variable {α S S2 L R : Type}
def forN (f : α → S → Cmp S) : List α → S → Cmp S
  | [], s => .ret s
  | x :: xs, s => (f x s).bind (forN f xs)
def Ctl.thenR [Inhabited R] (c : Ctl S L R) (k : S → Cmp R) : Cmp R :=
  match c with
  | .nx s => k s
  | .rt r => .ret r
  | _ => .bad
def Cmp.bindR [Inhabited R] (m : Cmp (Ctl S L R)) (k : S → Cmp R) : Cmp R := m.bind fun c => c.thenR k
def Ctl.goOn (c : Ctl S S R) (k : S → Cmp (Ctl S L R)) : Cmp (Ctl S L R) :=
  match c with
  | .nx s => k s
  | .ct s => k s
  | .bk s => .ret (.nx s)
  | .rt r => .ret (.rt r)
  | .ex e => .ret (.ex e)
def forC (f : α → S → Cmp (Ctl S S R)) : List α → S → Cmp (Ctl S L R)
  | [], s => .ret (.nx s)
  | x :: xs, s => (f x s).bind fun c => c.goOn (forC f xs)
def whileN (c : S → Cmp Bool) (b : S → Cmp S) : Nat → S → Cmp S
  | 0, s => ⟨False, s⟩
  | n + 1, s => (c s).bind fun t => if t = true then (b s).bind (whileN c b n) else .ret s
end
def aN {S : Type} (st : S → List (Option D) → Om → Prop) (s : S) : AE := { nx := fun ρ O => ∃ ρ', Wk ρ' ρ ∧ st s ρ' O, rt := fun _ _ => False }
def aL {S : Type} (st : S → List (Option D) → Om → Prop) (s : S) : AE := { nx := fun ρ O => ∃ ρ', Wk ρ' ρ ∧ st s ρ' O, ct := fun ρ O => ∃ ρ', Wk ρ' ρ ∧ st s ρ' O, rt := fun _ _ => False }
def aR {R : Type} (rt : R → D → Om → Prop) (r : R) : AE := { nx := fun _ O => rt r .non O, rt := rt r }
def aC {S L R : Type} (st : S → List (Option D) → Om → Prop) (sl : L → List (Option D) → Om → Prop) (rt : R → D → Om → Prop) (ex : Exn → Addr → Str → D → List (Option D) → Om → Prop) : Ctl S L R → AE
  | .nx s => { nx := fun ρ O => ∃ ρ', Wk ρ' ρ ∧ st s ρ' O, rt := fun _ _ => False }
  | .rt r => { nx := fun _ _ => False, rt := rt r }
  | .bk l => { nx := fun _ _ => False, rt := fun _ _ => False, bk := fun ρ O => ∃ ρ', Wk ρ' ρ ∧ sl l ρ' O }
  | .ct l => { nx := fun _ _ => False, rt := fun _ _ => False, ct := fun ρ O => ∃ ρ', Wk ρ' ρ ∧ sl l ρ' O }
  | .ex e => { nx := fun _ _ => False, rt := fun _ _ => False, ex := ex e }
abbrev rtP {R : Type} (e : R → D) : R → D → Om → Prop := fun r d O => Frz O d (e r)
abbrev rtN {α : Type} (e : α → D) : List α → D → Om → Prop := fun r d O => ∃ p, d = .rf p ∧ O = [(p, .lst (r.map e))]
abbrev noNx (A : AE) : AE := { A with nx := fun _ _ => False }
section
variable {X : Cx} {B : Gd} {ρ ρ' : List (Option D)} {O O' O1 O2 : Om} {a b c e o : Expr} {es : List Expr} {d d1 d2 d3 : D} {ds : List D} {pos pos' p apos : Pos} {b1 b2 : Bool} {st : Stmt} {ss rest s1 s2 body : List Stmt} {x : Str}
variable {α β S L R : Type} {A : α → AE}
abbrev JC (X : Cx) (B : Gd) (ss : List Stmt) (ρ : List (Option D)) (O : Om) (A : α → AE) (m : Cmp α) : Prop := m.ok → J X B ss ρ O (A m.val)
abbrev JC1 (X : Cx) (B : Gd) (s : Stmt) (ρ : List (Option D)) (O : Om) (A : α → AE) (m : Cmp α) : Prop := m.ok → J1 X B s ρ O (A m.val)
theorem jc_req {q : Prop} {m : Cmp α} (h : q → JC X B ss ρ O A m) : JC X B ss ρ O A (.req q m) := fun ok => h ok.1 ok.2
theorem jc_one {m : Cmp α} (h : JC1 X B st ρ O A m) : JC X B [st] ρ O A m := fun ok => j_cons (ps_imp (h ok) fun Dn σ H ⟨s, p⟩ => ⟨s, fun ρ O σ H q => p.nx ρ O σ H (j_nil q), p.rt, p.bk, p.ct, p.ex⟩)
theorem jc_nil {v : α} (h : (A v).nx ρ O) : JC X B [] ρ O A (.ret v) := fun _ => j_nil h
theorem jc1_ite {m1 m2 : Cmp α} (hc : ET X B ρ O c b1) (h1 : b1 = true → JC X B s1 ρ O A m1) (h2 : b1 = false → JC X B s2 ρ O A m2) : JC1 X B (.If c s1 s2 pos) ρ O A (if b1 = true then m1 else m2) := fun ok => by
  cases b1 with
  | true => exact j_if hc (fun _ => h1 rfl ok) (fun h => nomatch h)
  | false => exact j_if hc (fun h => nomatch h) (fun _ => h2 rfl ok)
theorem jc_ifr {m1 m2 : Cmp α} (hc : ET X B ρ O c b1) (h1 : b1 = true → JC X B s1 ρ O (fun v => noNx (A v)) m1) (h2 : b1 = false → JC X B rest ρ O A m2) : JC X B (.If c s1 [] pos :: rest) ρ O A (if b1 = true then m1 else m2) := fun ok => by
  cases b1 with
  | true => exact j_cons (j_if hc (fun _ => j_imp (h1 rfl ok) (fun _ _ z => z.elim) (fun _ _ z => z) (fun _ _ z => z) (fun _ _ z => z) (fun _ _ _ _ _ z => z)) (fun h => nomatch h))
  | false => exact j_cons (j_if hc (fun h => nomatch h) (fun _ => j_nil (h2 rfl ok)))
theorem jc_seqN {st1 : S → List (Option D) → Om → Prop} {m1 : Cmp S} {m2 : S → Cmp α} (h1 : JC1 X B st ρ O (aN st1) m1) (h2 : ∀ s ρ' O', st1 s ρ' O' → JC X B rest ρ' O' A (m2 s)) : JC X B (st :: rest) ρ O A (m1.bind m2) := fun ok =>
  j_cons (ps_imp (h1 ok.1) fun Dn σ H ⟨s, p⟩ => ⟨s, fun ρ' O' σ' H' ⟨ρ2, w, q⟩ s' e => p.nx ρ' O' σ' H' (pss_imp (h2 _ _ _ q ok.2) fun Dn σ H ⟨s, p⟩ => ⟨s.weak w, p⟩) s' e, fun _ _ _ _ z => z.elim, fun _ _ _ _ z => z.elim, fun _ _ _ _ z => z.elim, fun _ _ _ _ _ _ _ _ _ z => z.elim⟩)
theorem jc_seqR [Inhabited R] {st1 : S → List (Option D) → Om → Prop} {sl : L → List (Option D) → Om → Prop} {rt : R → D → Om → Prop} {ex : Exn → Addr → Str → D → List (Option D) → Om → Prop} {m1 : Cmp (Ctl S L R)} {m2 : S → Cmp R}
    (h1 : JC1 X B st ρ O (aC st1 sl rt ex) m1) (h2 : ∀ s ρ' O', st1 s ρ' O' → JC X B rest ρ' O' (aR rt) (m2 s)) : JC X B (st :: rest) ρ O (aR rt) (m1.bindR m2) := fun ok => by
  obtain ⟨q, v⟩ := m1
  obtain ⟨ok1, ok2⟩ := ok
  have h := h1 ok1
  refine j_cons ?_
  cases v with
  | nx s => exact ps_imp h fun Dn σ H ⟨s, p⟩ => ⟨s, fun ρ' O' σ' H' ⟨ρ2, w, q⟩ s' e => p.nx ρ' O' σ' H' (pss_imp (h2 _ _ _ q ok2) fun Dn σ H ⟨s, p⟩ => ⟨s.weak w, p⟩) s' e, fun _ _ _ _ z => z.elim, fun _ _ _ _ z => z.elim, fun _ _ _ _ z => z.elim, fun _ _ _ _ _ _ _ _ _ z => z.elim⟩
  | rt r => exact ps_imp h fun Dn σ H ⟨s, p⟩ => ⟨s, fun _ _ _ _ z => z.elim, p.rt, fun _ _ _ _ z => z.elim, fun _ _ _ _ z => z.elim, fun _ _ _ _ _ _ _ _ _ z => z.elim⟩
  | bk r => exact False.elim ok2
  | ct r => exact False.elim ok2
  | ex r => exact False.elim ok2
theorem jc_set (i : Nat) {v : β} {E : β → D} {m : β → Cmp α} (nd : X.N.Nodup) (he : EV X B ρ O e (E v)) (h : ∀ y, JC X B rest (ρ.set i (some (E y))) O A (m y)) (hi : X.N[i]? = some x := by rfl) (hx : Loc X.env.scope x := by first | exact .inl rfl | exact .inr rfl) (hs : swapsWith e (some (.Name x pos')) pos.line X.env = pure false := by rfl)
    (hf : X.fn x = true ∨ X.env.scope.names.lookup x = some .local := by first | exact .inr rfl | exact .inl rfl) : JC X B (.Assign [.Name x pos'] e pos :: rest) ρ O A (.bnd v m) := fun ok => j_cons (sset i nd he (h v ok) hi hx hs hf)
theorem jc_setN (i : Nat) {v : List β} {E : β → D} {m : List β → Cmp α} (nd : X.N.Nodup) (he : EN X B ρ O e (v.map E)) (h : ∀ q y, has O q = false → JC X B rest (ρ.set i (some (.rf q))) ((q, .lst (y.map E)) :: O) A (m y)) (hi : X.N[i]? = some x := by rfl) (hx : Loc X.env.scope x := by first | exact .inl rfl | exact .inr rfl) (hs : swapsWith e (some (.Name x pos')) pos.line X.env = pure false := by rfl)
    (hf : X.fn x = true ∨ X.env.scope.names.lookup x = some .local := by first | exact .inr rfl | exact .inl rfl) : JC X B (.Assign [.Name x pos'] e pos :: rest) ρ O A (.bnd v m) := fun ok => j_cons (ssetN i nd he (fun q hq => h q v hq ok) hi hx hs hf)
theorem jc_asg {v : β} {E : β → D} {m : β → Cmp α} {tg : Expr} {g : TG} {sl : List Nat} {f} (he : EV X B ρ O e (E v)) (hg : EB X tg g sl f) (h : ∀ y, ∃ ρ', f (E y) ρ = some ρ' ∧ JC X B rest ρ' O A (m y)) (hs : swapsWithSole [tg] e pos.line X.env = pure false := by rfl) (hw : swappedStores [tg] e X.env = pure none := by rfl)
    (h1 : (assignEach [tg] X.env).map (·.2) = [assign tg X.env] := by rfl) : JC X B (.Assign [tg] e pos :: rest) ρ O A (.bnd v m) := fun ok => by
  obtain ⟨ρ', hf, hr⟩ := h v
  exact j_cons (j_asg he hg hf (hr ok) hs hw h1)
theorem jc_ret {v : α} (he : EV X B ρ O e d) (h : (A v).rt d O) : JC X B (.Return (some e) pos :: rest) ρ O A (.ret v) := fun _ => j_cons (j_ret he h)
theorem jc_append {q : Addr} {v : β} {xs : List β} {E : β → D} {m : List β → Cmp α} {O2 : List β → Om} (ho : EV X B ρ O o (.rf q)) (hm : (q, M.lst (xs.map E)) ∈ O) (he : EV X B ρ O e (E v)) (hp : ∀ ys : List β, Put O q (.lst (xs.map E)) (.lst (ys.map E)) (O2 ys)) (hz : xs.length < sizeLine) (h : ∀ ys, JC X B rest ρ (O2 ys) A (m ys))
    (hbase : attributeBase o "append" X.env (eval o X.env) = eval o X.env := by rfl)
    (hfew : ((backTo pos (starEach [e] X.env)).all (fun x => !x.1) && (backToKw pos (keywordEach [] X.env)).all (fun x => x.1.isSome)
      && decide ([e].length + ([] : List Keyword).length + (if ([] : List Keyword).isEmpty then 0 else 1) < 30)) = true := by rfl)
    (hline : (apos.endLine == pos.line) = true := by rfl) (hs : starEach [e] X.env = (false, eval e X.env) :: starEach [] X.env := by rfl) (hplain : (backTo pos (starEach [] X.env)).any (·.1) = false := by rfl)
    (hsw : swapsWith (.Call (.Attribute o "append" apos) [e] [] pos) none pos'.line X.env = pure false := by rfl) :
    JC X B (.Expr (.Call (.Attribute o "append" apos) [e] [] pos) pos' :: rest) ρ O A (.bnd (xs ++ [v]) m) := fun ok =>
  j_cons (j_expr (eg_append (d := E v) (ds := xs.map E) ho hm (eg_of he) (by have := hp (xs ++ [v]); rw [List.map_append] at this; exact this) (by rw [List.length_map]; exact hz) hbase hfew hline hs hplain) (h _ ok) hsw)
theorem jc1_for {xs : List α} {E : α → D} {iter tg : Expr} {wi : TI} {sl : List Nat} {bf} {g : TG} {G : Om → Prop} {f : α → S → Cmp S} {s0 : S} {st : S → List (Option D) → Om → Prop}
    (hp : PassesOwn (model X.prog X.w) X.A X.env X.xe) (hc : X.calm = true) (hi : EI X B ρ O tg iter wi G (xs.map E)) (hg : EB X tg g sl bf) (hv : ∀ s ρ O, st s ρ O → G O) (h0 : ∃ ρ0, Wk ρ0 ρ ∧ st s0 ρ0 O)
    (hb : ∀ y s ρ O, st s ρ O → ∃ ρ', bf (E y) ρ = some ρ' ∧ JC X B body ρ' O (aL st) (f y s))
    (hfs : ∀ x, foldedSetIterable iter X.env x = pure x := by intro _; rfl) : JC1 X B (.For tg iter body [] pos) ρ O (aN st) (forN f xs s0) := fun ok => by
  refine j_for (fun i ρ' O' => ∃ s, st s ρ' O' ∧ (forN f (xs.drop i) s).ok ∧ (forN f (xs.drop i) s).val = (forN f xs s0).val) hp hc hi hg (fun i ρ O ⟨s, q, _⟩ => hv s ρ O q) (by
    obtain ⟨ρ0, w, q⟩ := h0
    exact ⟨ρ0, w, s0, q, ok, rfl⟩) (fun i d ρ' O' hd ⟨s, q, k1, k2⟩ => ?_) (fun ρ' O' ⟨s, q, k1, k2⟩ => ?_) hfs
  · obtain ⟨y, hy, rfl⟩ := map_item hd
    obtain ⟨hl, ey⟩ := List.getElem?_eq_some_iff.mp hy
    have e1 : xs.drop i = y :: xs.drop (i + 1) := by rw [List.drop_eq_getElem_cons hl, ey]
    rw [e1] at k1 k2
    obtain ⟨ρ2, f1, j⟩ := hb y s ρ' O' q
    have fin : ∀ ρ3 O3, (∃ ρ'', Wk ρ'' ρ3 ∧ st (f y s).val ρ'' O3) → ∃ ρ4, Wk ρ4 ρ3 ∧ ∃ s, st s ρ4 O3 ∧ (forN f (xs.drop (i + 1)) s).ok ∧ (forN f (xs.drop (i + 1)) s).val = (forN f xs s0).val := fun ρ3 O3 ⟨ρ4, w, q4⟩ => ⟨ρ4, w, _, q4, k1.2, k2⟩
    exact ⟨ρ2, f1, j_imp (j k1.1) fin (fun _ _ z => z) (fun _ _ z => z.elim) fin (fun _ _ _ _ _ z => z.elim)⟩
  · rw [List.length_map, List.drop_length] at k2
    have k2' : s = (forN f xs s0).val := k2
    exact ⟨ρ', wk_refl, k2' ▸ q⟩
theorem jc1_forC {xs : List α} {E : α → D} {iter tg : Expr} {wi : TI} {sl : List Nat} {bf} {g : TG} {G : Om → Prop} {f : α → S → Cmp (Ctl S S R)} {s0 : S} {sl' : L → List (Option D) → Om → Prop} {rt : R → D → Om → Prop} {ex : Exn → Addr → Str → D → List (Option D) → Om → Prop} {st : S → List (Option D) → Om → Prop}
    (hp : PassesOwn (model X.prog X.w) X.A X.env X.xe) (hc : X.calm = true) (hi : EI X B ρ O tg iter wi G (xs.map E)) (hg : EB X tg g sl bf) (hv : ∀ s ρ O, st s ρ O → G O) (h0 : ∃ ρ0, Wk ρ0 ρ ∧ st s0 ρ0 O)
    (hb : ∀ y s ρ O, st s ρ O → ∃ ρ', bf (E y) ρ = some ρ' ∧ JC X B body ρ' O (aC st st rt ex) (f y s))
    (hfs : ∀ x, foldedSetIterable iter X.env x = pure x := by intro _; rfl) : JC1 X B (.For tg iter body [] pos) ρ O (aC st sl' rt ex) (forC f xs s0) := fun ok => by
  refine j_for (fun i ρ' O' => ∃ s, st s ρ' O' ∧ (forC (L := L) f (xs.drop i) s).ok ∧ (forC (L := L) f (xs.drop i) s).val = (forC f xs s0).val) hp hc hi hg (fun i ρ O ⟨s, q, _⟩ => hv s ρ O q) (by
    obtain ⟨ρ0, w, q⟩ := h0
    exact ⟨ρ0, w, s0, q, ok, rfl⟩) (fun i d ρ' O' hd ⟨s, q, k1, k2⟩ => ?_) (fun ρ' O' ⟨s, q, k1, k2⟩ => ?_) hfs
  · obtain ⟨y, hy, rfl⟩ := map_item hd
    obtain ⟨hl, ey⟩ := List.getElem?_eq_some_iff.mp hy
    have e1 : xs.drop i = y :: xs.drop (i + 1) := by rw [List.drop_eq_getElem_cons hl, ey]
    rw [e1] at k1 k2
    obtain ⟨ρ2, f1, j⟩ := hb y s ρ' O' q
    obtain ⟨ok1, ok2⟩ := k1
    have k2' : ((f y s).val.goOn (forC (L := L) f (xs.drop (i + 1)))).val = (forC f xs s0).val := k2
    have j' := j ok1
    refine ⟨ρ2, f1, ?_⟩
    cases hv' : (f y s).val with
    | nx s' =>
      rw [hv'] at ok2 k2' j'
      exact j_imp j' (fun ρ3 O3 ⟨ρ4, w, q4⟩ => ⟨ρ4, w, _, q4, ok2, k2'⟩) (fun _ _ z => z.elim) (fun _ _ z => z.elim) (fun _ _ z => z.elim) (fun _ _ _ _ _ z => z.elim)
    | ct s' =>
      rw [hv'] at ok2 k2' j'
      exact j_imp j' (fun _ _ z => z.elim) (fun _ _ z => z.elim) (fun _ _ z => z.elim) (fun ρ3 O3 ⟨ρ4, w, q4⟩ => ⟨ρ4, w, _, q4, ok2, k2'⟩) (fun _ _ _ _ _ z => z.elim)
    | bk s' =>
      rw [hv'] at ok2 k2' j'
      rw [← k2']
      exact j_imp j' (fun _ _ z => z.elim) (fun _ _ z => z.elim) (fun _ _ z => z) (fun _ _ z => z.elim) (fun _ _ _ _ _ z => z.elim)
    | rt r =>
      rw [hv'] at ok2 k2' j'
      rw [← k2']
      exact j_imp j' (fun _ _ z => z.elim) (fun _ _ z => z) (fun _ _ z => z.elim) (fun _ _ z => z.elim) (fun _ _ _ _ _ z => z.elim)
    | ex r =>
      rw [hv'] at ok2 k2' j'
      rw [← k2']
      exact j_imp j' (fun _ _ z => z.elim) (fun _ _ z => z.elim) (fun _ _ z => z.elim) (fun _ _ z => z.elim) (fun _ _ _ _ _ z => z)
  · rw [List.length_map, List.drop_length] at k2
    have k2' : Ctl.nx s = (forC f xs s0).val := k2
    rw [← k2']
    exact ⟨ρ', wk_refl, q⟩
theorem j_whileN {A : AE} {body : List Stmt} (Rl : Nat → List (Option D) → Om → Prop) (n : Nat) (hp : PassesOwn (model X.prog X.w) X.A X.env X.xe) (h0 : ∃ ρ0, Wk ρ0 ρ ∧ Rl n ρ0 O)
    (hs : ∀ m ρ O, Rl m ρ O → ∃ b, ET X B ρ O c b ∧ (b = true → J X B body ρ O { A with nx := fun ρ2 O2 => ∃ ρ3 k, Wk ρ3 ρ2 ∧ Rl k ρ3 O2 ∧ k < m, ct := fun ρ2 O2 => ∃ ρ3 k, Wk ρ3 ρ2 ∧ Rl k ρ3 O2 ∧ k < m, bk := A.nx }) ∧ (b = false → A.nx ρ O)) :
    J1 X B (.While c body [] pos) ρ O A := by
  refine ps_imp (ps_while hp (anyT_ok (B := B)) (any_ok (B := B))) fun Dn σ H ⟨st, p⟩ => ?_
  obtain ⟨ρ0, w0, h0⟩ := h0
  refine ⟨fun m σ' H' => ∃ ρ' O', Rl m ρ' O' ∧ StOk X.K B ρ' O' σ' H' ∧ Same (vis B.F O H) (vis B.F O' H'), ⟨_, ρ0, O, h0, st.weak w0, Same.refl _⟩, ?_⟩
  rintro m σ' H' ⟨ρ', O', hr, s', e'⟩
  obtain ⟨b, t, h1, h2⟩ := hs m ρ' O' hr
  refine ⟨ρ', O', b, t, s', fun H2 e2 => ?_⟩
  have s2 := s'.same e2
  have e3 := e'.trans (vis_same (F := B.F) (O := O') e2)
  cases b with
  | true =>
    refine iteT ⟨fun σ3 H3 => ∃ ρ3 O3 k, Rl k ρ3 O3 ∧ k < m ∧ StOk X.K B ρ3 O3 σ3 H3 ∧ Same (vis B.F O H) (vis B.F O3 H3), fun σ3 H3 ⟨ρ3, O3, k, q1, q2, q3, q4⟩ => ⟨_, q2, ρ3, O3, q1, q3, q4⟩, ρ', O', _, h1 rfl, s2, ?_⟩
    exact ⟨fun ρ3 O3 σ3 H3 ⟨ρ4, k, w, h4, l⟩ s3 e4 => ⟨ρ4, O3, k, h4, l, s3.weak w, e3.trans e4⟩, p.rt, fun ρ3 O3 σ3 H3 h3 s3 e4 => p.nx ρ3 O3 σ3 H3 h3 s3 (e3.trans e4), fun ρ3 O3 σ3 H3 ⟨ρ4, k, w, h4, l⟩ s3 e4 => ⟨ρ4, O3, k, h4, l, s3.weak w, e3.trans e4⟩, fun C f d ρ4 O3 σ3 H3 dx v h3 s3 e4 => p.ex C f d ρ4 O3 σ3 H3 dx v h3 s3 (e3.trans e4)⟩
  | false => exact iteF (p.nx ρ' O' σ' H2 (h2 rfl) s2 e3)
theorem jc1_while {cm : S → Cmp Bool} {f : S → Cmp S} {s0 : S} {n : Nat} {st : S → List (Option D) → Om → Prop} (hp : PassesOwn (model X.prog X.w) X.A X.env X.xe) (h0 : ∃ ρ0, Wk ρ0 ρ ∧ st s0 ρ0 O)
    (hb : ∀ s ρ O, st s ρ O → (cm s).ok → ET X B ρ O c (cm s).val ∧ ((cm s).val = true → JC X B body ρ O (aL st) (f s))) : JC1 X B (.While c body [] pos) ρ O (aN st) (whileN cm f n s0) := fun ok => by
  refine j_whileN (fun k ρ' O' => ∃ s, st s ρ' O' ∧ (whileN cm f k s).ok ∧ (whileN cm f k s).val = (whileN cm f n s0).val) n hp (by
    obtain ⟨ρ0, w, q⟩ := h0
    exact ⟨ρ0, w, s0, q, ok, rfl⟩) (fun k ρ' O' ⟨s, q, k1, k2⟩ => ?_)
  cases k with
  | zero => exact False.elim k1
  | succ k =>
    obtain ⟨o1, o2⟩ := k1
    obtain ⟨t, j⟩ := hb s ρ' O' q o1
    refine ⟨_, t, fun hv => ?_, fun hv => ?_⟩
    · have k2' : ((if (cm s).val = true then (f s).bind (whileN cm f k) else .ret s) : Cmp S).val = (whileN cm f n s0).val := k2
      rw [if_pos hv] at k2'
      have o2' : ((if (cm s).val = true then (f s).bind (whileN cm f k) else .ret s) : Cmp S).ok := o2
      rw [if_pos hv] at o2'
      have fin : ∀ ρ3 O3, (∃ ρ'', Wk ρ'' ρ3 ∧ st (f s).val ρ'' O3) → ∃ ρ4 k', Wk ρ4 ρ3 ∧ (∃ s, st s ρ4 O3 ∧ (whileN cm f k' s).ok ∧ (whileN cm f k' s).val = (whileN cm f n s0).val) ∧ k' < k + 1 := fun ρ3 O3 ⟨ρ4, w, q4⟩ => ⟨ρ4, k, w, ⟨_, q4, o2'.2, k2'⟩, Nat.lt_succ_self _⟩
      exact j_imp (j hv o2'.1) fin (fun _ _ z => z) (fun _ _ z => z.elim) fin (fun _ _ _ _ _ z => z.elim)
    · have k2' : ((if (cm s).val = true then (f s).bind (whileN cm f k) else .ret s) : Cmp S).val = (whileN cm f n s0).val := k2
      rw [if_neg (by rw [hv]; decide)] at k2'
      have k2'' : s = (whileN cm f n s0).val := k2'
      exact ⟨ρ', wk_refl, k2'' ▸ q⟩
inductive Drp : Om → Addr → M → Om → Prop where
  | head {O : Om} {p : Addr} {m : M} : Drp ((p, m) :: O) p m O
  | tail {O O' : Om} {q : Addr × M} {p : Addr} {m : M} : Drp O p m O' → Drp (q :: O) p m (q :: O')
theorem Drp.mem {p : Addr} {m : M} : ∀ {O O' : Om}, Drp O p m O' → (p, m) ∈ O
  | _, _, .head => List.mem_cons_self
  | _, _, .tail h => List.mem_cons_of_mem _ h.mem
theorem Drp.sub {p : Addr} {m : M} : ∀ {O O' : Om}, Drp O p m O' → List.Sublist O' O
  | _, _, .head => List.sublist_cons_self _ _
  | _, _, .tail h => h.sub.cons₂ _
theorem Drp.no {p : Addr} {m : M} : ∀ {O O' : Om}, Drp O p m O' → (O.map (·.1)).Nodup → has O' p = false
  | _, _, .head (O := O) (p := p), nd => by
    rw [List.map_cons, List.nodup_cons] at nd
    cases q : has O p with
    | false => rfl
    | true =>
      obtain ⟨m', h⟩ := has_mem.mp q
      exact absurd (List.mem_map_of_mem (f := (·.1)) h) nd.1
  | _, _, .tail (q := q) (O' := O') (p := p) h, nd => by
    rw [List.map_cons, List.nodup_cons] at nd
    have h1 := h.no nd.2
    have h2 : q.1 ≠ p := fun z => nd.1 (z ▸ List.mem_map_of_mem (f := (·.1)) h.mem)
    show (q.1 == p || has O' p) = false
    rw [h1, Bool.or_false]
    exact beq_eq_false_iff_ne.mpr h2
theorem has_sub {O O' : Om} (h : ∀ q ∈ O', q ∈ O) {a : Addr} (e : has O a = false) : has O' a = false := by
  cases q : has O' a with
  | false => rfl
  | true =>
    obtain ⟨m, hm⟩ := has_mem.mp q
    have := has_mem.mpr ⟨m, h _ hm⟩
    rw [e] at this; cases this
theorem vis_sub {F : Addr → Bool} {O O' : Om} {H : Hp} (h : ∀ q ∈ O', q ∈ O) : Same (vis F O H) (vis F O' H) := fun a o q => by
  obtain ⟨h1, h2, h3⟩ := vis_some.mp q
  exact vis_some.mpr ⟨h1, has_sub h h2, h3⟩
theorem StOk.sub {K : PySem.W.Frag} {σ : L2.St} {H : Hp} (s : StOk K B ρ O σ H) (h : ∀ q ∈ O', q ∈ O) (nd : (O'.map (·.1)).Nodup) : StOk K B ρ O' σ H :=
  ⟨⟨fun a o q => ⟨(s.m.base a o q).1, has_sub h (s.m.base a o q).2⟩, fun a m q => (s.m.mem a m (h _ q)).mono (vis_sub h) (fun _ q => q), nd, fun a m q => (s.m.lent a m q).mono (vis_sub h) (fun _ q => q)⟩, s.env.mono (vis_sub h)⟩
theorem StOk.frz1 {K : PySem.W.Frag} {σ : L2.St} {H : Hp} {q : Addr} (s : StOk K B ρ O σ H) (h : Drp O q (.lst ds) O') (i : Nat) (hi : ρ[i]? = some (some (.rf q))) : StOk K B (ρ.set i (some (.lst ds))) O' σ H := by
  have s' := s.sub (fun q hq => h.sub.subset hq) (s.m.nd.sublist (h.sub.map _))
  refine ⟨s'.m, ?_⟩
  obtain ⟨v, e1, r1⟩ := s.env.2 i _ hi
  cases r1
  obtain ⟨vs, h1, h2⟩ := s.m.mem _ _ h.mem
  have hq : has O q = true := has_mem.mpr ⟨_, h.mem⟩
  obtain ⟨fq, _, _⟩ := vis_some.mp (s.m.visM hq h1)
  have r : Rp K (vis B.F O' H) (.ref q) (.lst ds) := .lst (vis_some.mpr ⟨fq, h.no s.m.nd, h1⟩) (h2.mono (vis_sub fun q hq => h.sub.subset hq))
  have := s'.env.set (i := i) r
  rwa [show σ.set i (some (V.ref q)) = σ from by
    apply List.ext_getElem?
    intro j
    by_cases hj : i = j
    · subst hj
      rw [e1]
      have hl := (List.getElem?_eq_some_iff.mp e1).1
      rw [List.getElem?_set_self hl]
    · rw [List.getElem?_set_ne hj]] at this
theorem jc_conv {m : Cmp α} (hc : ∀ (K : PySem.W.Frag) σ H, StOk K B ρ O σ H → StOk K B ρ' O' σ H ∧ Same (vis B.F O H) (vis B.F O' H)) (h : JC X B ss ρ' O' A m) : JC X B ss ρ O A m := fun ok =>
  pss_imp (h ok) fun Dn σ H ⟨s, p⟩ => ⟨(hc _ _ _ s).1, p.grow (hc _ _ _ s).2⟩
theorem jc_frz {q : Addr} {m : Cmp α} (i : Nat) (hd : Drp O q (.lst ds) O') (hi : ρ[i]? = some (some (.rf q))) (h : JC X B ss (ρ.set i (some (.lst ds))) O' A m) : JC X B ss ρ O A m :=
  jc_conv (fun K σ H s => ⟨s.frz1 hd i hi, vis_sub fun q hq => hd.sub.subset hq⟩) h
theorem jc_drp {q : Addr} {mm : M} {m : Cmp α} (hd : Drp O q mm O') (h : JC X B ss ρ O' A m) : JC X B ss ρ O A m :=
  jc_conv (fun K σ H s => ⟨s.sub (fun q hq => hd.sub.subset hq) (s.m.nd.sublist (hd.sub.map _)), vis_sub fun q hq => hd.sub.subset hq⟩) h
theorem jc_perm {m : Cmp α} (hp : List.Perm O O') (h : JC X B ss ρ O' A m) : JC X B ss ρ O A m :=
  jc_conv (fun K σ H s => ⟨s.sub (fun q hq => hp.mem_iff.mpr hq) ((hp.map _).nodup_iff.mp s.m.nd), vis_sub fun q hq => hp.mem_iff.mpr hq⟩) h
end
end DL

set_option Elab.async false
set_option linter.all false
set_option maxRecDepth 100000
set_option maxHeartbeats 2000000
namespace DL
open PySem PySem.Spec PyProof.Rows L2
instance : Inhabited Str := ⟨Str.empty⟩
abbrev cS (c : Nat) : Str := ⟨#[c]⟩
abbrev eC (c : Nat) : D := .str (cS c)
abbrev dL {α : Type} (E : α → D) (xs : List α) : D := .lst (xs.map E)
abbrev dU {α : Type} (E : α → D) (xs : List α) : D := .tup (xs.map E)
abbrev dP2 {α β : Type} (E : α → D) (F : β → D) (p : α × β) : D := .tup [E p.1, F p.2]
abbrev dP3 {α β γ : Type} (E : α → D) (F : β → D) (G : γ → D) (p : α × β × γ) : D := .tup [E p.1, F p.2.1, G p.2.2]
abbrev dUnit (_ : Unit) : D := .non
def dO {α : Type} (E : α → D) : Option α → D
  | none => .non
  | some x => E x
abbrev Row := Int × Int × Int
abbrev dRow (r : Row) : D := .tup [.int r.1, .int r.2.1, .int r.2.2]
def rowAt (r : Row) (i : Int) : Int := if i = 0 then r.1 else if i = 1 then r.2.1 else r.2.2
def ixL {α : Type} [Inhabited α] (xs : List α) (i : Int) : α := xs.getD i.toNat default
def ixS (z : Str) (i : Int) : Nat := z.cps.toList.getD i.toNat 0
def lastL {α : Type} [Inhabited α] (xs : List α) : α := xs.getLastD default
def rangeL (lo hi : Int) : List Int := (List.range (hi - lo).toNat).map fun i : Nat => lo + (i : Int)
def enumL {α : Type} (xs : List α) : List (Int × α) := xs.zipIdx.map fun p => ((p.2 : Int), p.1)
abbrev charsL (z : Str) : List Nat := z.cps.toList
def intD (z : Str) : Int := (PySem.intText? z).getD 0
def IntOk (z : Str) : Prop := (PySem.intText? z).isSome = true ∧ z.length ≤ 640
theorem rng_eq (lo hi : Int) : rngD lo (hi - lo).toNat = (rangeL lo hi).map D.int := by
  unfold rngD rangeL
  rw [List.map_map]; rfl
theorem rng0_eq (hi : Int) : rngD 0 hi.toNat = (rangeL 0 hi).map D.int := by
  rw [← rng_eq, Int.sub_zero]
theorem enum_eq {α : Type} {E : α → D} (xs : List α) : enumD (xs.map E) = (enumL xs).map (dP2 D.int E) := by
  unfold enumD enumL
  refine List.ext_getElem (by simp) fun i h1 h2 => ?_
  have hi : i < xs.length := by simpa using h1
  simp [hi]
theorem atG {α : Type} [Inhabited α] {xs : List α} {E : α → D} {i : Int} (h : 0 ≤ i ∧ i < (xs.length : Int)) : atI (xs.map E) i = some (E (ixL xs i)) := atM default h.1 h.2
theorem atRow {r : Row} {i : Int} (h : 0 ≤ i ∧ i < 3) : atI [D.int r.1, D.int r.2.1, D.int r.2.2] i = some (.int (rowAt r i)) := by
  obtain ⟨h0, h1⟩ := h
  have : i = 0 ∨ i = 1 ∨ i = 2 := by omega
  rcases this with rfl | rfl | rfl <;> rfl
theorem mod_ix {a n : Int} {k : Nat} (h : 0 < n) (hk : n ≤ (k : Int)) : 0 ≤ a % n ∧ a % n < (k : Int) := ⟨Int.emod_nonneg _ (by omega), Int.lt_of_lt_of_le (Int.emod_lt_of_pos _ h) hk⟩
section
variable {X : Cx} {B : Gd} {ρ ρ' : List (Option D)} {O O' O1 O2 : Om} {a b c e o : Expr} {es : List Expr} {d d1 d2 d3 : D} {ds : List D} {pos pos' p apos : Pos} {b1 b2 : Bool} {st : Stmt} {ss rest s1 s2 body : List Stmt} {x : Str} {k kk : Nat}
variable {α β γ : Type} {E : α → D} {F : β → D}
theorem vsM {q : Addr} (h : (q, M.lst ds) ∈ O) : Vs (B.L ++ O) (.rf q) ds := .inr ⟨q, rfl, List.mem_append_right _ h⟩
theorem vsI : Vs (B.L ++ O) (.lst ds) ds := .inl rfl
theorem vsL (h : Vs B.L d ds) : Vs (B.L ++ O) d ds := by
  rcases h with h | ⟨a, h, m⟩
  · exact .inl h
  · exact .inr ⟨a, h, List.mem_append_left _ m⟩
theorem vwL (h : Vw B.L d ds) : Vw (B.L ++ O) d ds := by
  rcases h with h | h
  · exact .inl (vsL h)
  · exact .inr h
theorem vqL (h : Vq B.L d ds) : Vq (B.L ++ O) d ds := by
  rcases h with h | h
  · exact .inl (vwL h)
  · exact .inr h
theorem Vs.vw {d : D} (h : Vs O d ds) : Vw O d ds := .inl h
theorem Vw.vq {d : D} (h : Vw O d ds) : Vq O d ds := .inl h
theorem ei_conv {wi : TI} {G : Om → Prop} {tg iter : Expr} {es : List D} (h : EI X B ρ O tg iter wi G ds) (e : ds = es) : EI X B ρ O tg iter wi G es := e ▸ h
theorem ei_rng1 {tg na : Expr} {p p' : Pos} {n : Int} (hgl : Gl X "range") (hm : X.mg "range" = none) (hi : EA X B ρ O [na] [.int n]) (hn : -(2 ^ 62) ≤ n ∧ n < 2 ^ 62) (hse : starEach [na] X.env = [(false, eval na X.env)] := by rfl) :
    EI X B ρ O tg (.Call (.Name "range" p) [na] [] p') (iRng1 (tA X.K B ρ O [.int n])) (fun _ => True) ((rangeL 0 n).map D.int) := ei_conv (ei_range1 hgl hm hi hn hse) (rng0_eq n)
theorem ei_enumT {xs : List α} {ea : Expr} {elts : List Expr} {kk : Nat} {p p' tpos : Pos} (hgl : Gl X "enumerate") (hm : X.mg "enumerate" = none) (hi : EA X B ρ O [ea] [d]) (w : Vq (B.L ++ O) d (xs.map E)) (hse : starEach [ea] X.env = [(false, eval ea X.env)] := by rfl) :
    EI X B ρ O (.Tuple elts kk tpos) (.Call (.Name "enumerate" p) [ea] [] p') (iEnumT X.K (tA X.K B ρ O [d])) (fun O' => Vq (B.L ++ O') d (xs.map E)) ((enumL xs).map (dP2 D.int E)) := ei_conv (ei_enumQ hgl hm hi w hse) (enum_eq xs)
theorem ei_chars {tg iter : Expr} {z : Str} (hi : EV X B ρ O iter (.str z)) : EI X B ρ O tg iter (iStr (tD X.K B ρ O (.str z))) (fun _ => True) ((charsL z).map eC) := ei_str hi
theorem ei_row {tg iter : Expr} {r : Row} (hi : EV X B ρ O iter (dRow r)) : EI X B ρ O tg iter (iTup X.K (tD X.K B ρ O (dRow r))) (fun _ => True) ([r.1, r.2.1, r.2.2].map D.int) := ei_tup hi
theorem en_lcT {xs : List α} {h : α → D} {pr : α → Bool} {el : α → β} {elt iter tg : Expr} {ifs : List Expr} {scope : Scope} (own : List (Str × Nat)) {wi : TI} {G : Om → Prop} {g : TG} {sl : List Nat} {f}
    (hc : X.calm = true) (hN : X.N.Nodup) (hi : EI X B ρ O tg iter wi G (xs.map h)) (hG : G O) (ok : BlkOk X.N X.env.scope scope own)
    (hg : ∀ X', Blk X scope X' → EB X' tg g sl f) (hsl : ∀ j ∈ sl, j ∈ own.map (·.2))
    (hb : ∀ x ∈ xs, ∃ ρ', f (h x) (wipeD ρ (own.map (·.2))) = some ρ' ∧ (∀ X' B', B'.L = B.L → Blk X scope X' → ETs X' B' ρ' O ifs (pr x)) ∧ (pr x = true → ∀ X' B', B'.L = B.L → Blk X scope X' → EV X' B' ρ' O elt (F (el x))))
    (hz : xs.length < sizeLine) (hs : ∀ x, foldedSetIterable iter X.env x = pure x := by intro _; rfl) :
    EN X B ρ O (.ListComp elt [⟨tg, iter, ifs, 0⟩] scope pos) (((xs.filter pr).map el).map F) := by
  have := en_lcW (el := fun x => F (el x)) hc hN hi hG ok hg hsl hb hz hs (pos := pos)
  rwa [List.map_map]
theorem jc_setLc {A : γ → AE} {m : List β → Cmp γ} {xs : List α} {h : α → D} {pr : α → Bool} {el : α → β} {elt iter tg : Expr} {ifs : List Expr} {scope : Scope} (own : List (Str × Nat)) {wi : TI} {G : Om → Prop} {g : TG} {sl : List Nat} {f}
    (hc : X.calm = true) (hN : X.N.Nodup) (hi : EI X B ρ O tg iter wi G (xs.map h)) (hG : G O) (ok : BlkOk X.N X.env.scope scope own)
    (hg : ∀ X', Blk X scope X' → EB X' tg g sl f) (hsl : ∀ j ∈ sl, j ∈ own.map (·.2))
    (hb : ∀ x ∈ xs, ∃ ρ', f (h x) (wipeD ρ (own.map (·.2))) = some ρ' ∧ (∀ X' B', B'.L = B.L → Blk X scope X' → ETs X' B' ρ' O ifs (pr x)) ∧ (pr x = true → ∀ X' B', B'.L = B.L → Blk X scope X' → EV X' B' ρ' O elt (F (el x))))
    (hz : xs.length < sizeLine) (i : Nat) {y : Str} {py : Pos} (hy : X.N[i]? = some y) (hyl : X.env.scope.names.lookup y = some .local) (hsw : swapsWith (.ListComp elt [⟨tg, iter, ifs, 0⟩] scope pos') (some (.Name y py)) pos.line X.env = pure true)
    (hr : ∀ es, JC X B rest (ρ.set i (some (.lst (es.map F)))) O A (m es)) (hs : ∀ x, foldedSetIterable iter X.env x = pure x := by intro _; rfl) :
    JC X B (.Assign [.Name y py] (.ListComp elt [⟨tg, iter, ifs, 0⟩] scope pos') pos :: rest) ρ O A (.bnd ((xs.filter pr).map el) m) := fun ok' =>
  j_cons (j_setLc (el := fun x => F (el x)) hc hN hi hG ok hg hsl hb hz hy hyl hsw (es := (((xs.filter pr).map el).map F)) (by rw [List.map_map]; rfl) (hr _ ok') hs)
theorem jc_setLcN {A : γ → AE} {m : List β → Cmp γ} {xs : List α} {h : α → D} {pr : α → Bool} {el : α → β} {elt iter tg : Expr} {ifs : List Expr} {scope : Scope} (own : List (Str × Nat)) {wi : TI} {G : Om → Prop} {g : TG} {sl : List Nat} {f}
    (hc : X.calm = true) (hN : X.N.Nodup) (hi : EI X B ρ O tg iter wi G (xs.map h)) (hG : G O) (ok : BlkOk X.N X.env.scope scope own)
    (hg : ∀ X', Blk X scope X' → EB X' tg g sl f) (hsl : ∀ j ∈ sl, j ∈ own.map (·.2))
    (hb : ∀ x ∈ xs, ∃ ρ', f (h x) (wipeD ρ (own.map (·.2))) = some ρ' ∧ (∀ X' B', B'.L = B.L → Blk X scope X' → ETs X' B' ρ' O ifs (pr x)) ∧ (pr x = true → ∀ X' B', B'.L = B.L → Blk X scope X' → EV X' B' ρ' O elt (F (el x))))
    (hz : xs.length < sizeLine) (i : Nat) {y : Str} {py : Pos} (hy : X.N[i]? = some y) (hyl : X.env.scope.names.lookup y = some .local) (hsw : swapsWith (.ListComp elt [⟨tg, iter, ifs, 0⟩] scope pos') (some (.Name y py)) pos.line X.env = pure true)
    (hr : ∀ q es, has O q = false → JC X B rest (ρ.set i (some (.rf q))) ((q, .lst (es.map F)) :: O) A (m es)) (hs : ∀ x, foldedSetIterable iter X.env x = pure x := by intro _; rfl) :
    JC X B (.Assign [.Name y py] (.ListComp elt [⟨tg, iter, ifs, 0⟩] scope pos') pos :: rest) ρ O A (.bnd ((xs.filter pr).map el) m) := fun ok' => by
  refine j_cons ?_
  refine ps_imp (ps_setLc (own := own) (g := g) (tt := tAnyTs (Blk X scope) ifs) (te := tAnyE (Blk X scope) elt) hc hN hy hyl hsw hi.pi ok (fun s H C cl fp => (hg _ ⟨s, H, C, cl, fp, rfl⟩).pg) (fun s H C cl fp => anyTs_ok ⟨s, H, C, cl, fp, rfl⟩) (fun s H C cl fp => anyE_ok ⟨s, H, C, cl, fp, rfl⟩) hs) fun Dn σ H ⟨st, p⟩ => lcW_imp (el := fun x => F (el x)) hc hN hi hG ok hg hsl hb hz σ H _ ⟨st, fun q H1 vs hp e1 hv r => ?_⟩
  have op := st.m.newO hp
  have vs1 : Same (vis B.F O H) (vis B.F ((q, .lst (((xs.filter pr).map el).map F)) :: O) H1) := fun a o h => by
    obtain ⟨h1, h2, h3⟩ := vis_some.mp h
    have ne : a ≠ q := ne_of_none h3 hp
    exact vis_some.mpr ⟨h1, by rw [has_cons, h2, Bool.or_false]; exact beq_eq_false_iff_ne.mpr (Ne.symm ne), e1 _ _ h3⟩
  have r' : RpL X.K (vis B.F ((q, .lst (((xs.filter pr).map el).map F)) :: O) H1) vs (((xs.filter pr).map el).map F) := by
    rw [List.map_map] at *
    exact r
  refine p.nx _ _ _ H1 (hr q ((xs.filter pr).map el) op ok') ⟨⟨fun a o hb => ?_, fun a m hm => ?_, ?_, fun a m hm => (st.m.lent a m hm).mono vs1 fun o q => e1 _ _ q⟩, ?_⟩ vs1
  · have := st.m.base a o hb
    have ne : a ≠ q := ne_of_none this.1 hp
    exact ⟨e1 _ _ this.1, by rw [has_cons, this.2, Bool.or_false]; exact beq_eq_false_iff_ne.mpr (Ne.symm ne)⟩
  · rcases List.mem_cons.mp hm with z | z
    · cases z; exact ⟨vs, hv, r'⟩
    · exact (st.m.mem a m z).mono vs1 fun o q => e1 _ _ q
  · rw [List.map_cons, List.nodup_cons]
    refine ⟨fun z => ?_, st.m.nd⟩
    obtain ⟨⟨a, m⟩, hm, ea⟩ := List.mem_map.mp z
    have : has O q = true := has_mem.mpr ⟨m, by have z : a = q := ea; rw [← z]; exact hm⟩
    rw [op] at this; cases this
  · exact (st.env.mono vs1).set (.rf q)
theorem rdN {r : R2} {op : Operator} (ho : OpR X (binaryOp op) r) (ha : EV X B ρ O a d1) (hb : EV X B ρ O b d2)
    (hr : ∀ (x y : V) (H : Hp) (Q : VK), MOk X.K B O H → Rp X.K (vis B.F O H) x d1 → Rp X.K (vis B.F O H) y d2 → (∀ q H' vs, H q = none → Same H H' → H' q = some (.lst vs) → RpL X.K (vis B.F ((q, .lst ds) :: O) H') vs ds → Q (.ref q) H') → r x y H Q) :
    EN X B ρ O (.BinOp a op b pos) ds := pe_imp (pe_op ho ha hb) fun σ H Q ⟨st, k⟩ => ⟨st, fun x H1 e1 r1 => ⟨st.same e1, fun y H2 e2 r2 => hr x y H2 Q ((st.same e1).same e2).m (r1.mono (vis_same e2)) r2 fun q H3 vs hq e3 hv r => k q H3 vs (e1.free (e2.free hq)) ((e1.trans e2).trans e3) hv r⟩⟩
theorem en_cat {xs ys : List α} (ha : EV X B ρ O a d1) (hb : EV X B ρ O b d2) (w1 : Vs (B.L ++ O) d1 (xs.map E)) (w2 : Vs (B.L ++ O) d2 (ys.map E)) (hz : xs.length + ys.length ≤ sizeLine) : EN X B ρ O (.BinOp a .Add b pos) ((xs ++ ys).map E) :=
  rdN op_cat ha hb fun x y H Q m r1 r2 k => by
    obtain ⟨q1, v1, e1, h1, l1⟩ := w1.at m r1
    obtain ⟨q2, v2, e2, h2, l2⟩ := w2.at m r2
    have la := l1.length
    have lb := l2.length
    rw [List.length_map] at la lb
    refine ⟨q1, q2, v1, v2, e1, e2, h1, h2, by omega, ?_⟩
    rw [List.map_append] at k
    exact new_same m (l1.append l2) k
theorem vdI : Vd O d d := .inl rfl
theorem vdL (h : Vs B.L d ds) : Vd (B.L ++ O) d (.lst ds) := by
  rcases h with h | ⟨q, h, m⟩
  · exact .inl h
  · exact .inr ⟨q, ds, h, List.mem_append_left _ m, rfl⟩
theorem EqOk.bl : EqOk D.bl (fun _ => True) 0 PyData.bool := ⟨fun x => .bl x, fun x _ => by simp [PyData.canLay0], fun x => by simp [PyData.depth], fun x y => by rw [Bool.eq_iff_iff]; simp [PyData.eqv]⟩
theorem EqOk.p2 [DecidableEq α] [DecidableEq β] {P : α → Prop} {P' : β → Prop} {n n' : Nat} {g : α → PyData} {g' : β → PyData} (h : EqOk E P n g) (h' : EqOk F P' n' g') : EqOk (dP2 E F) (fun p => P p.1 ∧ P' p.2) (max n n' + 1) (fun p => PyData.tuple [g p.1, g' p.2]) :=
  ⟨fun p => .tup (.cons (h.py _) (.cons (h'.py _) .nil)), fun p q => by simp only [PyData.canLay0, PyData.canLayAll0, h.lay _ q.1, h'.lay _ q.2, Bool.and_self], fun p => by
    have h1 := h.dep p.1
    have h2 := h'.dep p.2
    simp only [PyData.depth, PyData.depthAll]
    omega, fun p q => by
    simp only [PyData.eqv, PyData.eqvAll, h.eqv, h'.eqv]
    rw [Bool.eq_iff_iff]
    simp only [Bool.and_eq_true, decide_eq_true_eq, and_true]
    exact Prod.ext_iff.symm⟩
theorem EqOk.p3 {γ : Type} {G : γ → D} [DecidableEq α] [DecidableEq β] [DecidableEq γ] {P : α → Prop} {P' : β → Prop} {P'' : γ → Prop} {n n' n'' : Nat} {g : α → PyData} {g' : β → PyData} {g'' : γ → PyData} (h : EqOk E P n g) (h' : EqOk F P' n' g') (h'' : EqOk G P'' n'' g'') :
    EqOk (dP3 E F G) (fun p => P p.1 ∧ P' p.2.1 ∧ P'' p.2.2) (max n (max n' n'') + 1) (fun p => PyData.tuple [g p.1, g' p.2.1, g'' p.2.2]) :=
  ⟨fun p => .tup (.cons (h.py _) (.cons (h'.py _) (.cons (h''.py _) .nil))), fun p q => by simp only [PyData.canLay0, PyData.canLayAll0, h.lay _ q.1, h'.lay _ q.2.1, h''.lay _ q.2.2, Bool.and_self], fun p => by
    have h1 := h.dep p.1
    have h2 := h'.dep p.2.1
    have h3 := h''.dep p.2.2
    simp only [PyData.depth, PyData.depthAll]
    omega, fun p q => by
    simp only [PyData.eqv, PyData.eqvAll, h.eqv, h'.eqv, h''.eqv]
    rw [Bool.eq_iff_iff]
    simp only [Bool.and_eq_true, decide_eq_true_eq, and_true]
    rw [Prod.ext_iff, Prod.ext_iff]⟩
abbrev okRow : Row → Prop := fun p => True ∧ True ∧ True
theorem EqOk.row : EqOk dRow okRow 1 (fun p : Row => PyData.tuple [.int p.1, .int p.2.1, .int p.2.2]) := EqOk.p3 EqOk.int EqOk.int EqOk.int
theorem okR (r : Row) : okRow r := ⟨trivial, trivial, trivial⟩
theorem okRs (rs : List Row) : ∀ r ∈ rs, okRow r := fun r _ => okR r
theorem ev_some [Inhabited α] {v : Option α} (h : EV X B ρ O e (dO E v)) (hs : v.isSome = true) : EV X B ρ O e (E (v.getD default)) := by
  cases v with
  | none => cases hs
  | some y => exact h
theorem isNon_dO {v : Option α} (hE : ∀ y, isNonD (E y) = false) : isNonD (dO E v) = v.isNone := by
  cases v with
  | none => rfl
  | some y => exact hE y
theorem et_isN {v : Option α} {j : Pos} (h : EV X B ρ O e (dO E v)) (hE : ∀ y, isNonD (E y) = false) : ET X B ρ O (.Compare e [.Is] [.Constant .none kk j] pos) v.isNone := et_conv (et_cmp op_isN rd_isN h ev_non (nomark _)) (isNon_dO hE)
theorem rc_intD {z : Str} {K : PySem.W.Frag} (h : IntOk z) : RC K B O (fun xs H Q => ∃ a n, xs = [.str a] ∧ PySem.intText? a = some n ∧ a.length ≤ 640 ∧ Q (.int n) H) [.str z] (.int (intD z)) := by
  obtain ⟨h1, h2⟩ := h
  obtain ⟨n, hn⟩ := Option.isSome_iff_exists.mp h1
  have : intD z = n := by unfold intD; rw [hn]; rfl
  rw [this]
  exact rc_intS hn h2
end
end DL

set_option Elab.async false
set_option linter.all false
set_option maxRecDepth 100000
set_option maxHeartbeats 2000000
namespace DL
open PySem PySem.Spec PyProof.Rows L2
section
variable {X : Cx} {B : Gd} {ρ ρ' : List (Option D)} {O O' O1 O2 : Om} {a b c e o : Expr} {es : List Expr} {d d1 d2 d3 : D} {ds : List D} {pos pos' p apos : Pos} {b1 b2 : Bool} {st : Stmt} {ss rest s1 s2 body : List Stmt} {x : Str} {k kk : Nat}
variable {α β γ : Type} {E : α → D} {F : β → D} {A : γ → AE}
theorem wk_nn {r r' : List (Option D)} (h : Wk r r') : Wk (none :: r) (none :: r') := wk_none h
theorem ev_ifG {x y : α} (hc : ET X B ρ O c b1) (ha : b1 = true → EV X B ρ O a (E x)) (hb : b1 = false → EV X B ρ O b (E y)) : EV X B ρ O (.IfExp c a b pos) (E (if b1 = true then x else y)) := by
  cases b1 with
  | true => exact ev_if hc ha (fun h => nomatch h)
  | false => exact ev_if hc (fun h => nomatch h) hb
theorem atS2 {z : Str} {i : Int} (h : 0 ≤ i ∧ i < (z.length : Int)) : atI z.cps.toList i = some (ixS z i) := atS h.1 h.2
theorem dt_vs (h : Vs (B.L ++ O) d ds) : DT (B.L ++ O) d "list" := by
  rcases h with rfl | ⟨a, rfl, h⟩
  · exact .lst
  · exact .mlst h
theorem rc_intB {b : Bool} {K : PySem.W.Frag} : RC K B O (fun xs H Q => (∃ i, xs = [.int i] ∧ Q (.int i) H) ∨ ∃ k, xs = [.bl k] ∧ Q (.int (if k then 1 else 0)) H) [.bl b] (.int (if b = true then 1 else 0)) := fun xs H Q m r k => by
  cases r with
  | cons h r => cases r; cases h; exact .inr ⟨b, rfl, k _ H (Same.refl H) (.int _)⟩
theorem et_inDT {f : Str → Option α} {q : Addr} {z : Str} (D : KDi X.K X.w q (fun z => (f z).map E)) (ha : EV X B ρ O a (.str z)) (hb : EV X B ρ O b (.rf q)) (hm : behindInMarks .In b = false) : ET X B ρ O (.Compare a [.In] [b] pos) (f z).isSome := et_conv (et_inD D ha hb hm) (by simp)
theorem ev_itemDT [Inhabited α] {f : Str → Option α} {q : Addr} {z : Str} (D : KDi X.K X.w q (fun z => (f z).map E)) (ha : EV X B ρ O a (.rf q)) (hb : EV X B ρ O b (.str z)) (h : (f z).isSome = true) (hs : PlainIx b := by intro _ _; rfl) : EV X B ρ O (.Subscript a b pos) (E ((f z).getD default)) := by
  refine ev_itemD D ha hb ?_ hs
  cases hf : f z with
  | none => rw [hf] at h; cases h
  | some y => simp
theorem ev_getDT {f : Str → Option α} {q : Addr} {z : Str} {e1 e2 : Expr} {y : α} (D : KDi X.K X.w q (fun z => (f z).map E)) (ho : EV X B ρ O o (.rf q)) (he : EV X B ρ O e1 (.str z)) (hf : EV X B ρ O e2 (E y)) (m : M2 X o "get" apos e1 e2 pos := by exact ⟨rfl, rfl, rfl, rfl⟩) : EV X B ρ O (.Call (.Attribute o "get" apos) [e1, e2] [] pos) (E ((f z).getD y)) :=
  ev_conv (ev_getD D ho he hf m) (by cases f z <;> rfl)
theorem map_lastL [Inhabited α] {xs : List α} (h : 0 < xs.length) : (xs.map E)[(xs.map E).length - 1]? = some (E (lastL xs)) := by
  obtain ⟨ys, y, rfl⟩ : ∃ ys y, xs = ys ++ [y] := by
    rcases List.eq_nil_or_concat xs with e | ⟨ys, y, e⟩
    · subst e; simp at h
    · exact ⟨ys, y, by simpa using e⟩
  unfold lastL
  rw [List.getLastD_concat, List.length_map, List.length_append, List.length_singleton, List.map_append, Nat.add_sub_cancel]
  rw [List.getElem?_append_right (by simp)]
  simp
theorem eg_popT [Inhabited α] {q : Addr} {xs : List α} {O2 : List α → Om} (ho : EV X B ρ O o (.rf q)) (h0 : 0 < xs.length) (hp : ∀ ys : List α, Put O q (.lst (xs.map E)) (.lst (ys.map E)) (O2 ys))
    (hbase : attributeBase o "pop" X.env (eval o X.env) = eval o X.env := by rfl) (hline : (apos.endLine == pos.line) = true := by rfl) : EG X B ρ O (.Call (.Attribute o "pop" apos) [] [] pos) (E (lastL xs)) (O2 xs.dropLast) :=
  eg_pop ho (map_lastL h0) (by have := hp xs.dropLast; rw [List.map_dropLast] at this; exact this) hbase hline
theorem jc_pop [Inhabited α] (i : Nat) {q : Addr} {xs : List α} {m : α → List α → Cmp γ} {O2 : List α → Om} (nd : X.N.Nodup) (ho : EV X B ρ O o (.rf q)) (hp : ∀ ys : List α, Put O q (.lst (xs.map E)) (.lst (ys.map E)) (O2 ys)) (h0 : 0 < xs.length)
    (h : ∀ y ys, JC X B rest (ρ.set i (some (E y))) (O2 ys) A (m y ys)) (hbase : attributeBase o "pop" X.env (eval o X.env) = eval o X.env := by rfl) (hline : (apos.endLine == pos.line) = true := by rfl)
    (hi : X.N[i]? = some x := by rfl) (hx : Loc X.env.scope x := by first | exact .inl rfl | exact .inr rfl) (hs : swapsWith (.Call (.Attribute o "pop" apos) [] [] pos) (some (.Name x pos')) p.line X.env = pure false := by rfl)
    (hf : X.fn x = true ∨ X.env.scope.names.lookup x = some .local := by first | exact .inr rfl | exact .inl rfl) : JC X B (.Assign [.Name x pos'] (.Call (.Attribute o "pop" apos) [] [] pos) p :: rest) ρ O A (.bnd (lastL xs) fun y => .bnd xs.dropLast fun ys => m y ys) := fun ok =>
  j_cons (ssetG i nd (eg_popT ho h0 hp hbase hline) (h _ _ ok) hi hx hs hf)
theorem jc_appendG {q : Addr} {v : α} {ys0 xs : List α} {m : List α → Cmp γ} {O1 : Om} {O2 : List α → Om} (ho : EV X B ρ O o (.rf q)) (hm : (q, M.lst (ys0.map E)) ∈ O) (he : EG X B ρ O e (E v) O1) (hp : ∀ ys : List α, Put O1 q (.lst (xs.map E)) (.lst (ys.map E)) (O2 ys)) (hz : xs.length < sizeLine) (h : ∀ ys, JC X B rest ρ (O2 ys) A (m ys))
    (hbase : attributeBase o "append" X.env (eval o X.env) = eval o X.env := by rfl)
    (hfew : ((backTo pos (starEach [e] X.env)).all (fun x => !x.1) && (backToKw pos (keywordEach [] X.env)).all (fun x => x.1.isSome)
      && decide ([e].length + ([] : List Keyword).length + (if ([] : List Keyword).isEmpty then 0 else 1) < 30)) = true := by rfl)
    (hline : (apos.endLine == pos.line) = true := by rfl) (hs : starEach [e] X.env = (false, eval e X.env) :: starEach [] X.env := by rfl) (hplain : (backTo pos (starEach [] X.env)).any (·.1) = false := by rfl)
    (hsw : swapsWith (.Call (.Attribute o "append" apos) [e] [] pos) none pos'.line X.env = pure false := by rfl) :
    JC X B (.Expr (.Call (.Attribute o "append" apos) [e] [] pos) pos' :: rest) ρ O A (.bnd (xs ++ [v]) m) := fun ok =>
  j_cons (j_expr (eg_append (d := E v) (ds := xs.map E) ho hm he (by have := hp (xs ++ [v]); rw [List.map_append] at this; exact this) (by rw [List.length_map]; exact hz) hbase hfew hline hs hplain) (h _ ok) hsw)
theorem jc_fldNew {C : Addr} {q : Addr} {ns : List Str} {f : Str} {v : α} {m : α → Cmp γ} {O2 : α → Om} (ho : EV X B ρ O o (.rf q)) (he : EV X B ρ O e (E v)) (c : Cls X.K C) (n : NoAttr X.K C f) (hp : ∀ y, Put O q (.ins C ns ds) (.ins C (ns ++ [f]) (ds ++ [E y])) (O2 y)) (hi : ns.idxOf? f = none) (hl : ns.length < 1000)
    (h : ∀ y, JC X B rest ρ (O2 y) A (m y)) (hs : swapsWith e (some (.Attribute o f pos')) pos.line X.env = pure false := by rfl) : JC X B (.Assign [.Attribute o f pos'] e pos :: rest) ρ O A (.bnd v m) := fun ok =>
  j_cons (j_fldNew ho he c n (hp v) hi hl (h v ok) hs)
theorem ev_globS {t : Str} (hg : Gl X x) (hm : ∃ tk, X.mg x = some (.str t tk)) (hd : (x == ("__debug__" : Str)) = false := by decide) : EV X B ρ O (.Name x pos) (.str t) := by
  obtain ⟨tk, hm⟩ := hm
  exact ev_glob (v := .str t) hg hm ⟨_, rfl⟩ (fun _ => .str _) hd
end
section
variable {P : Program} {w : World} {K : PySem.W.Frag} {mg : Str → Option Value} {base : Heap}
theorem fn_pureV {Ar : Om → List D → D → Prop} {x qual : Str} {st : Stmt} {f : Addr} {fd : FuncData} {N ps : List Str} {k : Nat} (F : Fun K x qual st f fd) (S : FnScope N ps (defScope st)) (len : ∀ L ds d, Ar L ds d → ds.length = ps.length)
    (h : ∀ (cdv : Value) (A : Around) (outer : List Env) (s : Shared) (H : Hp) (E : XK) (B : Gd) (ds : List D) (d : D), Room k (A.deeper (envOfC qual (defScope st) s.heap.objs.size f cdv)) → Ar B.L ds d →
      J (cxOf CX0 P w K mg base N qual (defScope st) f cdv A outer s H E).nox B (defBody st) (startD N ds) [] { nx := fun _ O' => Frz O' .non d, rt := fun d' O' => Frz O' d' d }) : FnOk P w K mg base CX0 (k + 1) f fd ps (spP K Ar) := by
  refine F.ok S (fun vs H Q E q => ?_) (fun cdv A outer s H vs Q E hr q => ?_)
  · obtain ⟨F', L, ds, d, _, r, ha, _⟩ := q
    rw [r.length]; exact len L ds d ha
  · obtain ⟨F', L, ds, d, bo, r, ha, kk⟩ := q
    refine ⟨_, h cdv A outer s H E ⟨F', H, fun c d _ H => E c d H, L, bo.ok, bo.lF⟩ ds d hr ha, ⟨⟨fun a o e => ⟨e, rfl⟩, (fun a m hm => nomatch hm), (by simp), bo.lent⟩, start_env r⟩, ?_, ?_, fun _ _ _ _ z => z.elim, fun _ _ _ _ z => z.elim, fun _ _ _ _ _ _ _ _ _ z => z.elim⟩
    · intro ρ O σ H' fz s' _
      exact kk _ H' (fun a o q => (s'.m.base a o q).1) (Rp.frz vis_all s'.m.frz fz .non)
    · intro d' O' v H' fz m r'
      exact kk v H' (fun a o q => (m.base a o q).1) (Rp.frz vis_all m.frz fz r')
theorem fn_newV {Ar : Om → List D → List D → Prop} {x qual : Str} {st : Stmt} {f : Addr} {fd : FuncData} {N ps : List Str} {k : Nat} (F : Fun K x qual st f fd) (S : FnScope N ps (defScope st)) (len : ∀ L ds d, Ar L ds d → ds.length = ps.length)
    (h : ∀ (cdv : Value) (A : Around) (outer : List Env) (s : Shared) (H : Hp) (E : XK) (B : Gd) (ds : List D) (es : List D), Room k (A.deeper (envOfC qual (defScope st) s.heap.objs.size f cdv)) → Ar B.L ds es →
      J (cxOf CX0 P w K mg base N qual (defScope st) f cdv A outer s H E).nox B (defBody st) (startD N ds) [] { nx := fun _ O' => ∃ p, D.non = .rf p ∧ O' = [(p, .lst es)], rt := fun d' O' => ∃ p, d' = .rf p ∧ O' = [(p, .lst es)] }) : FnOk P w K mg base CX0 (k + 1) f fd ps (spN K Ar) :=
  fn_new F S len fun cdv A outer s H E B ds es hr ha => j_imp (h cdv A outer s H E B ds es hr ha) (fun _ _ ⟨_, z, _⟩ => nomatch z) (fun _ _ z => z) (fun _ _ z => z) (fun _ _ z => z) (fun _ _ _ _ _ z => z)
end
end DL

set_option Elab.async false
set_option linter.all false
set_option maxRecDepth 100000
set_option maxHeartbeats 2000000
namespace PySem
namespace ErX
open PySem.W PySem.Calls PyProof.Rows PySem.HandSPX
section
variable {prog : Program} {w : World} {A : Around} {E : Value → Shared → Prop} {R : Result → Shared → Prop} {s : Shared} {K : Frag} {mg : Str → Option Value} {C fI : Addr} {n : Str} {base : Heap}
end
end ErX
end PySem

set_option Elab.async false
set_option linter.all false
set_option maxRecDepth 100000
set_option maxHeartbeats 2000000
namespace DL
open PySem PySem.Spec PyProof.Rows L2
def lookS : List (Str × Int) → Str → Option Int
  | [], _ => none
  | (k, i) :: r, z => if k = z then some i else lookS r z
def keyVal (e : DictEntry) : Option (Str × Int) := match e.key, e.val with
  | .str k _, .int v _ => some (k, v)
  | _, _ => none
def opsL : List (Str × Int) := [("not", 1), ("flip", 1), ("and", 2), ("or", 2), ("else", 2), ("pareto", 2)]
theorem kdi_of {K : PySem.W.Frag} {w : World} {a : Addr} {es : Array DictEntry} {n : Nat} {kvs : List (Str × Int)} (hl : K.lookup a = some ⟨.type "dict", none, .dict es n, #[]⟩) (lit : PySem.W.KeysLit w.params es.toList) (low : (a == sysModules) = false)
    (h : es.toList.map keyVal = kvs.map some) {f : Str → Option D} (hf : ∀ z, f z = (lookS kvs z).map fun i => D.int i) : KDi K w a f := by
  refine ⟨⟨es, n, hl, lit, low⟩, fun z => ?_⟩
  have key : ∀ (l : List DictEntry) (kvs : List (Str × Int)), l.map keyVal = kvs.map some → (l.find? (·.key.isStr z) = none ∧ lookS kvs z = none ∧ l.any (·.refKey) = false) ∨ ∃ e i t, l.find? (·.key.isStr z) = some e ∧ e.val = .int i t ∧ lookS kvs z = some i := by
    intro l
    induction l with
    | nil => intro kvs h; cases kvs with
      | nil => exact .inl ⟨rfl, rfl, rfl⟩
      | cons _ _ => cases h
    | cons e l ih =>
      intro kvs h
      cases kvs with
      | nil => cases h
      | cons q kvs =>
        rw [List.map_cons, List.map_cons] at h
        injection h with h1 h2
        obtain ⟨k, i⟩ := q
        obtain ⟨hash, ek, ev⟩ := e
        unfold keyVal at h1
        cases ek with
        | str k' t' =>
          cases ev with
          | int i' t2 =>
            have h3 := Option.some.inj h1
            injection h3 with h4 h5
            subst h4 h5
            by_cases hk : k' = z
            · have e1 : (Value.str k' t').isStr z = true := by simp [Value.isStr, hk]
              have hfd : List.find? (fun x => x.key.isStr z) ((⟨hash, .str k' t', .int i' t2⟩ : DictEntry) :: l) = some ⟨hash, .str k' t', .int i' t2⟩ := by rw [List.find?_cons, e1]
              refine .inr ⟨_, i', t2, hfd, rfl, ?_⟩
              · show (if k' = z then _ else _) = _
                rw [if_pos hk]
            · have e1 : (Value.str k' t').isStr z = false := by simp [Value.isStr, hk]
              have e2 : lookS ((k', i') :: kvs) z = lookS kvs z := by show (if k' = z then _ else _) = _; rw [if_neg hk]
              rcases ih kvs h2 with ⟨a1, a2, a3⟩ | ⟨e, i, t, a1, a2, a3⟩
              · exact .inl ⟨by rw [List.find?_cons, e1]; exact a1, e2.trans a2, by rw [List.any_cons, a3]; rfl⟩
              · exact .inr ⟨e, i, t, by rw [List.find?_cons, e1]; exact a1, a2, e2.trans a3⟩
          | _ => cases h1
        | _ => cases h1
  have e0 : PySem.W.nsIn K a z = (match es.toList.find? (·.key.isStr z) with
      | some e => some (some e.val)
      | none => if es.toList.any (·.refKey) then none else some none) := by
    unfold PySem.W.nsIn; rw [hl]; rfl
  rcases key _ _ h with ⟨a1, a2, a3⟩ | ⟨e, i, t, a1, a2, a3⟩
  · refine ⟨none, by rw [e0, a1]; simp only [a3]; rfl, ?_⟩
    rw [hf, a2]; trivial
  · refine ⟨some e.val, by rw [e0, a1], ?_⟩
    rw [hf, a3]
    exact ⟨.int i, by rw [a2]; exact ⟨t, rfl⟩, fun H => .int i⟩
theorem kdi_ofT {K : PySem.W.Frag} {w : World} {a : Addr} {es : Array DictEntry} {n : Nat} {kvs : List (Str × Int)} (hl : K.lookup a = some ⟨.type "dict", none, .dict es n, #[]⟩) (lit : PySem.W.KeysLit w.params es.toList) (low : (a == sysModules) = false)
    (h : es.toList.map keyVal = kvs.map some) {f : Str → Option Int} (hf : ∀ z, f z = lookS kvs z) : KDi K w a (fun z => (f z).map D.int) := kdi_of hl lit low h fun z => by rw [hf]
def arLaw (L : Om) (ds : List D) (d : D) : Prop := ∃ s : List Int, ds = [.frl (s.map D.int)] ∧ s.length ≤ 63 ∧ d = .bl true
theorem law_sp {K : PySem.W.Frag} {H : Hp} {a : Addr} {ns : List Int} {Q : VK} {E : XK} {Ar : Om → List D → D → Prop} (hA : Ar [] [.frl (ns.map D.int)] (.bl true)) (hS : SqL K H a (ns.map V.int)) (k : ∀ H', Q (.bl true) H') : spP K Ar [.ref a] H Q E := by
  have e : Same H (vis (fun _ => false) [] H) := fun a o h => vis_some.mpr ⟨rfl, rfl, h⟩
  exact ⟨fun _ => false, [], [.frl (ns.map D.int)], .bl true, ⟨fun a h => (by cases h), fun a m h => (by cases h), fun a m h => (by cases h)⟩, .cons (.frl (e.seq hS) (RpL.ofInts ns)) .nil, hA, fun v H' _ r => by cases r; exact k H'⟩
section
variable {P : Program} {w : World} {K : PySem.W.Frag} {mg : Str → Option Value} {base : Heap} {CX : CXT} {k : Nat} {f : Addr} {fd : FuncData} {ps : List Str}
theorem fn_law {Ar : Om → List D → D → Prop} (F : FnOk P w K mg base CX k f fd ps (spP K Ar)) (h : ∀ (L : Om) (s : List Int), s.length ≤ 63 → Ar L [.frl (s.map D.int)] (.bl true)) : FnOk P w K mg base CX k f fd ps (spP K arLaw) :=
  F.imp fun vs H Q E ⟨F', L, ds, d, bo, r, ⟨s, e1, e2, e3⟩, kk⟩ => ⟨F', L, ds, d, bo, r, by subst e1 e3; exact h L s e2, kk⟩
theorem fn_never {Ar : Om → List D → D → Prop} (h : ∀ L ds d, ¬ Ar L ds d) : FnOk P w K mg base CX k f fd ps (spP K Ar) :=
  ⟨fun vs H Q E ⟨_, _, _, _, _, _, ha, _⟩ => absurd ha (h _ _ _), fun A outer s H args us vs Q E _ _ _ _ ⟨_, _, _, _, _, _, ha, _⟩ => absurd ha (h _ _ _)⟩
end
def Cmp.sat {α : Type} (m : Cmp α) (Q : α → Prop) : Prop := m.ok ∧ Q m.val
section
variable {α β S L R : Type} {Q : α → Prop}
theorem sat_ret {v : α} (h : Q v) : (Cmp.ret v).sat Q := ⟨trivial, h⟩
theorem sat_req {p : Prop} {m : Cmp α} (hp : p) (h : m.sat Q) : (Cmp.req p m).sat Q := ⟨⟨hp, h.1⟩, h.2⟩
theorem sat_bnd {v : β} {f : β → Cmp α} (h : (f v).sat Q) : (Cmp.bnd v f).sat Q := h
theorem sat_bind {m : Cmp β} {f : β → Cmp α} {P : β → Prop} (h : m.sat P) (k : ∀ b, P b → (f b).sat Q) : (m.bind f).sat Q := ⟨⟨h.1, (k _ h.2).1⟩, (k _ h.2).2⟩
theorem sat_ite {b : Bool} {m1 m2 : Cmp α} (h1 : b = true → m1.sat Q) (h2 : b = false → m2.sat Q) : (if b = true then m1 else m2).sat Q := by
  cases b with
  | true => exact h1 rfl
  | false => exact h2 rfl
theorem sat_mono {m : Cmp α} {P : α → Prop} (h : m.sat P) (k : ∀ a, P a → Q a) : m.sat Q := ⟨h.1, k _ h.2⟩
theorem sat_forN {xs : List β} {f : β → S → Cmp S} {s : S} (I : Nat → S → Prop) (h0 : I 0 s) (hs : ∀ i x s, xs[i]? = some x → I i s → (f x s).sat (I (i + 1))) : (forN f xs s).sat (I xs.length) := by
  induction xs generalizing s I with
  | nil => exact ⟨trivial, h0⟩
  | cons x xs ih =>
    have h1 := hs 0 x s rfl h0
    have h2 := ih (s := (f x s).val) (fun i s => I (i + 1) s) h1.2 fun i y s hy => hs (i + 1) y s (by simpa using hy)
    exact ⟨⟨h1.1, h2.1⟩, h2.2⟩
theorem sat_forR {n : Int} {f : Int → S → Cmp S} {s : S} (I : Nat → S → Prop) (h0 : I 0 s) (hs : ∀ (i : Nat) s, (i : Int) < n → I i s → (f (i : Int) s).sat (I (i + 1))) : (forN f (rangeL 0 n) s).sat (I n.toNat) := by
  have hl : (rangeL 0 n).length = n.toNat := by simp [rangeL]
  have := sat_forN (xs := rangeL 0 n) (f := f) (s := s) I h0 fun i x s hx hi => by
    obtain ⟨hi', e⟩ := List.getElem?_eq_some_iff.mp hx
    rw [hl] at hi'
    have : x = (i : Int) := by rw [← e]; simp [rangeL]
    subst this
    exact hs i s (by omega) hi
  rwa [hl] at this
theorem sat_bindR [Inhabited R] {m : Cmp (Ctl S L R)} {k : S → Cmp R} {Q : R → Prop} {P : Ctl S L R → Prop} (h : m.sat P) (k' : ∀ c, P c → (c.thenR k).sat Q) : (m.bindR k).sat Q := sat_bind h k'
theorem sat_forC {xs : List β} {f : β → S → Cmp (Ctl S S R)} {s : S} (I : Nat → S → Prop) (h0 : I 0 s) (hs : ∀ i x s, xs[i]? = some x → I i s → (f x s).sat fun c => ∃ s', (c = .nx s' ∨ c = .ct s') ∧ I (i + 1) s') : (forC (L := L) f xs s).sat fun c => ∃ s', c = .nx s' ∧ I xs.length s' := by
  induction xs generalizing s I with
  | nil => exact ⟨trivial, s, rfl, h0⟩
  | cons x xs ih =>
    obtain ⟨o1, s', h1, h2⟩ := hs 0 x s rfl h0
    have h3 := ih (s := s') (fun i s => I (i + 1) s) h2 fun i y s hy => hs (i + 1) y s (by simpa using hy)
    unfold forC
    refine sat_bind (P := fun c => c = .nx s' ∨ c = .ct s') ⟨o1, h1⟩ fun c hc => ?_
    rcases hc with rfl | rfl <;> exact h3
theorem sat_forCx {xs : List β} {f : β → S → Cmp (Ctl S S R)} {s : S} (I : Nat → S → Prop) (J : Ctl S L R → Prop) (h0 : I 0 s) (hs : ∀ i x s, xs[i]? = some x → I i s → (f x s).sat fun c => match c with | .nx s' => I (i + 1) s' | .ct s' => I (i + 1) s' | .bk s' => J (.nx s') | .rt r => J (.rt r) | .ex e => J (.ex e))
    (he : ∀ s', I xs.length s' → J (.nx s')) : (forC (L := L) f xs s).sat J := by
  induction xs generalizing s I with
  | nil => exact ⟨trivial, he _ h0⟩
  | cons x xs ih =>
    have h1 := hs 0 x s rfl h0
    unfold forC
    refine sat_bind h1 fun c hc => ?_
    cases c with
    | nx s' => exact ih (fun i s => I (i + 1) s) hc (fun i y s hy => hs (i + 1) y s (by simpa using hy)) he
    | ct s' => exact ih (fun i s => I (i + 1) s) hc (fun i y s hy => hs (i + 1) y s (by simpa using hy)) he
    | bk s' => exact ⟨trivial, hc⟩
    | rt r => exact ⟨trivial, hc⟩
    | ex e => exact ⟨trivial, hc⟩
theorem sat_while {c : S → Cmp Bool} {f : S → Cmp S} {s : S} {n : Nat} {Q : S → Prop} (I : S → Prop) (μ : S → Nat) (h0 : I s) (hn : μ s < n) (hc : ∀ s, I s → (c s).sat fun b => (b = true → (f s).sat fun s' => I s' ∧ μ s' < μ s) ∧ (b = false → Q s)) : (whileN c f n s).sat Q := by
  induction n generalizing s with
  | zero => omega
  | succ n ih =>
    unfold whileN
    refine sat_bind (hc s h0) fun b hb => sat_ite (fun e => ?_) (fun e => ?_)
    · exact sat_bind (hb.1 e) fun s' h' => ih h'.1 (by omega)
    · exact ⟨trivial, hb.2 e⟩
end
end DL

set_option Elab.async false
set_option linter.all false
set_option maxRecDepth 100000
set_option maxHeartbeats 4000000
namespace DL
open PySem PySem.Spec PyProof.Rows L2 TL
section
variable {X : Cx} {B : Gd} {ρ : List (Option D)} {O : Om} {d : D}
end
section
variable {α : Type} {E : α → D} {B : Gd} {O : Om} {d2 : D}
end
section
variable {X : Cx} {B : Gd} {ρ : List (Option D)} {O : Om} {d : D} {C : Addr} {ds fs es' : List D} {k : Nat} {o e : Expr} {es : List Expr} {pos apos : Pos}
end
end DL

set_option Elab.async false
set_option linter.all false
set_option maxRecDepth 100000
set_option maxHeartbeats 4000000
namespace DL
open PySem PySem.Spec PyProof.Rows L2 TL
inductive Tr where
  | leaf (z : Str)
  | un (h : Str) (t : Tr)
  | bin (h : Str) (a b : Tr)
instance : Inhabited Tr := ⟨.leaf Str.empty⟩
def eTr : Tr → D
  | .leaf z => .str z
  | .un h t => .tup [.str h, eTr t]
  | .bin h a b => .tup [.str h, eTr a, eTr b]
namespace Tr
def isLeaf : Tr → Bool
  | .leaf _ => true
  | _ => false
def isBin : Tr → Bool
  | .bin _ _ _ => true
  | _ => false
def word : Tr → Str
  | .leaf z => z
  | _ => Str.empty
def head : Tr → Str
  | .leaf _ => Str.empty
  | .un h _ => h
  | .bin h _ _ => h
def c1 : Tr → Tr
  | .leaf z => .leaf z
  | .un _ t => t
  | .bin _ a _ => a
def c2 : Tr → Tr
  | .bin _ _ b => b
  | t => t
def kids : Tr → List Tr
  | .leaf _ => []
  | .un _ t => [t]
  | .bin _ a b => [a, b]
end Tr
section
variable {X : Cx} {B : Gd} {ρ : List (Option D)} {O : Om} {d : D} {ds : List D} {a b e : Expr} {pos p2 : Pos} {t : Tr}
theorem rc_isTr {K : PySem.W.Frag} : RC K B O (rIsi K) [eTr t, .ty "str"] (.bl t.isLeaf) := by
  cases t with
  | leaf z => exact rc_isi .str (by rfl)
  | un h t => exact rc_isi .tup (by rfl)
  | bin h a b => exact rc_isi .tup (by rfl)
theorem ev_trW (ha : EV X B ρ O a (eTr t)) (h : t.isLeaf = true) : EV X B ρ O a (.str t.word) := by
  cases t with
  | leaf z => exact ha
  | un h t => cases h
  | bin h a b => cases h
theorem ev_trH (ha : EV X B ρ O a (eTr t)) (hb : EV X B ρ O b (.int 0)) (h : t.isLeaf = false) (hs : PlainIx b := by intro _ _; rfl) : EV X B ρ O (.Subscript a b pos) (.str t.head) := by
  cases t with
  | leaf z => cases h
  | un h t => exact ev_ixT ha hb (by rfl) hs
  | bin h a b => exact ev_ixT ha hb (by rfl) hs
theorem ev_tr1 (ha : EV X B ρ O a (eTr t)) (hb : EV X B ρ O b (.int 1)) (h : t.isLeaf = false) (hs : PlainIx b := by intro _ _; rfl) : EV X B ρ O (.Subscript a b pos) (eTr t.c1) := by
  cases t with
  | leaf z => cases h
  | un h t => exact ev_ixT ha hb (by rfl) hs
  | bin h a b => exact ev_ixT ha hb (by rfl) hs
theorem ev_tr2 (ha : EV X B ρ O a (eTr t)) (hb : EV X B ρ O b (.int 2)) (h : t.isBin = true) (hs : PlainIx b := by intro _ _; rfl) : EV X B ρ O (.Subscript a b pos) (eTr t.c2) := by
  cases t with
  | leaf z => cases h
  | un h t => cases h
  | bin h a b => exact ev_ixT ha hb (by rfl) hs
theorem ev_sliceT {lo hi : Option Expr} {l h : Option Int} (ha : EV X B ρ O e (.tup ds)) (hl : EO X B ρ O lo l) (hh : EO X B ρ O hi h) : EV X B ρ O (.Subscript e (.Slice lo hi none p2) pos) (.tup (cutD ds l h)) :=
  pe_imp (pe_slice sl_tupA ha hl hh) fun σ H Q ⟨st, k⟩ => ⟨st, fun v H1 e1 r1 => ⟨st.same e1, fun H2 e2 => ⟨(st.same e1).same e2, fun H3 e3 => by
    have s3 := ((st.same e1).same e2).same e3
    have e13 := e2.trans e3
    cases r1 with
    | tup hq r =>
      have hq' := same_t (vis_le) (same_t (vis_same e13) hq)
      have r' := r.mono (vis_same e13)
      refine ⟨_, _, rfl, hq', fun hw => ?_, fun hw p hp => ?_⟩
      · have ec : cutD ds l h = ds := by
          unfold cutD
          rw [← r.length, hw.1, hw.2, List.drop_zero, Nat.sub_zero]
          exact List.take_of_length_le (by rw [r.length]; exact Nat.le_refl _)
        rw [ec] at k
        exact k _ H3 (e1.trans e13) (.tup (same_t (vis_same e13) hq) r')
      · exact k _ _ ((e1.trans e13).trans (same_new hp)) (.tup (.inl (.inl (s3.m.visNew hp))) ((r'.cut l h).mono (vis_same (same_new hp))))⟩⟩⟩
theorem ev_trK (ha : EV X B ρ O e (eTr t)) (hb : EV X B ρ O b (.int 1)) (h : t.isLeaf = false) : EV X B ρ O (.Subscript e (.Slice (some b) none none p2) pos) (dU eTr t.kids) := by
  cases t with
  | leaf z => cases h
  | un h t => exact ev_sliceT ha (eo_some hb) eo_none
  | bin h a b => exact ev_sliceT ha (eo_some hb) eo_none
end
end DL

set_option Elab.async false
set_option linter.all false
set_option maxRecDepth 100000
set_option maxHeartbeats 4000000
namespace PySem.W
open Lean Elab Tactic Meta PySem PySem.Calls PyProof.Rows
section
variable {prog : Program} {w : World} {M : Model} {A : Around} {E : Value → Shared → Prop} {s : Shared} {K : Frag} {x b C f : Addr} {ox ob : Obj} {od odb : Option Obj}
end
end PySem.W
namespace DL
open PySem PySem.Spec PyProof.Rows L2 TL
section
variable {X : Cx} {B : Gd} {ρ : List (Option D)} {O : Om} {d : D} {C f : Addr} {ds ds' fs : List D} {k : Nat} {a b e : Expr} {pos : Pos}
def rOwn1 (X : Cx) (C : Addr) (sp : Sp) (E : XK) : V → Hp → VK → Prop := fun x H Q => ∃ p, x = .ref p ∧ StX.InsC X H p C ∧ sp [.ref p] H Q E
theorem un_neg {CX : CXT} {sp : Sp} {E : XK} (h1 : PySem.W.findIn X.K (.ref C) "__neg__" = some (some (.ref f))) (h2 : PySem.W.isFn X.K (.ref f) = true) (F : FnR X.prog X.w X.K X.mg X.base CX k f sp) (hr : Room k X.A) (hx : Passes CX X E) : UnR X (unaryOp .USub) (rOwn1 X C sp E) := by
  intro pins s σ H x v Q I rx h
  obtain ⟨p, rfl, g1, g3⟩ := h
  cases rx
  obtain ⟨ox, od, J, _⟩ := StX.insC_at I g1
  unfold unaryOp
  refine wpAny_holding (wpAny_bind (PySem.W.special_fn I.kIn J h1 (beq_iff_eq.mp h2) (wpAny_mono (wpAny_call (run_fnR (us := [.ref p]) (vs := [.ref p]) F hr hx I (.cons rfl .nil) g3)) (fun _ _ z => wpAny_pure z) fun _ _ z => z)))
end
end DL

set_option Elab.async false
set_option linter.all false
set_option maxRecDepth 100000
set_option maxHeartbeats 4000000
namespace L2
open PySem PySem.Spec PyProof.Rows
section
variable {X : Cx} {C fI : Addr} {n x : Str}
end
section
variable {X : Cx} {CX : CXT} {k i : Nat} {f C : Addr} {sp : Sp} {x : Str} {e fe : Expr} {es : List Expr} {te tf : TE} {t : TA} {p pos : Pos}
end
end L2
namespace DL
open PySem PySem.Spec PyProof.Rows L2 TL
section
variable {X : Cx} {B : Gd} {ρ : List (Option D)} {O : Om} {d : D} {C C0 f : Addr} {ds fs es' : List D} {k : Nat} {n x : Str} {o a b e : Expr} {es : List Expr} {pos pos2 p apos : Pos} {rest : List Stmt}
end
end DL

set_option Elab.async false
set_option linter.all false
set_option maxRecDepth 100000
set_option maxHeartbeats 4000000
namespace DL
open PySem PySem.Spec PyProof.Rows L2 TL
inductive OutI where
  | val (ns : List Str) (fs : List D)
  | exn (C : Addr) (n : Str) (d : D)
def FlatD (d : D) : Prop := (∃ i, d = .int i) ∨ ∃ z, d = .str z
def spXI (K : PySem.W.Frag) (C0 : Addr) (Ar : Om → List D → OutI → Prop) : Sp := fun vs H Q E => ∃ (F : Addr → Bool) (L : Om) (x dx : Addr) (us : List V) (ds : List D) (out : OutI), vs = .ref x :: us ∧ Bor K F L [(x, .ins C0 [] [])] H ∧ F x = false ∧
  H x = some (.ins C0 dx []) ∧ RpL K (vis F [(x, .ins C0 [] [])] H) us ds ∧ Ar L ds out ∧
  match out with
  | .val ns fs => ∀ H' dx' fv, (∀ a o, a ≠ x → H a = some o → H' a = some o) → H' x = some (.ins C0 dx' fv) → fv.map (·.1) = ns → RpL K (vis F [(x, .ins C0 [] [])] H') (fv.map (·.2)) fs → Q .non H'
  | .exn C n d => FlatD d ∧ ∀ ex v H', (∀ a o, a ≠ x → H a = some o → H' a = some o) → H' ex = some (.xd [(n, v)]) → Rp K (vis F [(x, .ins C0 [] [])] H') v d → E (.ref C) (some ex) H'
section
variable {P : Program} {w : World} {K : PySem.W.Frag} {mg : Str → Option Value} {base : Heap}
theorem calm_fn {CX : CXT} {k : Nat} {f : Addr} {fd : FuncData} {ps : List Str} {sp : Sp} (F : FnOk P w K mg base (L2.CX P w) k f fd ps sp) (h : ∀ vs H Q E E', sp vs H Q E → sp vs H Q E') : FnOk P w K mg base CX0 k f fd ps sp :=
  ⟨F.len, fun A outer s H args us vs Q E hr he hb hv hs => codeAny_mono (F.run A outer s H args us vs Q E0 hr he hb hv (h _ _ _ _ _ hs)) fun r s' q => by
    cases r with
    | ok fl =>
      cases fl with
      | ret u => exact q
      | next => exact q
      | brk => exact q
      | cont => exact q
    | error e =>
      obtain ⟨_, _, _, _, _, _, _, _, _, _, _, _, z⟩ := q
      exact z.elim⟩
theorem spXI_I {CX : CXT} {k : Nat} {f C0 : Addr} {fd : FuncData} {ps : List Str} {Ar : Om → List D → OutI → Prop} (F : FnOk P w K mg base CX k f fd ps (spXI K C0 Ar)) : FnOk P w K mg base CX k f fd ps (spI K C0 fun L ds ns fs => Ar L ds (.val ns fs)) :=
  F.imp fun vs H Q E ⟨F', L, x, dx, us, ds, ns, fs, a, b, c, e, g, h, i⟩ => ⟨F', L, x, dx, us, ds, .val ns fs, a, b, c, e, g, h, i⟩
end
end DL

set_option Elab.async false
set_option linter.all false
set_option maxRecDepth 100000
set_option maxHeartbeats 4000000
namespace DL
open PySem PySem.Spec PyProof.Rows L2 TL
abbrev ErrTab := Nat → Addr × Str
section
variable {α β S S2 L R : Type}
def Cmp.calm [Inhabited α] (m : Cmp (Ctl Unit Unit α)) : Cmp α := m.bind fun c => match c with
  | .rt v => .ret v
  | _ => .bad
end
section
variable {X : Cx} {B : Gd} {ρ ρ0 : List (Option D)} {O O0 : Om} {a b e : Expr} {es : List Expr} {d : D} {pos pos2 pos' np p : Pos} {rest body suite : List Stmt} {b₀ : Stmt} {x nm n : Str} {k i : Nat} {C fI : Addr} {ce : ErrTab}
variable {α β S S2 L R : Type} {st : S → List (Option D) → Om → Prop} {sl : L → List (Option D) → Om → Prop} {rt : R → D → Om → Prop} {ex : Exn → Addr → Str → D → List (Option D) → Om → Prop}
end
end DL

set_option Elab.async false
set_option linter.all false
set_option maxRecDepth 100000
set_option maxHeartbeats 4000000
namespace L2
open PySem PySem.Spec PyProof.Rows
section
variable {X : Cx} {C fI a dx : Addr} {n : Str}
end
end L2
namespace DL
open PySem PySem.Spec PyProof.Rows L2 TL
section
variable {X : Cx} {B : Gd} {ρ : List (Option D)} {O : Om} {C fI a dx C' : Addr} {n x : Str} {e f : Expr} {d : D} {v : V} {pos p : Pos} {oe : Obj} {pn : List (Addr × Obj)} {b1 : Bool}
end
end DL

set_option Elab.async false
set_option linter.all false
set_option maxRecDepth 100000
set_option maxHeartbeats 4000000
namespace DL
open PySem PySem.Spec PyProof.Rows L2 TL
section
variable {α S L R : Type}
end
section
variable {X : Cx} {B : Gd} {ρ : List (Option D)} {O : Om} {ss : List Stmt} {ce : ErrTab}
end
section
variable {P : Program} {w : World} {K : PySem.W.Frag} {mg : Str → Option Value} {base : Heap} {k : Nat} {f C0 C : Addr} {x n : Str}
theorem spI_mono {Ar Ar' : Om → List D → List Str → List D → Prop} (h : ∀ L ds ns fs, Ar' L ds ns fs → Ar L ds ns fs) : ∀ vs H Q E, spI K C0 Ar' vs H Q E → spI K C0 Ar vs H Q E := fun _ _ _ _ ⟨F, L, x, dx, us, ds, ns, fs, a, b, c, e, g, i, j⟩ => ⟨F, L, x, dx, us, ds, ns, fs, a, b, c, e, g, h _ _ _ _ i, j⟩
theorem fn_calmI {fd : FuncData} {ps : List Str} {Ar : Om → List D → OutI → Prop} {Ar' : Om → List D → List Str → List D → Prop} (F : FnOk P w K mg base (L2.CX P w) k f fd ps (spXI K C0 Ar)) (h : ∀ L ds ns fs, Ar' L ds ns fs → Ar L ds (.val ns fs)) : FnOk P w K mg base CX0 k f fd ps (spI K C0 Ar') :=
  calm_fn (CX := CX0) ((spXI_I F).imp (spI_mono h)) fun _ _ _ _ _ z => z
end
end DL

set_option Elab.async false
set_option linter.all false
set_option maxRecDepth 100000
set_option maxHeartbeats 4000000
namespace L2
open PySem PySem.Spec PyProof.Rows
abbrev TSu := Addr → Value → Option Addr → TS
section
variable {X : Cx} {n : Str} {i : Nat} {body : List Stmt} {h₀ : ExceptHandler} {hds : List ExceptHandler} {l : List (Value × TSu)} {pos : Pos} {tb : WX → TS} {Wout : WX}
end
end L2
namespace DL
open PySem PySem.Spec PyProof.Rows L2 TL
section
variable {X : Cx} {B : Gd} {ρ ρ0 : List (Option D)} {O O0 : Om} {pos pos1 pos2 np1 np2 : Pos} {body suite1 suite2 : List Stmt} {b1 b2 : Stmt} {x1 x2 nm : Str} {ce : ErrTab}
variable {S L R : Type} {st : S → List (Option D) → Om → Prop} {sl : L → List (Option D) → Om → Prop} {rt : R → D → Om → Prop} {ex : Exn → Addr → Str → D → List (Option D) → Om → Prop}
end
end DL

set_option Elab.async false
set_option linter.all false
set_option maxRecDepth 100000
set_option maxHeartbeats 4000000
namespace L2
open PySem PySem.Spec PyProof.Rows
section
variable {X : Cx} {C : Addr} {x : Str} {e : Expr} {es : List Expr} {p pos : Pos}
end
end L2
namespace DL
open PySem PySem.Spec PyProof.Rows L2 TL
section
variable {X : Cx} {B : Gd} {ρ : List (Option D)} {O : Om} {d : D} {C C0 f : Addr} {ds : List D} {k : Nat} {n x : Str} {e : Expr} {es : List Expr} {pos p : Pos}
end
end DL

set_option Elab.async false
set_option linter.all false
set_option maxRecDepth 100000
set_option maxHeartbeats 4000000
namespace L2
open PySem PySem.Spec PyProof.Rows
section
variable {prog : Program} {w : World} {A : Around} {R : Result → Shared → Prop} {s : Shared} {e tg iter : Expr} {ifs : List Expr} {it acc : Value} {env : Env} {d : Nat} {body : Sem PySem.Fin → Sem PySem.Fin}
end
abbrev TB := St → Hp → (Hp → Prop) → Prop
structure Clz where
  wi : TI
  g : TG
  tt : TT
  vs : List Nat
def OffE (own : List Nat) (σ σ' : St) : Prop := σ'.length = σ.length ∧ ∀ j, j ∉ own → σ'[j]? = σ[j]?
theorem OffE.refl {own : List Nat} {σ : St} : OffE own σ σ := ⟨rfl, fun _ _ => rfl⟩
theorem OffE.trans {own : List Nat} {σ σ1 σ2 : St} (a : OffE own σ σ1) (b : OffE own σ1 σ2) : OffE own σ σ2 := ⟨b.1.trans a.1, fun j h => (b.2 j h).trans (a.2 j h)⟩
theorem OffE.wipe {own vs : List Nat} {σ : St} (h : ∀ i ∈ vs, i ∈ own) : OffE own σ (wipe σ vs) := ⟨wipe_length σ vs, fun j hj => wipe_out fun z => hj (h j z)⟩
section
variable {X : Cx} {own sub : List Nat} {e tg iter : Expr} {ifs : List Expr} {acc : Value} {d : Nat} {body : Sem PySem.Fin → Sem PySem.Fin} {te : TB} {c : Clz} {cs : List Clz}
def LcRun (X : Cx) (elt : Expr) (gs : List Comprehension) (iter : Expr) (scope : Scope) (pos : Pos) (t : TE) : Prop := ∀ {pins : List (Addr × Obj)} {s : Shared} {σ : St} {H : Hp} {Q : VK} {pos' : Pos} {use : Option (Value → Sem Unit)} {Qf : Value → Shared → Prop}, Inv X pins σ H s → t σ H Q →
  (∀ D C s' m H', Inv X pins σ H' s' → Q (.ref D) H' → s'.heap.Ns C m → FpOk X pins H' C → compPost (model X.prog X.w) X.A X.xe use Qf (.ref D) C (.ok .next) s') →
  wpAny (model X.prog X.w) X.A (comprehension (.ListComp elt gs scope pos) scope X.env pos' (newList []) false (eval iter X.env) use) Qf X.xe s
theorem LcRun.imp {elt : Expr} {gs : List Comprehension} {scope : Scope} {pos : Pos} {t t' : TE} (h : LcRun X elt gs iter scope pos t) (w : ∀ σ H Q, t' σ H Q → t σ H Q) : LcRun X elt gs iter scope pos t' := fun I q hRR => h I (w _ _ _ q) hRR
end
end L2

set_option Elab.async false
set_option linter.all false
set_option maxRecDepth 100000
set_option maxHeartbeats 4000000
namespace DL
open PySem PySem.Spec PyProof.Rows L2
structure AccK (A E : Type) where
  P : Addr → Hp → Hp → A → Prop
  size : A → Nat
  step : A → E → A
  mono : ∀ {D : Addr} {Hv Hv' H H' : Hp} {a : A}, P D Hv H a → Same Hv Hv' → H' D = H D → P D Hv' H' a
  there : ∀ {D : Addr} {Hv H : Hp} {a : A}, P D Hv H a → ∃ o, H D = some o
  grow : ∀ a x, size (step a x) ≤ size a + 1
def But (D : Addr) (H H' : Hp) : Prop := ∀ b o, b ≠ D → H b = some o → H' b = some o
theorem But.refl {D : Addr} {H : Hp} : But D H H := fun _ _ _ h => h
theorem But.trans {D : Addr} {H H1 H2 : Hp} (a : But D H H1) (b : But D H1 H2) : But D H H2 := fun x o n h => b x o n (a x o n h)
theorem But.same {D : Addr} {H H1 : Hp} (a : Same H H1) : But D H H1 := fun x o n h => a x o h
theorem But.upd {D : Addr} {H : Hp} {o : HO} : But D H (upd H D o) := fun x _ n h => by rw [upd_ne n]; exact h
section
variable {K : PySem.W.Frag} {B : Gd} {ρ : List (Option D)} {O : Om} {σ : L2.St} {H H' : Hp} {D : Addr}
end
section
variable {X : Cx} {B : Gd} {ρ ρ' : List (Option D)} {O : Om} {scope : Scope} {A E : Type} {AC : AccK A E} {elt iter tg : Expr} {ifs : List Expr} {pos : Pos} {D0 : Addr} {te : TB} {cs : List Clz}
end
section
variable {X : Cx} {B : Gd} {ρ ρ' : List (Option D)} {O : Om} {scope : Scope} {elt iter tg it2 tg2 it3 tg3 : Expr} {ifs ifs2 ifs3 : List Expr} {pos : Pos} {D0 : Addr} {d : D}
end
end DL

set_option Elab.async false
set_option linter.all false
set_option maxRecDepth 100000
set_option maxHeartbeats 4000000
namespace DL
open PySem PySem.Spec PyProof.Rows L2
section
variable {X : Cx} {pins : List (Addr × Obj)} {σ : L2.St} {H : Hp} {s : Shared}
end
section
variable {K : PySem.W.Frag} {B : Gd} {O : Om} {α : Type} {E : α → D} {f : α → NestedKey} [DecidableEq α]
end
section
variable {X : Cx} {B : Gd} {ρ ρ' : List (Option D)} {O : Om} {scope : Scope} {kx vx iter tg it2 tg2 : Expr} {ifs ifs2 : List Expr} {pos : Pos} {D0 : Addr} {k : NestedKey} {d : D}
end
end DL

set_option Elab.async false
set_option linter.all false
set_option maxRecDepth 100000
set_option maxHeartbeats 4000000
namespace DL
open PySem PySem.Spec PyProof.Rows L2
def kRow (r : Row) : NestedKey := .tup [.num r.1, .num r.2.1, .num r.2.2]
def kRR (p : Row × Row) : NestedKey := .tup [kRow p.1, kRow p.2]
abbrev dK {α : Type} (f : α → NestedKey) (xs : List α) : D := .dct (xs.map f)
section
variable {X : Cx} {B : Gd} {ρ ρ' : List (Option D)} {O : Om} {A : AE} {e : Expr} {es : List Expr} {pos : Pos}
variable {scope : Scope} {kx vx iter tg it2 tg2 : Expr} {ifs ifs2 : List Expr}
end
end DL

set_option Elab.async false
set_option linter.all false
set_option maxRecDepth 100000
set_option maxHeartbeats 4000000
namespace DL
open PySem PySem.Spec PyProof.Rows L2 TL
section
variable {X : Cx} {B : Gd} {ρ : List (Option D)} {O : Om} {d : D} {C f : Addr} {ds ds' : List D} {k : Nat} {a b : Expr} {pos : Pos}
theorem et_lstT {α : Type} {E : α → D} {xs : List α} {e : Expr} (h : EV X B ρ O e d) (w : Vw (B.L ++ O) d (xs.map E)) (he : ∀ whole, isTrue e X.env whole = (do let v ← whole; standAt e.pos; holding [v] (truthy v)) := by intro _; rfl) : ET X B ρ O e (!xs.isEmpty) :=
  et_conv (et_lst h w he) (by rw [List.isEmpty_map])
end
end DL

set_option Elab.async false
set_option linter.all false
set_option maxRecDepth 100000
set_option maxHeartbeats 4000000
namespace DL
open PySem PySem.Spec PyProof.Rows L2
section
variable {X : Cx} {B : Gd} {A : AE} {ρ ρ' : List (Option D)} {O O' : Om} {rest ss : List Stmt} {o c e : Expr} {x : Str} {pos pos' pos2 : Pos}
end
section
variable {K : PySem.W.Frag} {B : Gd} {O : Om} {α : Type} {E : α → D} {f : α → NestedKey} [DecidableEq α]
end
end DL

set_option Elab.async false
set_option linter.all false
set_option maxRecDepth 100000
set_option maxHeartbeats 4000000
namespace DL
open PySem PySem.Spec PyProof.Rows L2
section
variable {X : Cx} {B : Gd} {ρ ρ' : List (Option D)} {O O' : Om} {a b c e o : Expr} {es : List Expr} {d : D} {ds : List D} {pos pos' p : Pos} {rest : List Stmt} {x : Str} {k : Nat} {α β : Type} {A : α → AE}
end
instance {S L R : Type} [Inhabited S] : Inhabited (Ctl S L R) := ⟨.nx default⟩
section
variable {Q : α → Prop}
end
end DL

set_option Elab.async false
set_option linter.all false
set_option maxRecDepth 100000
set_option maxHeartbeats 4000000
namespace DL
open PySem PySem.Spec PyProof.Rows L2
structure NoD (K : PySem.W.Frag) : Prop where
  no : PySem.W.nsIn K cStatics "sys.int_max_str_digits" = some none
theorem NoD.heap {X : Cx} {pins : List (Addr × Obj)} {σ : L2.St} {H : Hp} {s : Shared} (d : NoD X.K) (I : Inv X pins σ H s) : s.heap.NoDigits :=
  let ⟨mc, hns, _⟩ := I.nolimit; ⟨mc, hns, PySem.W.ns_none_of I.kIn hns d.no⟩
section
open PySem.Builtin PySem.Builtin.Str PySem.Builtin.Int
variable {prog : Program} {w : World} {A : Around} {E : Value → Shared → Prop} {s : Shared} {a : Int} {t : Tok}
end
section
variable {X : Cx} {B : Gd} {ρ : List (Option D)} {O : Om} {e sp : Expr} {es : List Expr} {d : D} {pos p : Pos} {x y z : Str}
end
section
open PySem.W
end
end DL

set_option Elab.async false
set_option linter.all false
set_option maxRecDepth 100000
set_option maxHeartbeats 4000000
namespace DL
open PySem PySem.Spec PyProof.Rows L2
section
variable {P : Program} {w : World} {K : PySem.W.Frag} {mg : Str → Option Value} {base : Heap}
end
section
variable {X : Cx} {B : Gd} {ρ : List (Option D)} {O : Om} {d : D} {C C0 f : Addr} {ds fs : List D} {k : Nat} {n x : Str} {e : Expr} {es : List Expr} {ns : List Str} {pos p : Pos}
end
section
variable {X : Cx} {B : Gd} {ρ : List (Option D)} {O : Om} {rest : List Stmt}
end
end DL

set_option Elab.async false
set_option linter.all false
set_option maxRecDepth 100000
set_option maxHeartbeats 4000000
namespace DL
open PySem PySem.Spec PyProof.Rows L2
end DL
namespace DL
open PySem PySem.Spec PyProof.Rows L2 PySem.W PySem.Calls
end DL

set_option Elab.async false
set_option linter.all false
set_option maxRecDepth 100000
set_option maxHeartbeats 4000000
namespace DL
open PySem PySem.Spec PyProof.Rows L2
section
variable {X : Cx} {B : Gd} {ρ ρ' : List (Option D)} {O O' O1 : Om} {a b c e o e1 e2 : Expr} {es : List Expr} {d d1 d2 d3 : D} {ds : List D} {pos pos' p apos : Pos} {st : Stmt} {ss rest : List Stmt} {x : Str}
variable {α β : Type} {E : β → D} {A : α → AE}
theorem jc_aug {op : Operator} {r : R2} {v : β} {m : β → Cmp α} (i : Nat) (nd : X.N.Nodup) (ho : OpR X (inplaceOp op) r) (hr : RD X.K B O r d1 d2 (E v)) (h0 : ρ[i]? = some (some d1)) (he : EV X B ρ O e d2) (h : ∀ y, JC X B rest (ρ.set i (some (E y))) O A (m y)) (hi : X.N[i]? = some x := by rfl) (hx : Loc X.env.scope x := by first | exact .inl rfl | exact .inr rfl)
    (hf : X.fn x = true ∨ X.env.scope.names.lookup x = some .local := by first | exact .inr rfl | exact .inl rfl) : JC X B (.AugAssign (.Name x pos') op e pos :: rest) ρ O A (.bnd v m) := fun ok =>
  j_cons (ps_imp (ps_aug (ti := r) nd hi hx he ho hf) fun Dn σ H ⟨st, pp⟩ => by
    obtain ⟨u, hu, ru⟩ := st.env.2 i _ h0
    refine ⟨u, hu, st, fun w H1 e1 r1 => ?_⟩
    exact hr u w H1 _ (st.same e1).m (ru.mono (vis_same e1)) r1 fun z H2 e2 r2 => pp.nx _ _ _ _ (h v ok) (((st.same e1).same e2).set r2) (vis_same (e1.trans e2)))
end
end DL

set_option Elab.async false
set_option linter.all false
set_option maxRecDepth 100000
set_option maxHeartbeats 4000000
namespace L2
open PySem PySem.Spec PyProof.Rows StX
end L2
namespace DL
open PySem PySem.Spec PyProof.Rows L2
theorem Fok.mono {P : Program} {w : World} {K : PySem.W.Frag} {mg : Str → Option Value} {base : Heap} {CX : CXT} {j k : Nat} {f : Addr} {sp : Sp} (F : Fok P w K mg base CX j f sp) (h : j ≤ k) : Fok P w K mg base CX k f sp := by
  obtain ⟨fd, ps, G, b⟩ := F.ex
  exact ⟨⟨fd, ps, G.mono h, b⟩, F.kp⟩
section
variable {X : Cx} {B : Gd} {ρ ρ' : List (Option D)} {O O' O1 : Om} {a b c e o e1 e2 : Expr} {es : List Expr} {d d1 d2 d3 : D} {ds : List D} {pos pos' p apos spos : Pos} {st h₀ : Stmt} {ss rest body : List Stmt} {x : Str} {k : Nat} {C : Addr} {b1 : Bool}
variable {α β : Type} {E : β → D} {A : α → AE}
end
end DL

set_option Elab.async false
set_option linter.all false
set_option maxRecDepth 100000
set_option maxHeartbeats 4000000
namespace L2
open PySem PySem.Spec PyProof.Rows
structure PSetOf (K : PySem.W.Frag) (C : Addr) (f : Str) (p g : Addr) : Prop where
  tk : PySem.W.takerIn K C f = some (some (.ref p))
  ty : PySem.W.typeIn K (.ref p) = some (.type "property")
  rc : ∃ a rest, PySem.W.recIn K p "property" = some (a :: .ref g :: rest)
theorem setprop_ok {X : Cx} {CX : CXT} {k : Nat} {C p g a dx : Addr} {fs : List (Str × V)} {f : Str} {sp : Sp} {E : XK} {pins : List (Addr × Obj)} {σ : St} {H : Hp} {s : Shared} {Q : VK} {v : V} {u : Value} (I : Inv X pins σ H s) (ea : H a = some (.ins C dx fs)) (c : Cls X.K C) (hp : PSetOf X.K C f p g)
    (F : FnR X.prog X.w X.K X.mg X.base CX k g sp) (hr : Room (k + 2) X.A) (hx : Passes CX X E) (rv : RelV v u) (h : sp [.ref a, v] H Q E) :
    wpAny (model X.prog X.w) X.A (setAttr (.ref a) f u) (fun _ s' => ∃ w H', Inv X pins σ H' s' ∧ Q w H') X.xe s := by
  obtain ⟨mA, O, _, _, _, _⟩ := ins_get I.hok ea
  obtain ⟨od, J, _⟩ := O.look
  obtain ⟨b, rest, hrec⟩ := hp.rc
  have I1 := I.tok (s.toks + 1)
  refine PySem.W.set_plain I.kIn J c.sa (PySem.W.osa_descr (s := { s with toks := s.toks + 1 }) PySem.W.KF.slot_pset I1.kIn J c.po hp.tk hp.ty (PySem.W.prop_set (s := { s with toks := s.toks + 1 }) I1.kIn hrec ?_))
  refine codeAny_mono (F X.A.in1.in1 X.stack { s with toks := s.toks + 1 } H [.ref a, u] [.ref a, v] Q E hr.in1.in1 I1.env0.in1.in1 (.cons rfl (.cons rv .nil)) h) fun r s' hq => ?_
  cases r with
  | error er => exact hx pins σ H { s with toks := s.toks + 1 } er s' I1 hq
  | ok fl =>
    cases fl with
    | ret u' =>
      obtain ⟨w, H', I3, rv', q3⟩ := I1.after hq
      exact ⟨w, H', I3, q3⟩
    | next => exact False.elim hq
    | brk => exact False.elim hq
    | cont => exact False.elim hq
theorem ps_pset {X : Cx} {CX : CXT} {k : Nat} {C p g : Addr} {f : Str} {sp : Sp} {E : XK} {o value : Expr} {ta tv : TE} {pos pos' : Pos} (c : Cls X.K C) (hp : PSetOf X.K C f p g) (F : FnR X.prog X.w X.K X.mg X.base CX k g sp) (hr : Room (k + 2) X.A) (hx : Passes CX X E)
    (ha : PE X o ta) (hv : PE X value tv) (hs : swapsWith value (some (.Attribute o f pos')) pos.line X.env = pure false) :
    PS X (.Assign [.Attribute o f pos'] value pos) (fun D σ H => tv σ H fun y H1 => ta σ H1 fun x H2 => ∃ a dx fs, x = .ref a ∧ H2 a = some (.ins C dx fs) ∧ sp [.ref a, y] H2 (fun _ H3 => D.nx σ H3) E) := by
  refine ⟨fun pins s σ H D I h => ?_⟩
  refine plainObj_wpAny_Assign_Attribute (thn (hv.run pins s σ H _ I h) fun u s1 ⟨y, H1, I1, ry, q⟩ => thn (ha.run pins s1 σ H1 _ I1 q) fun ov s2 ⟨x, H2, I2, rx, a, dx, fs, ex, ea, q2⟩ => ?_) hs
  subst ex
  obtain rfl : ov = Value.ref a := rx
  exact wpAny_mono (setprop_ok I2 ea c hp F hr hx ry q2) (fun _ s3 ⟨w, H3, I3, q3⟩ => ⟨σ, _, I3, q3⟩) fun _ _ z => z
end L2
namespace DL
open PySem PySem.Spec PyProof.Rows L2
structure BorE (K : PySem.W.Frag) (F : Addr → Bool) (L O : Om) (H : Hp) : Prop where
  ok : ∀ a, F a = true → ∃ o, H a = some o
  lF : ∀ a m, (a, m) ∈ L → F a = true
  lent : ∀ a m, (a, m) ∈ L → MRp K (vis F O H) H a m
  mem : ∀ a m, (a, m) ∈ O → MRp K (vis F O H) H a m
  nd : (O.map (·.1)).Nodup
  nF : ∀ a, has O a = true → F a = false
def spE (K : PySem.W.Frag) (Ar : Om → Om → List D → D → Om → Prop) : Sp := fun vs H Q _ => ∃ (F : Addr → Bool) (L O : Om) (ds : List D) (d : D) (O' : Om), BorE K F L O H ∧ RpL K (vis F O H) vs ds ∧ Ar L O ds d O' ∧
  ∀ v H', (∀ a o, has O a = false → H a = some o → H' a = some o) → (∀ a m, (a, m) ∈ O' → MRp K (vis F O' H') H' a m) → (O'.map (·.1)).Nodup → (∀ a, has O' a = true → has O a = true ∨ H a = none) → Rp K (vis F O' H') v d → Q v H'
theorem fn_eff {P : Program} {w : World} {K : PySem.W.Frag} {mg : Str → Option Value} {base : Heap} {Ar : Om → Om → List D → D → Om → Prop} {x qual : Str} {st : Stmt} {f : Addr} {fd : FuncData} {N ps : List Str} {k : Nat} (F : Fun K x qual st f fd) (S : FnScope N ps (defScope st)) (len : ∀ L O ds d O', Ar L O ds d O' → ds.length = ps.length)
    (h : ∀ (cdv : Value) (A : Around) (outer : List Env) (s : Shared) (H : Hp) (E : XK) (B : Gd) (O : Om) (ds : List D) (d : D) (O' : Om), Room k (A.deeper (envOfC qual (defScope st) s.heap.objs.size f cdv)) → Ar B.L O ds d O' →
      J (cxOf CX0 P w K mg base N qual (defScope st) f cdv A outer s H E).nox B (defBody st) (startD N ds) O { nx := fun _ Oe => ∃ O1, Oe = O1 ++ O' ∧ Frz O1 .non d, rt := fun d' Oe => ∃ O1, Oe = O1 ++ O' ∧ Frz O1 d' d }) : FnOk P w K mg base CX0 (k + 1) f fd ps (spE K Ar) := by
  refine F.ok S (fun vs H Q E q => ?_) (fun cdv A outer s H vs Q E hr q => ?_)
  · obtain ⟨F', L, O, ds, d, O', _, r, ha, _⟩ := q
    rw [r.length]; exact len L O ds d O' ha
  · obtain ⟨F', L, O, ds, d, O', bo, r, ha, kk⟩ := q
    let Hb : Hp := fun a => if has O a = true then none else H a
    have hbx : ∀ a o, Hb a = some o ↔ has O a = false ∧ H a = some o := fun a o => by
      show (if has O a = true then none else H a) = some o ↔ _
      cases has O a <;> simp
    have hF' : ∀ a, F' a = true → ∃ o, Hb a = some o := fun a h => by
      obtain ⟨o, e⟩ := bo.ok a h
      refine ⟨o, (hbx a o).mpr ⟨?_, e⟩⟩
      cases q : has O a with
      | false => rfl
      | true => rw [bo.nF a q] at h; cases h
    have hend : ∀ (O1 : Om) (v : V) (d' : D) (H' : Hp), MOk K ⟨F', Hb, fun c d _ H => E c d H, L, hF', bo.lF⟩ (O1 ++ O') H' → Rp K (vis F' (O1 ++ O') H') v d' → Frz O1 d' d → Q v H' := fun O1 v d' H' m r' fz => by
      have nd := m.nd
      rw [List.map_append, List.nodup_append] at nd
      have sub : ∀ q ∈ O', q ∈ O1 ++ O' := fun q hq => List.mem_append_right _ hq
      have no1 : ∀ p mm, (p, mm) ∈ O1 → has O' p = false := fun p mm hp => by
        cases q : has O' p with
        | false => rfl
        | true =>
          obtain ⟨m2, h2⟩ := has_mem.mp q
          exact absurd rfl (nd.2.2 p (List.mem_map_of_mem (f := (·.1)) hp) p (List.mem_map_of_mem (f := (·.1)) h2))
      refine kk v H' (fun a o na q => (m.base a o ((hbx a o).mpr ⟨na, q⟩)).1) (fun a mm hm => (m.mem a mm (sub _ hm)).mono (vis_sub sub) fun o q => q) nd.2.1 (fun a ha' => ?_) ?_
      · cases q : has O a with
        | true => exact .inl rfl
        | false =>
          refine .inr ?_
          cases q2 : H a with
          | none => rfl
          | some o =>
            obtain ⟨m2, h2⟩ := has_mem.mp ha'
            have := (m.base a o ((hbx a o).mpr ⟨q, q2⟩)).2
            rw [has_mem.mpr ⟨m2, sub _ h2⟩] at this; cases this
      · refine Rp.frz (vis_sub sub) (fun p mm hp => ?_) fz r'
        refine (m.mem p mm (List.mem_append_left _ hp)).mono (Same.refl _) fun o q => ?_
        have q' := m.visM (has_mem.mpr ⟨mm, List.mem_append_left _ hp⟩) q
        obtain ⟨g1, _, g3⟩ := vis_some.mp q'
        exact vis_some.mpr ⟨g1, no1 p mm hp, g3⟩
    refine ⟨_, h cdv A outer s H E ⟨F', Hb, fun c d _ H => E c d H, L, hF', bo.lF⟩ O ds d O' hr ha, ⟨⟨fun a o e => ⟨((hbx a o).mp e).2, ((hbx a o).mp e).1⟩, bo.mem, bo.nd, bo.lent⟩, start_env r⟩, ?_, ?_, fun _ _ _ _ z => z.elim, fun _ _ _ _ z => z.elim, fun _ _ _ _ _ _ _ _ _ z => z.elim⟩
    · rintro ρ Oe σ H' ⟨O1, rfl, fz⟩ s' _
      exact hend O1 .non .non H' s'.m .non fz
    · rintro d' Oe v H' ⟨O1, rfl, fz⟩ m r'
      exact hend O1 v d' H' m r' fz
section
variable {X : Cx} {B : Gd} {ρ ρ' : List (Option D)} {O O' O1 O1' R O'' : Om} {a b c e o e1 e2 : Expr} {es : List Expr} {d d0 d1 d2 d3 : D} {ds : List D} {pos pos' p apos spos : Pos} {st h₀ : Stmt} {ss rest body s1 s2 : List Stmt} {x : Str} {k : Nat} {C : Addr} {b1 b2 : Bool}
theorem has_app {O R : Om} {a : Addr} : has (O ++ R) a = (has O a || has R a) := by unfold has; rw [List.any_append]
theorem has_perm {O R : Om} (h : O.Perm R) {a : Addr} : has O a = has R a := by
  rw [Bool.eq_iff_iff, has_mem, has_mem]
  exact ⟨fun ⟨m, q⟩ => ⟨m, h.mem_iff.mp q⟩, fun ⟨m, q⟩ => ⟨m, h.mem_iff.mpr q⟩⟩
theorem spE_use {K : PySem.W.Frag} {Ar : Om → Om → List D → D → Om → Prop} {σ : L2.St} {H : Hp} {Q : VK} {E : XK} {vs : List V} (s : StOk K B ρ O σ H) (hp : O.Perm (O1 ++ R)) (hp' : (O1' ++ R).Perm O'') (r : RpL K (vis B.F O H) vs ds) (h : Ar (B.L ++ R) O1 ds d O1')
    (k : ∀ v H', StOk K B ρ O'' σ H' → Same (vis B.F O H) (vis B.F O'' H') → Rp K (vis B.F O'' H') v d → Q v H') : spE K Ar vs H Q E := by
  have m := s.m
  have nd := (hp.map (·.1)).nodup_iff.mp m.nd
  rw [List.map_append, List.nodup_append] at nd
  have hO : ∀ a, has O a = (has O1 a || has R a) := fun a => by rw [has_perm hp, has_app]
  have hno : ∀ a, has R a = true → has O1 a = false := fun a hR => by
    cases q : has O1 a with
    | false => rfl
    | true =>
      obtain ⟨m1, h1⟩ := has_mem.mp q
      obtain ⟨m2, h2⟩ := has_mem.mp hR
      exact absurd rfl (nd.2.2 a (List.mem_map_of_mem (f := (·.1)) h1) a (List.mem_map_of_mem (f := (·.1)) h2))
  let F' : Addr → Bool := fun a => B.F a || has R a
  have v0 : ∀ {O2 : Om} {H2 : Hp}, vis F' O2 H2 = vis B.F (O2 ++ R) H2 := fun {O2 H2} => by
    funext a
    unfold vis
    rw [has_app]
    show (if (B.F a || has R a || has O2 a) = true then none else H2 a) = _
    rw [Bool.or_assoc, Bool.or_comm (has R a)]
  have v1 : vis F' O1 H = vis B.F O H := by
    rw [v0]; funext a; unfold vis; rw [has_app, hO]
  have bF : ∀ a, B.F a = true → has O a = false := fun a h => by
    obtain ⟨o, e⟩ := B.ok a h
    exact (m.base a o e).2
  refine ⟨F', B.L ++ R, O1, ds, d, O1', ⟨fun a h => ?_, fun a mm h => ?_, fun a mm h => ?_, fun a mm h => ?_, nd.1, fun a h => ?_⟩, by rw [v1]; exact r, h, fun v H' k1 k2 k3 k4 k5 => ?_⟩
  · rcases Bool.or_eq_true _ _ |>.mp h with h | h
    · obtain ⟨o, e⟩ := B.ok a h
      exact ⟨o, (m.base a o e).1⟩
    · obtain ⟨mm, e⟩ := has_mem.mp h
      exact (m.mem a mm (hp.mem_iff.mpr (List.mem_append_right _ e))).some
  · show (B.F a || has R a) = true
    rcases List.mem_append.mp h with h | h
    · rw [B.lF a mm h]; rfl
    · rw [has_mem.mpr ⟨mm, h⟩, Bool.or_true]
  · rw [v1]
    exact (List.mem_append.mp h).elim (m.lent a mm) fun q => m.mem a mm (hp.mem_iff.mpr (List.mem_append_right _ q))
  · rw [v1]
    exact m.mem a mm (hp.mem_iff.mpr (List.mem_append_left _ h))
  · show (B.F a || has R a) = false
    have h1 : B.F a = false := by
      cases q : B.F a with
      | false => rfl
      | true => have := bF a q; rw [hO, h] at this; cases this
    have h2 : has R a = false := by
      cases q : has R a with
      | false => rfl
      | true => rw [hno a q] at h; cases h
    rw [h1, h2]; rfl
  · have hO'' : ∀ a, has O'' a = (has O1' a || has R a) := fun a => by rw [← has_perm hp', has_app]
    have v2 : vis F' O1' H' = vis B.F O'' H' := by
      rw [v0]; funext a; unfold vis; rw [has_app, hO'']
    rw [v2] at k5
    have n1 : ∀ a o, has O1 a = false → H a = some o → has O1' a = false := fun a o q e => by
      cases q' : has O1' a with
      | false => rfl
      | true =>
        rcases k4 a q' with z | z
        · rw [q] at z; cases z
        · rw [e] at z; cases z
    have sm : Same (vis B.F O H) (vis B.F O'' H') := fun a o q => by
      obtain ⟨h1, h2, h3⟩ := vis_some.mp q
      rw [hO, Bool.or_eq_false_iff] at h2
      exact vis_some.mpr ⟨h1, by rw [hO'', n1 a o h2.1 h3, h2.2]; rfl, k1 a o h2.1 h3⟩
    refine k v H' ⟨⟨fun a o q => ?_, fun a mm hm => ?_, ?_, fun a mm hm => ?_⟩, s.env.mono sm⟩ sm k5
    · obtain ⟨b1, b2⟩ := m.base a o q
      rw [hO, Bool.or_eq_false_iff] at b2
      exact ⟨k1 a o b2.1 b1, by rw [hO'', n1 a o b2.1 b1, b2.2]; rfl⟩
    · rcases List.mem_append.mp (hp'.mem_iff.mpr hm) with q | q
      · rw [← v2]; exact k2 a mm q
      · have hR : has R a = true := has_mem.mpr ⟨mm, q⟩
        exact (m.mem a mm (hp.mem_iff.mpr (List.mem_append_right _ q))).mono sm fun o e => k1 a o (hno a hR) e
    · refine (hp'.map (·.1)).nodup_iff.mp ?_
      rw [List.map_append, List.nodup_append]
      refine ⟨k3, nd.2.1, fun u hu w hw => ?_⟩
      rintro rfl
      obtain ⟨⟨u1, m1⟩, h1, rfl⟩ := List.mem_map.mp hu
      obtain ⟨⟨u2, m2⟩, h2, e2⟩ := List.mem_map.mp hw
      have e2' : u2 = u1 := e2
      subst e2'
      have hR : has R u2 = true := has_mem.mpr ⟨m2, h2⟩
      obtain ⟨o, e⟩ := (m.mem u2 m2 (hp.mem_iff.mpr (List.mem_append_right _ h2))).some
      have := n1 u2 o (hno u2 hR) e
      rw [show has O1' u2 = true from has_mem.mpr ⟨m1, h1⟩] at this; cases this
    · have fa := B.lF a mm hm
      have q := bF a fa
      rw [hO, Bool.or_eq_false_iff] at q
      exact (m.lent a mm hm).mono sm fun o e => k1 a o q.1 e
theorem eg_methE {Ar : Om → Om → List D → D → Om → Prop} {ns : List Str} {m : Str} {f q : Addr} {es' : List D} (ho : EV X B ρ O o (.rf q)) (hq : (q, M.ins C ns ds) ∈ O) (c : Cls X.K C) (hm : Meth X.K C m f) (F : Fok X.prog X.w X.K X.mg X.base CX0 k f (spE X.K Ar)) (hr : Room k X.A) (ha : EA X B ρ O (e :: es) es') (hn : ns.idxOf? m = none)
    (hp : O.Perm (O1 ++ R)) (hp' : (O1' ++ R).Perm O'') (h : Ar (B.L ++ R) O1 (.rf q :: es') d O1') (pl : Sem Bool)
    (hst : starEach (e :: es) X.env = (false, eval e X.env) :: starEach es X.env := by rfl) (hpl : (backTo pos (starEach es X.env)).any (·.1) = false := by rfl)
    (ht : eval (.Call (.Attribute o m apos) (e :: es) [] pos) X.env = (do
      let ov ← eval o X.env
      standAt apos.atName
      let (f, first) ← holding [ov] (getMethod ov m pl)
      callWith pos f first (backTo pos (starEach (e :: es) X.env)) (backToKw pos (keywordEach [] X.env))) := by rfl) :
    EG X B ρ O (.Call (.Attribute o m apos) (e :: es) [] pos) d O'' :=
  pe_imp (pe_methR (E := E0) (pl := pl) ho c hm F.raw hr pass0 ha hst hpl ht) fun σ H Q ⟨st, k⟩ => ⟨st, fun v H1 e1 r1 => by
    cases r1
    have s1 := st.same e1
    obtain ⟨dx, fv, h1, h2, h3⟩ := s1.m.mem _ _ hq
    exact ⟨_, _, _, rfl, h1, look_no h2 hn, s1, fun vs H2 e2 r2 => spE_use (s1.same e2) hp hp' (.cons (.rf q) r2) h fun w H3 s3 e3 r3 => k w H3 s3 (((vis_same e1).trans (vis_same e2)).trans e3) r3⟩⟩
theorem ev_methV {Ar : Om → List D → D → Prop} {ns : List Str} {m : Str} {f : Addr} {es' : List D} (he : EV X B ρ O o d1) (w : Vo (B.L ++ O) d1 C ns ds) (c : Cls X.K C) (hm : Meth X.K C m f) (F : Fok X.prog X.w X.K X.mg X.base CX0 k f (spP X.K Ar)) (hr : Room k X.A) (ha : EA X B ρ O (e :: es) es') (hn : ns.idxOf? m = none)
    (h : Ar (B.L ++ O) (d1 :: es') d) (pl : Sem Bool)
    (hst : starEach (e :: es) X.env = (false, eval e X.env) :: starEach es X.env := by rfl) (hpl : (backTo pos (starEach es X.env)).any (·.1) = false := by rfl)
    (ht : eval (.Call (.Attribute o m apos) (e :: es) [] pos) X.env = (do
      let ov ← eval o X.env
      standAt apos.atName
      let (f, first) ← holding [ov] (getMethod ov m pl)
      callWith pos f first (backTo pos (starEach (e :: es) X.env)) (backToKw pos (keywordEach [] X.env))) := by rfl) :
    EV X B ρ O (.Call (.Attribute o m apos) (e :: es) [] pos) d :=
  pe_imp (pe_methR (E := E0) (pl := pl) he c hm F.raw hr pass0 ha hst hpl ht) fun σ H Q ⟨st, k⟩ => ⟨st, fun v H1 e1 r1 => by
    obtain ⟨a, dx, fv, rfl, h1, h2, h3⟩ := w.at (st.same e1).m r1
    exact ⟨_, _, _, rfl, h1, look_no h2 hn, st.same e1, fun vs H2 e2 r2 => spP_use ((st.same e1).same e2).m (.cons (r1.mono (vis_same e2)) r2) h fun w H3 e3 r3 => k w H3 ((e1.trans e2).trans e3) r3⟩⟩
theorem ev_propV {Ar : Om → List D → D → Prop} {ns : List Str} {f : Str} {pp g : Addr} (he : EV X B ρ O o d1) (w : Vo (B.L ++ O) d1 C ns ds) (c : Cls X.K C) (hp : PropOf X.K C f pp g) (F : Fok X.prog X.w X.K X.mg X.base CX0 k g (spP X.K Ar)) (hr : Room (k + 1) X.A)
    (h : Ar (B.L ++ O) [d1] d) (hb : attributeBase o f X.env (eval o X.env) = eval o X.env := by rfl) : EV X B ρ O (.Attribute o f pos) d := by
  obtain ⟨fd, ps, G, b⟩ := F.ex
  exact pe_imp (pe_prop (E := E0) (dvs := []) he c hp G hr b .nil pass0 hb) fun σ H Q ⟨st, k⟩ => ⟨st, fun v H1 e1 r1 => by
    obtain ⟨a, dx, fv, rfl, h1, h2, h3⟩ := w.at (st.same e1).m r1
    exact ⟨_, _, _, rfl, h1, spP_use (st.same e1).m (.cons r1 .nil) h fun w H3 e3 r3 => k w H3 (e1.trans e3) r3⟩⟩
theorem j_pset {A : AE} {Ar : Om → Om → List D → D → Om → Prop} {ns : List Str} {f : Str} {pp g q : Addr} (ho : EV X B ρ O o (.rf q)) (he : EV X B ρ O e d0) (hq : (q, M.ins C ns ds) ∈ O) (c : Cls X.K C) (hps : PSetOf X.K C f pp g) (F : Fok X.prog X.w X.K X.mg X.base CX0 k g (spE X.K Ar)) (hr : Room (k + 2) X.A)
    (hp : O.Perm (O1 ++ R)) (hp' : (O1' ++ R).Perm O'') (h : Ar (B.L ++ R) O1 [.rf q, d0] d O1') (hn : A.nx ρ O'') (hs : swapsWith e (some (.Attribute o f pos')) pos.line X.env = pure false) : J1 X B (.Assign [.Attribute o f pos'] e pos) ρ O A :=
  ps_imp (ps_pset (E := E0) c hps F.raw hr pass0 ho he hs) fun Dn σ H ⟨st, pp⟩ => ⟨st, fun v H1 e1 r1 => ⟨st.same e1, fun u H2 e2 r2 => by
    cases r2
    have s2 := (st.same e1).same e2
    obtain ⟨dx, fv, h1, h2, h3⟩ := s2.m.mem _ _ hq
    exact ⟨q, dx, fv, rfl, h1, spE_use s2 hp hp' (.cons (.rf q) (.cons (r1.mono (vis_same e2)) .nil)) h fun w H3 s3 e3 r3 => pp.nx ρ O'' σ H3 hn s3 (((vis_same e1).trans (vis_same e2)).trans e3)⟩⟩⟩
def tM (K : PySem.W.Frag) (B : Gd) (ρ : List (Option D)) (O : Om) (C : Addr) (ns : List Str) (fs : List D) : TE := fun σ H Q => StOk K B ρ O σ H ∧
  ∀ p dx fv H', H p = none → Same H H' → H' p = some (.ins C dx fv) → fv.map (·.1) = ns → RpL K (vis B.F ((p, .ins C ns fs) :: O) H') (fv.map (·.2)) fs → Q (.ref p) H'
abbrev EM (X : Cx) (B : Gd) (ρ : List (Option D)) (O : Om) (e : Expr) (C : Addr) (ns : List Str) (fs : List D) : Prop := PE X e (tM X.K B ρ O C ns fs)
theorem made_useM {K : PySem.W.Frag} {Ar : Om → List D → List Str → List D → Prop} {H : Hp} {Q : VK} {E : XK} {vs : List V} {ns : List Str} {fs : List D} (m : MOk K B O H) (r : RpL K (vis B.F O H) vs ds) (h : Ar (B.L ++ O) ds ns fs)
    (k : ∀ p dx fv H', H p = none → Same H H' → H' p = some (.ins C dx fv) → fv.map (·.1) = ns → RpL K (vis B.F ((p, .ins C ns fs) :: O) H') (fv.map (·.2)) fs → Q (.ref p) H') (x dx : Addr) (hx : H x = none) (hdx : H dx = none) (ne : dx ≠ x) :
    spI K C Ar (V.ref x :: vs) (upd (upd H dx (.own x)) x (.ins C dx [])) (fun v H2 => v = .non ∧ Q (.ref x) H2) E := by
  have s1 : Same H (upd (upd H dx (.own x)) x (.ins C dx [])) := fun b o e => by
    rw [upd_ne (ne_of_none e hx), upd_ne (ne_of_none e hdx)]
    exact e
  have fx : frF B O x = false := by
    unfold frF
    rw [m.newF hx, m.newO hx]; rfl
  have v1 : Same (vis B.F O H) (vis (frF B O) [(x, .ins C [] [])] (upd (upd H dx (.own x)) x (.ins C dx []))) := fun a o q => by
    obtain ⟨h1, h2, h3⟩ := vis_some.mp q
    have na : a ≠ x := ne_of_none h3 hx
    refine vis_some.mpr ⟨by unfold frF; rw [h1, h2]; rfl, ?_, s1 _ _ h3⟩
    rw [has_cons]
    show (x == a || false) = false
    rw [Bool.or_false]
    exact beq_eq_false_iff_ne.mpr (Ne.symm na)
  have bo := bor_of m
  refine ⟨frF B O, B.L ++ O, x, dx, vs, ds, ns, fs, rfl, ⟨fun a h => let ⟨o, e⟩ := fr_ok m a h; ⟨o, s1 _ _ e⟩, bo.lF, fun a mm hm => (show MRp K (vis B.F O H) H a mm by rw [← vis_fr]; exact bo.lent a mm hm).mono v1 fun o q => s1 _ _ q⟩, fx, upd_same, r.mono v1, h, fun H' dx' fv hk hx' hns r' => ⟨rfl, ?_⟩⟩
  have s2 : Same H H' := fun b o e => hk b o (ne_of_none e hx) (s1 b o e)
  refine k x dx' fv H' hx s2 hx' hns ?_
  rw [vis_fr1] at r'
  rw [show vis B.F ((x, .ins C ns fs) :: O) H' = vis B.F ((x, .ins C [] []) :: O) H' from vis_keys rfl]
  exact r'
theorem em_makeK {Ar : Om → List D → List Str → List D → Prop} {f : Addr} {fd : FuncData} {ps ks : List Str} {ns : List Str} {fs dz : List D} {n : Nat} {kws : List Keyword} {g : List Value → List Value → List Value} {gV : List V → List V → List V} {gD : List D → List D → List D} (Mk : Mk X.K C f) (F : FnOk X.prog X.w X.K X.mg X.base CX0 k f fd ps (spI X.K C Ar)) (hr : Room (k + 1) X.A) (hg : Gl X x) (hm : X.mg x = some (.ref C))
    (hb : KBn X.K fd ps (n + 1) ks g gV) (ha : EA X B ρ O (e :: es) ds) (hkw : PK X kws (tA X.K B ρ O dz)) (hl : ds.length = n) (hz : dz.length = ks.length) (hgv : ∀ (u : V) vs zs, gV (u :: vs) zs = u :: (gV (u :: vs) zs).tail) (hgr : ∀ (Hv : Hp) (u : V) vs zs, RpL X.K Hv vs ds → RpL X.K Hv zs dz → RpL X.K Hv (gV (u :: vs) zs).tail (gD ds dz)) (h : Ar (B.L ++ O) (gD ds dz) ns fs)
    (hall : (backToKw pos (keywordEach kws X.env)).all (·.1.isSome) = true := by rfl) (hks : (backToKw pos (keywordEach kws X.env)).filterMap (·.1) = ks := by rfl) (hdb : (x == ("__debug__" : Str)) = false := by decide)
    (he : starEach (e :: es) X.env = (false, eval e X.env) :: starEach es X.env := by rfl) (hpl : ((backTo pos (starEach (e :: es) X.env)).any (·.1) || (backToKw pos (keywordEach kws X.env)).any (·.1.isNone)) = false := by rfl) :
    EM X B ρ O (.Call (.Name x p) (e :: es) kws pos) C ns fs :=
  pe_imp (pe_makeK (E := E0) Mk F hr hg hm hb pass0 ha hkw hall hks hdb he hpl) fun σ H Q ⟨st, k⟩ => ⟨st, fun vs H1 e1 r1 => ⟨st.same e1, fun zs H2 e2 r2 => by
    have s2 := (st.same e1).same e2
    refine ⟨by rw [r1.length]; exact hl, by rw [r2.length]; exact hz, fun y dy hy hdy ne => ?_⟩
    rw [hgv]
    exact made_useM s2.m (hgr _ (.ref y) vs zs (r1.mono (vis_same e2)) r2) h (fun p dx fv H3 hp e3 hq h1 h2 => k p dx fv H3 (e1.free (e2.free hp)) ((e1.trans e2).trans e3) hq h1 h2) y dy hy hdy ne⟩⟩
theorem em_makeR {Ar : Om → List D → List Str → List D → Prop} {f : Addr} {sp : Sp} {ns : List Str} {fs : List D} (Mk : Mk X.K C f) (F : FnR X.prog X.w X.K X.mg X.base CX0 k f sp) (hr : Room (k + 1) X.A) (hg : Gl X x) (hm : X.mg x = some (.ref C)) (ha : EA X B ρ O (e :: es) ds)
    {dvs : List V} {dvd : List D} (hsp : ∀ vs H Q E, spI X.K C Ar (vs ++ dvs) H Q E → sp vs H Q E) (hd : ∀ Hv, RpL X.K Hv dvs dvd) (h : Ar (B.L ++ O) (ds ++ dvd) ns fs) (hdb : (x == ("__debug__" : Str)) = false := by decide)
    (he : starEach (e :: es) X.env = (false, eval e X.env) :: starEach es X.env := by rfl) (hpl : (backTo pos (starEach es X.env)).any (·.1) = false := by rfl) : EM X B ρ O (.Call (.Name x p) (e :: es) [] pos) C ns fs :=
  pe_imp (StX.pe_makeR (E := E0) Mk F hr hg hm pass0 ha hdb he hpl) fun σ H Q ⟨st, k⟩ => ⟨st, fun vs H1 e1 r1 y dy hy hdy ne => by
    refine hsp _ _ _ _ ?_
    exact made_useM (st.same e1).m (r1.append (hd _)) h (fun p dx fv H3 hp e3 hq h1 h2 => k p dx fv H3 (e1.free hp) (e1.trans e3) hq h1 h2) y dy hy hdy ne⟩
theorem j_setM {A : AE} {ns : List Str} {fs : List D} (i : Nat) (hN : X.N.Nodup) (hi : X.N[i]? = some x) (hx : Loc X.env.scope x) (he : EM X B ρ O e C ns fs) (hs : swapsWith e (some (.Name x pos')) pos.line X.env = pure false) (hf : X.fn x = true ∨ X.env.scope.names.lookup x = some .local)
    (h : ∀ p, has O p = false → A.nx (ρ.set i (some (.rf p))) ((p, .ins C ns fs) :: O)) : J1 X B (.Assign [.Name x pos'] e pos) ρ O A :=
  ps_imp (ps_set hN hi hx he hs hf) fun Dn σ H ⟨st, p⟩ => ⟨st, fun q dx fv H1 hp e1 hv hns r => by
    have op := st.m.newO hp
    have vs1 : Same (vis B.F O H) (vis B.F ((q, .ins C ns fs) :: O) H1) := fun a o h => by
      obtain ⟨h1, h2, h3⟩ := vis_some.mp h
      have ne : a ≠ q := ne_of_none h3 hp
      exact vis_some.mpr ⟨h1, by rw [has_cons, h2, Bool.or_false]; exact beq_eq_false_iff_ne.mpr (Ne.symm ne), e1 _ _ h3⟩
    refine p.nx _ _ _ H1 (h q op) ⟨⟨fun a o hb => ?_, fun a m hm => ?_, ?_, fun a m hm => (st.m.lent a m hm).mono vs1 fun o q => e1 _ _ q⟩, ?_⟩ vs1
    · have := st.m.base a o hb
      have ne : a ≠ q := ne_of_none this.1 hp
      exact ⟨e1 _ _ this.1, by rw [has_cons, this.2, Bool.or_false]; exact beq_eq_false_iff_ne.mpr (Ne.symm ne)⟩
    · rcases List.mem_cons.mp hm with z | z
      · cases z; exact ⟨dx, fv, hv, hns, r⟩
      · exact (st.m.mem a m z).mono vs1 fun o q => e1 _ _ q
    · rw [List.map_cons, List.nodup_cons]
      refine ⟨fun z => ?_, st.m.nd⟩
      obtain ⟨⟨a, m⟩, hm, ea⟩ := List.mem_map.mp z
      have : has O q = true := has_mem.mpr ⟨m, by have z : a = q := ea; rw [← z]; exact hm⟩
      rw [op] at this; cases this
    · exact (st.env.mono vs1).set (.rf q)⟩
end
end DL

set_option Elab.async false
set_option linter.all false
set_option maxRecDepth 100000
set_option maxHeartbeats 4000000
namespace L2
open PySem PySem.Spec PyProof.Rows
theorem pe_notV {X : Cx} {a : Expr} {ta : TE} {pos : Pos} (ha : PE X a ta) : PE X (.UnaryOp .Not a pos) (fun σ H Q => ta σ H fun x H1 => ∃ k, TruV X.K x H1 k ∧ Q (.bl (!k)) H1) := by
  refine ⟨fun pins s σ H Q I h => ?_⟩
  refine UnaryOp_ (thn (ha.run pins s σ H _ I h) fun v s1 ⟨x, H1, I1, r1, k, q1, q2⟩ => ?_)
  exact not_of (wpAny_mono (tru_ok pins s1 σ H1 x v (fun b H2 => b = k ∧ H2 = H1) I1 r1 ⟨k, q1, rfl, rfl⟩) (fun c s2 ⟨H2, I2, hb, hH⟩ => by subst hb; subst hH; exact ⟨.bl (!c), H2, I2, rfl, q2⟩) fun _ _ z => z)
end L2
namespace DL
open PySem PySem.Spec PyProof.Rows L2
abbrev rtE {R S : Type} (e : R → D) (o : S → Om) : R × S → D → Om → Prop := fun r d O => ∃ O1, O = O1 ++ o r.2 ∧ Frz O1 d (e r.1)
theorem Put.split {p : Addr} {m m' : M} : ∀ {O O' : Om}, Put O p m m' O' → ∃ R, O.Perm ([(p, m)] ++ R) ∧ ([(p, m')] ++ R).Perm O'
  | _, _, .head (O := O) => ⟨O, .refl _, .refl _⟩
  | _, _, .tail (q := q) h => by
    obtain ⟨R, h1, h2⟩ := h.split
    exact ⟨q :: R, (h1.cons q).trans (.swap _ _ _), (List.Perm.swap _ _ _).trans (h2.cons q)⟩
section
variable {X : Cx} {B : Gd} {ρ ρ' : List (Option D)} {O O' O1 O1' R O'' : Om} {a b c e o e1 e2 : Expr} {es : List Expr} {d d0 d1 d2 d3 : D} {ds : List D} {pos pos' p apos spos : Pos} {st0 h₀ : Stmt} {ss rest body s1 s2 : List Stmt} {x : Str} {k : Nat} {C : Addr} {b1 b2 : Bool}
variable {α β γ S : Type} {E : β → D} {A : α → AE} {st : S → Om}
def EGm (X : Cx) (B : Gd) (ρ : List (Option D)) (O : Om) (e : Expr) (E : β → D) (st : S → Om) (m : Cmp (β × S)) : Prop := m.ok → EG X B ρ O e (E m.val.1) (st m.val.2)
def tTG (K : PySem.W.Frag) (B : Gd) (ρ : List (Option D)) (O : Om) (b : Bool) (O' : Om) : TT := fun σ H Q => StOk K B ρ O σ H ∧ ∀ H', StOk K B ρ O' σ H' → Same (vis B.F O H) (vis B.F O' H') → Q b H'
def ETm (X : Cx) (B : Gd) (ρ : List (Option D)) (O : Om) (e : Expr) (st : S → Om) (m : Cmp (Bool × S)) : Prop := m.ok → PT X e (tTG X.K B ρ O m.val.1 (st m.val.2))
def EWm (X : Cx) (B : Gd) (ρ : List (Option D)) (O : Om) (e : Expr) (st : S → Om) (m : Cmp (Bool × S)) : Prop := m.ok → PW X e (tTG X.K B ρ O m.val.1 (st m.val.2))
def negM (m : Cmp (Bool × S)) : Cmp (Bool × S) := m.bind fun p => .ret (!p.1, p.2)
def andM (m : Cmp (Bool × S)) (m2 : S → Cmp (Bool × S)) : Cmp (Bool × S) := m.bind fun p => if p.1 = true then m2 p.2 else .ret (false, p.2)
def orM (m : Cmp (Bool × S)) (m2 : S → Cmp (Bool × S)) : Cmp (Bool × S) := m.bind fun p => if p.1 = true then .ret (true, p.2) else m2 p.2
def iteM (m : Cmp (Bool × S)) (m1 m2 : S → Cmp α) : Cmp α := m.bind fun p => if p.1 = true then m1 p.2 else m2 p.2
def retM (m : Cmp (β × S)) (f : β → α) : Cmp α := m.bind fun p => .ret (f p.1)
def setM (m : Cmp (β × S)) (m2 : β → S → Cmp α) : Cmp α := m.bind fun p => m2 p.1 p.2
def callM (m : Cmp (γ × S)) (cd : γ → S → Prop) (v : γ → S → β) : Cmp (β × S) := m.bind fun p => .req (cd p.1 p.2) (.ret (v p.1 p.2, p.2))
def methM (mc : Cmp (β × γ)) (upd : γ → S) : Cmp (β × S) := mc.bind fun p => .ret (p.1, upd p.2)
theorem etm_req {q : Prop} {m : Cmp (Bool × S)} (h : q → ETm X B ρ O e st m) : ETm X B ρ O e st (.req q m) := fun ok => h ok.1 ok.2
theorem etm_pure {s : S} (h : ET X B ρ (st s) e b1) : ETm X B ρ (st s) e st (.ret (b1, s)) := fun _ => pt_imp h fun σ H Q ⟨w, k⟩ => ⟨w, fun H1 e1 => k H1 (w.same e1) (vis_same e1)⟩
theorem etm_of {m : Cmp (Bool × S)} (h : EGm X B ρ O e D.bl st m) (he : ∀ whole, isTrue e X.env whole = (do let v ← whole; standAt e.pos; holding [v] (truthy v)) := by intro _; rfl) : ETm X B ρ O e st m := fun ok =>
  pt_imp (pt_val (h ok) he) fun σ H Q ⟨w, k⟩ => ⟨w, fun v H1 s1 e1 r1 => by cases r1; exact ⟨_, rfl, k H1 s1 e1⟩⟩
theorem etm_not {m : Cmp (Bool × S)} (h : ETm X B ρ O a st m) : ETm X B ρ O (.UnaryOp .Not a pos) st (negM m) := fun ok => pt_imp (pt_not (h ok.1)) fun σ H Q ⟨w, k⟩ => ⟨w, fun H1 s1 e1 => k H1 s1 e1⟩
theorem ewm_or1 {m : Cmp (Bool × S)} (h : ETm X B ρ O a st m) : EWm X B ρ O (.BoolOp .Or [a] pos) st m := fun ok => pw_or1 (h ok)
theorem ewm_or {m : Cmp (Bool × S)} {m2 : S → Cmp (Bool × S)} (h1 : ETm X B ρ O a st m) (h2 : ∀ s, EWm X B ρ (st s) (.BoolOp .Or (b :: es) pos) st (m2 s)) : EWm X B ρ O (.BoolOp .Or (a :: b :: es) pos) st (orM m m2) := fun ok => by
  obtain ⟨q, v, s⟩ := m
  obtain ⟨ok1, ok2⟩ := ok
  have h := h1 ok1
  cases v with
  | false => exact pw_imp (pw_or h (h2 s ok2)) fun σ H Q ⟨w, k⟩ => ⟨w, fun H1 s1 e1 => iteF ⟨s1, fun H2 s2 e2 => k H2 s2 (e1.trans e2)⟩⟩
  | true => exact pw_imp (pw_or h (tB' := fun _ _ _ => False) ⟨fun _ _ _ _ _ _ _ h => h.elim⟩) fun σ H Q ⟨w, k⟩ => ⟨w, fun H1 s1 e1 => iteT (k H1 s1 e1)⟩
theorem etm_w {m : Cmp (Bool × S)} (h : EWm X B ρ O e st m) : ETm X B ρ O e st m := fun ok => PW.pt (h ok)
theorem egm_one {op} {m : Cmp (β × S)} (h : EGm X B ρ O a E st m) : EGm X B ρ O (.BoolOp op [a] pos) E st m := fun ok => pe_one (h ok)
theorem egm_and {m : Cmp (Bool × S)} {m2 : S → Cmp (Bool × S)} (h1 : EGm X B ρ O a D.bl st m) (h2 : ∀ s, EGm X B ρ (st s) (.BoolOp .And (b :: es) pos) D.bl st (m2 s)) : EGm X B ρ O (.BoolOp .And (a :: b :: es) pos) D.bl st (andM m m2) := fun ok => by
  obtain ⟨q, v, s⟩ := m
  obtain ⟨ok1, ok2⟩ := ok
  have h := h1 ok1
  cases v with
  | true => exact pe_imp (pe_and h (h2 s ok2)) fun σ H Q ⟨w, k⟩ => ⟨w, fun v H1 s1 e1 r1 => by cases r1; exact ⟨true, rfl, iteT ⟨s1, fun u H2 s2 e2 r2 => k u H2 s2 (e1.trans e2) r2⟩⟩⟩
  | false => exact pe_imp (pe_and h (tb := fun _ _ _ => False) ⟨fun _ _ _ _ _ _ h => h.elim⟩) fun σ H Q ⟨w, k⟩ => ⟨w, fun v H1 s1 e1 r1 => by cases r1; exact ⟨false, rfl, iteF (k _ H1 s1 e1 (.bl _))⟩⟩
theorem egm_call {Ar : Om → List D → D → Prop} {m : Cmp (γ × S)} {Eγ : γ → D} {cd : γ → S → Prop} {v : γ → S → β} {dsr : γ → S → List D} (cl : Cal X.prog X.w X.K X.mg X.base CX0 k x (spP X.K Ar)) (hr : Room k X.A) (hg : Gl X x) (ha : EGm X B ρ O e Eγ st m)
    (hs : ∀ y s, cd y s → EA X B ρ (st s) es (dsr y s) ∧ Ar (B.L ++ st s) (Eγ y :: dsr y s) (E (v y s))) (hdb : (x == ("__debug__" : Str)) = false := by decide)
    (he : starEach (e :: es) X.env = (false, eval e X.env) :: starEach es X.env := by rfl) (hpl : (backTo pos (starEach es X.env)).any (·.1) = false := by rfl) :
    EGm X B ρ O (.Call (.Name x p) (e :: es) [] pos) E st (callM m cd v) := fun ok => by
  obtain ⟨h1, h2⟩ := hs _ _ ok.2.1
  exact eg_call cl hr hg (ega_cons (ha ok.1) (ega_of h1) he) h2 hdb he hpl
theorem egm_meth {Ar : Om → Om → List D → D → Om → Prop} {mc : Cmp (β × γ)} {vals : γ → List D} {v0 : γ} {upd : γ → S} {ns : List Str} {m : Str} {f q : Addr} {es' : List D} (ho : EV X B ρ O o (.rf q)) (c : Cls X.K C) (hm : Meth X.K C m f) (F : Fok X.prog X.w X.K X.mg X.base CX0 k f (spE X.K Ar)) (hr : Room k X.A) (ha : EA X B ρ O (e :: es) es') (hn : ns.idxOf? m = none)
    (hput : ∀ v, Put O q (.ins C ns (vals v0)) (.ins C ns (vals v)) (st (upd v))) (h : mc.ok → ∀ R : Om, (∀ z ∈ R, z ∈ O) → Ar (B.L ++ R) [(q, .ins C ns (vals v0))] (.rf q :: es') (E mc.val.1) [(q, .ins C ns (vals mc.val.2))]) (pl : Sem Bool)
    (hst : starEach (e :: es) X.env = (false, eval e X.env) :: starEach es X.env := by rfl) (hpl : (backTo pos (starEach es X.env)).any (·.1) = false := by rfl)
    (ht : eval (.Call (.Attribute o m apos) (e :: es) [] pos) X.env = (do
      let ov ← eval o X.env
      standAt apos.atName
      let (f, first) ← holding [ov] (getMethod ov m pl)
      callWith pos f first (backTo pos (starEach (e :: es) X.env)) (backToKw pos (keywordEach [] X.env))) := by rfl) :
    EGm X B ρ O (.Call (.Attribute o m apos) (e :: es) [] pos) E st (methM mc upd) := fun ok => by
  have hp0 := hput mc.val.2
  obtain ⟨R, h1, h2⟩ := hp0.split
  exact eg_methE ho hp0.mem c hm F hr ha hn h1 h2 (h ok.1 R fun z hz => h1.mem_iff.mpr (List.mem_append_right _ hz)) pl hst hpl ht
theorem jc1_iteG {m : Cmp (Bool × S)} {m1 m2 : S → Cmp α} (hc : ETm X B ρ O c st m) (h1 : ∀ s, JC X B s1 ρ (st s) A (m1 s)) (h2 : ∀ s, JC X B s2 ρ (st s) A (m2 s)) : JC1 X B (.If c s1 s2 pos) ρ O A (iteM m m1 m2) := fun ok => by
  obtain ⟨q, v, s⟩ := m
  obtain ⟨ok1, ok2⟩ := ok
  have h := hc ok1
  cases v with
  | true => exact ps_imp (ps_if h (h1 s ok2) (u := fun _ _ _ => False) ⟨fun _ _ _ _ _ _ h => h.elim⟩) fun Dn σ H ⟨w, p⟩ => ⟨w, fun H1 s1 e1 => iteT ⟨s1, p.grow e1⟩⟩
  | false => exact ps_imp (ps_if h (t := fun _ _ _ => False) ⟨fun _ _ _ _ _ _ h => h.elim⟩ (h2 s ok2)) fun Dn σ H ⟨w, p⟩ => ⟨w, fun H1 s1 e1 => iteF ⟨s1, p.grow e1⟩⟩
theorem jc_ifrG {m : Cmp (Bool × S)} {m1 m2 : S → Cmp α} (hc : ETm X B ρ O c st m) (h1 : ∀ s, JC X B s1 ρ (st s) (fun v => noNx (A v)) (m1 s)) (h2 : ∀ s, JC X B rest ρ (st s) A (m2 s)) : JC X B (.If c s1 [] pos :: rest) ρ O A (iteM m m1 m2) := fun ok => by
  obtain ⟨q, v, s⟩ := m
  obtain ⟨ok1, ok2⟩ := ok
  have h := hc ok1
  cases v with
  | true =>
    have j : J X B s1 ρ (st s) { A (m1 s).val with nx := fun ρ' O' => J X B rest ρ' O' (A (m1 s).val) } := j_imp (h1 s ok2) (fun _ _ z => z.elim) (fun _ _ z => z) (fun _ _ z => z) (fun _ _ z => z) (fun _ _ _ _ _ z => z)
    exact j_cons (ps_imp (ps_if h j (u := fun _ _ _ => False) ⟨fun _ _ _ _ _ _ h => h.elim⟩) fun Dn σ H ⟨w, p⟩ => ⟨w, fun H1 s1 e1 => iteT ⟨s1, p.grow e1⟩⟩)
  | false =>
    have j : J X B [] ρ (st s) { A (m2 s).val with nx := fun ρ' O' => J X B rest ρ' O' (A (m2 s).val) } := j_nil (h2 s ok2)
    exact j_cons (ps_imp (ps_if h (t := fun _ _ _ => False) ⟨fun _ _ _ _ _ _ h => h.elim⟩ j) fun Dn σ H ⟨w, p⟩ => ⟨w, fun H1 s1 e1 => iteF ⟨s1, p.grow e1⟩⟩)
theorem jc_retG {m : Cmp (β × S)} {f : β → α} (he : EGm X B ρ O e E st m) (h : ∀ y s, (A (f y)).rt (E y) (st s)) : JC X B (.Return (some e) pos :: rest) ρ O A (retM m f) := fun ok => j_cons (j_retG (he ok.1) (h _ _))
theorem jc_setG (i : Nat) {m : Cmp (β × S)} {m2 : β → S → Cmp α} (nd : X.N.Nodup) (he : EGm X B ρ O e E st m) (h : ∀ y s, JC X B rest (ρ.set i (some (E y))) (st s) A (m2 y s)) (hi : X.N[i]? = some x := by rfl) (hx : Loc X.env.scope x := by first | exact .inl rfl | exact .inr rfl) (hs : swapsWith e (some (.Name x pos')) pos.line X.env = pure false := by rfl)
    (hf : X.fn x = true ∨ X.env.scope.names.lookup x = some .local := by first | exact .inr rfl | exact .inl rfl) : JC X B (.Assign [.Name x pos'] e pos :: rest) ρ O A (setM m m2) := fun ok => j_cons (j_setG nd hi hx (he ok.1) hs hf (h _ _ ok.2))
theorem jc_exprG {m : Cmp (β × S)} {m2 : β → S → Cmp α} (he : EGm X B ρ O e E st m) (h : ∀ y s, JC X B rest ρ (st s) A (m2 y s)) (hs : swapsWith e none pos.line X.env = pure false := by rfl) : JC X B (.Expr e pos :: rest) ρ O A (setM m m2) := fun ok => j_cons (j_expr (he ok.1) (h _ _ ok.2) hs)
theorem jc_setM (i : Nat) {vals : γ → List D} {v : γ} {ns : List Str} {m : γ → Cmp α} (nd : X.N.Nodup) (he : EM X B ρ O e C ns (vals v)) (h : ∀ q y, has O q = false → JC X B rest (ρ.set i (some (.rf q))) ((q, .ins C ns (vals y)) :: O) A (m y)) (hi : X.N[i]? = some x := by rfl) (hx : Loc X.env.scope x := by first | exact .inl rfl | exact .inr rfl) (hs : swapsWith e (some (.Name x pos')) pos.line X.env = pure false := by rfl)
    (hf : X.fn x = true ∨ X.env.scope.names.lookup x = some .local := by first | exact .inr rfl | exact .inl rfl) : JC X B (.Assign [.Name x pos'] e pos :: rest) ρ O A (.bnd v m) := fun ok => j_cons (j_setM i nd hi hx he hs hf fun q hq => h q v hq ok)
theorem jc_fldM {δ : Type} {vals : γ → List D} {vals' : δ → List D} {s : γ} {s' : δ} {ns ns' : List Str} {f : Str} {q : Addr} {m : δ → Cmp α} {O2 : δ → Om} (ho : EV X B ρ O o (.rf q)) (he : EV X B ρ O e d) (c : Cls X.K C) (n : NoAttr X.K C f) (hv : (∃ i, ns.idxOf? f = some i ∧ ns' = ns ∧ (vals s).set i d = vals' s') ∨ (ns.idxOf? f = none ∧ ns' = ns ++ [f] ∧ vals s ++ [d] = vals' s')) (hl : ns.length < 1000)
    (hp : ∀ y, Put O q (.ins C ns (vals s)) (.ins C ns' (vals' y)) (O2 y)) (h : ∀ y, JC X B rest ρ (O2 y) A (m y)) (hs : swapsWith e (some (.Attribute o f pos')) pos.line X.env = pure false := by rfl) : JC X B (.Assign [.Attribute o f pos'] e pos :: rest) ρ O A (.bnd s' m) := fun ok => by
  have hp0 := hp s'
  rcases hv with ⟨i, h1, rfl, h3⟩ | ⟨h1, rfl, h3⟩
  · rw [← h3] at hp0
    exact j_cons (j_fldSet ho he c n hp0 h1 hl (h s' ok) hs)
  · rw [← h3] at hp0
    exact j_cons (j_fldNew ho he c n hp0 h1 hl (h s' ok) hs)
theorem jc_pset {δ : Type} {Ar : Om → Om → List D → D → Om → Prop} {vals : γ → List D} {vals' : δ → List D} {s : γ} {mc : Cmp (Unit × δ)} {ns ns' : List Str} {f : Str} {pp g q : Addr} {m : Unit → δ → Cmp α} {O2 : δ → Om} (ho : EV X B ρ O o (.rf q)) (he : EV X B ρ O e d0) (c : Cls X.K C) (hps : PSetOf X.K C f pp g) (F : Fok X.prog X.w X.K X.mg X.base CX0 k g (spE X.K Ar)) (hr : Room (k + 2) X.A)
    (hp : ∀ y, Put O q (.ins C ns (vals s)) (.ins C ns' (vals' y)) (O2 y)) (ha : mc.ok → ∀ R : Om, (∀ z ∈ R, z ∈ O) → Ar (B.L ++ R) [(q, .ins C ns (vals s))] [.rf q, d0] .non [(q, .ins C ns' (vals' mc.val.2))]) (h : ∀ u y, JC X B rest ρ (O2 y) A (m u y)) (hs : swapsWith e (some (.Attribute o f pos')) pos.line X.env = pure false := by rfl) : JC X B (.Assign [.Attribute o f pos'] e pos :: rest) ρ O A (setM mc m) := fun ok => by
  have hp0 := hp mc.val.2
  obtain ⟨R, h1, h2⟩ := hp0.split
  exact j_cons (j_pset ho he hp0.mem c hps F hr h1 h2 (ha ok.1 R fun z hz => h1.mem_iff.mpr (List.mem_append_right _ hz)) (h _ _ ok.2) hs)
theorem eg_extend {q : Addr} {es0 : List D} (ho : EV X B ρ O o (.rf q)) (hm0 : (q, M.lst ds) ∈ O) (he : EV X B ρ O e d1) (w : Vs (B.L ++ O) d1 es0) (hm : Put O q (.lst ds) (.lst (ds ++ es0)) O') (hz : ds.length + es0.length ≤ sizeLine)
    (hbase : attributeBase o "extend" X.env (eval o X.env) = eval o X.env := by rfl)
    (hfew : ((backTo pos (starEach [e] X.env)).all (fun x => !x.1) && (backToKw pos (keywordEach [] X.env)).all (fun x => x.1.isSome)
      && decide ([e].length + ([] : List Keyword).length + (if ([] : List Keyword).isEmpty then 0 else 1) < 30)) = true := by rfl)
    (hline : (apos.endLine == pos.line) = true := by rfl) (hs : starEach [e] X.env = (false, eval e X.env) :: starEach [] X.env := by rfl) (hplain : (backTo pos (starEach [] X.env)).any (·.1) = false := by rfl) :
    EG X B ρ O (.Call (.Attribute o "extend" apos) [e] [] pos) .non O' :=
  pe_imp (pe_bm PySem.F.plainAttrs_list PySem.F.slot_list_extend PySem.F.type_list_extend mt_extend ho (pa_cons he pa_nil hs) hbase hfew hline hs hplain) fun σ H Q ⟨st, k⟩ => ⟨st, fun v H1 e1 r1 => by
    cases r1
    have s1 := st.same e1
    obtain ⟨vs, h1, h2⟩ := s1.m.mem _ _ hm0
    refine ⟨.inl ⟨rfl, vs, .inl (.inl h1)⟩, s1, fun u H2 e2 r2 => ?_⟩
    have s2 := s1.same e2
    obtain ⟨ws, h3, h4⟩ := s2.m.mem _ _ hm0
    obtain ⟨b, zs, rfl, h5, h6⟩ := w.at s2.m r2
    obtain ⟨s3, ev⟩ := s2.putP (o := .lst (ws ++ zs)) hm ⟨_, upd_same, h4.append h6⟩
    refine ⟨q, b, ws, zs, rfl, rfl, h3, h5, by rw [h4.length, h6.length]; exact hz, k .non _ s3 ?_ .non⟩
    rw [ev]
    exact (vis_same e1).trans (vis_same e2)⟩
theorem jc_extend {q : Addr} {xs ys : List β} {m : List β → Cmp α} {O2 : List β → Om} (ho : EV X B ρ O o (.rf q)) (hm : (q, M.lst (xs.map E)) ∈ O) (he : EV X B ρ O e d1) (w : Vs (B.L ++ O) d1 (ys.map E)) (hp : ∀ ys : List β, Put O q (.lst (xs.map E)) (.lst (ys.map E)) (O2 ys)) (hz : xs.length + ys.length ≤ sizeLine) (h : ∀ ys, JC X B rest ρ (O2 ys) A (m ys))
    (hbase : attributeBase o "extend" X.env (eval o X.env) = eval o X.env := by rfl)
    (hfew : ((backTo pos (starEach [e] X.env)).all (fun x => !x.1) && (backToKw pos (keywordEach [] X.env)).all (fun x => x.1.isSome)
      && decide ([e].length + ([] : List Keyword).length + (if ([] : List Keyword).isEmpty then 0 else 1) < 30)) = true := by rfl)
    (hline : (apos.endLine == pos.line) = true := by rfl) (hs : starEach [e] X.env = (false, eval e X.env) :: starEach [] X.env := by rfl) (hplain : (backTo pos (starEach [] X.env)).any (·.1) = false := by rfl)
    (hsw : swapsWith (.Call (.Attribute o "extend" apos) [e] [] pos) none pos'.line X.env = pure false := by rfl) :
    JC X B (.Expr (.Call (.Attribute o "extend" apos) [e] [] pos) pos' :: rest) ρ O A (.bnd (xs ++ ys) m) := fun ok =>
  j_cons (j_expr (eg_extend ho hm he w (by have := hp (xs ++ ys); rw [List.map_append] at this; exact this) (by rw [List.length_map, List.length_map]; exact hz) hbase hfew hline hs hplain) (h _ ok) hsw)
theorem voM {ns : List Str} {q : Addr} (h : (q, M.ins C ns ds) ∈ O) : Vo (B.L ++ O) (.rf q) C ns ds := .inr ⟨q, rfl, List.mem_append_right _ h⟩
theorem voL {ns : List Str} (h : Vo B.L d C ns ds) : Vo (B.L ++ O) d C ns ds := by
  rcases h with h | ⟨a, e, h⟩
  · exact .inl h
  · exact .inr ⟨a, e, List.mem_append_left _ h⟩
theorem pk_imp {kws : List Keyword} {t t' : TA} (h : PK X kws t) (w : ∀ σ H Q, t' σ H Q → t σ H Q) : PK X kws t' := ⟨fun p pins s σ H Q I q => h.run p pins s σ H Q I (w σ H Q q)⟩
theorem ek_nil : PK X [] (tA X.K B ρ O []) := pk_imp pk_nil fun σ H Q ⟨st, k⟩ => k [] H (Same.refl H) .nil
theorem ek_cons {kws : List Keyword} {nm : Option Str} {kpos : Pos} (ha : EV X B ρ O e d) (hr : PK X kws (tA X.K B ρ O ds)) : PK X (⟨nm, e, kpos⟩ :: kws) (tA X.K B ρ O (d :: ds)) :=
  pk_imp (pk_cons ha hr) fun σ H Q ⟨st, k⟩ => ⟨st, fun v H1 e1 r1 => ⟨st.same e1, fun vs H2 e2 r2 => k (v :: vs) H2 (e1.trans e2) (.cons (r1.mono (vis_same e2)) r2)⟩⟩
structure KwInit (P : Program) (w : World) (K : PySem.W.Frag) (mg : Str → Option Value) (base : Heap) (k : Nat) (f : Addr) (n : Nat) (ks : List Str) (sp : Sp) : Prop where
  ex : ∃ fd ps, FnOk P w K mg base CX0 k f fd ps sp ∧ KBn K fd ps (n + 1) ks (fun a b => a ++ b) (fun a b => a ++ b)
theorem em_makeA {Ar : Om → List D → List Str → List D → Prop} {f : Addr} {ks ns : List Str} {fs dz : List D} {n : Nat} {kws : List Keyword} (Mk : Mk X.K C f) (kw : KwInit X.prog X.w X.K X.mg X.base k f n ks (spI X.K C Ar)) (hr : Room (k + 1) X.A) (hg : Gl X x) (hm : X.mg x = some (.ref C))
    (ha : EA X B ρ O (e :: es) ds) (hkw : PK X kws (tA X.K B ρ O dz)) (hl : ds.length = n) (h : Ar (B.L ++ O) (ds ++ dz) ns fs) (hz : dz.length = ks.length := by rfl)
    (hall : (backToKw pos (keywordEach kws X.env)).all (·.1.isSome) = true := by rfl) (hks : (backToKw pos (keywordEach kws X.env)).filterMap (·.1) = ks := by rfl) (hdb : (x == ("__debug__" : Str)) = false := by decide)
    (he : starEach (e :: es) X.env = (false, eval e X.env) :: starEach es X.env := by rfl) (hpl : ((backTo pos (starEach (e :: es) X.env)).any (·.1) || (backToKw pos (keywordEach kws X.env)).any (·.1.isNone)) = false := by rfl) :
    EM X B ρ O (.Call (.Name x p) (e :: es) kws pos) C ns fs := by
  obtain ⟨fd, ps, F, hb⟩ := kw.ex
  exact em_makeK (gD := fun a b => a ++ b) Mk F hr hg hm hb ha hkw hl hz (fun _ _ _ => rfl) (fun Hv u vs zs r1 r2 => r1.append r2) h hall hks hdb he hpl
theorem ev_notL {α : Type} {E : α → D} {xs : List α} (h : EV X B ρ O e d) (w : Vw (B.L ++ O) d (xs.map E)) : EV X B ρ O (.UnaryOp .Not e pos) (.bl (!(!xs.isEmpty))) :=
  pe_imp (pe_notV h) fun σ H Q ⟨st, k⟩ => ⟨st, fun v H1 e1 r1 => by
    obtain ⟨a, vs, rfl, q, rl⟩ := w.sql (st.same e1).m r1
    refine ⟨!vs.isEmpty, .inl ⟨vs, q, rfl⟩, ?_⟩
    have : vs.isEmpty = xs.isEmpty := by
      have := rl.length
      cases vs <;> cases xs <;> simp_all
    rw [this]
    exact k _ H1 e1 (.bl _)⟩
end
end DL

set_option Elab.async false
set_option linter.all false
set_option maxRecDepth 100000
set_option maxHeartbeats 4000000
namespace L2
open PySem PySem.Spec PyProof.Rows ItX
open Sem (wp)
section
variable {X : Cx} {C f p : Addr} {fl : Str} {k n : Nat} {pins : List (Addr × Obj)} {σ : L2.St} {H : Hp} {s : Shared}
end
end L2
namespace PySem
open PySem.Spec PyProof.Rows
end PySem

set_option Elab.async false
set_option linter.all false
set_option maxRecDepth 100000
set_option maxHeartbeats 4000000
namespace L2
open PySem PySem.Spec PyProof.Rows ItX
section
variable {X : Cx} {C f p : Addr} {fl : Str} {k n : Nat} {pins : List (Addr × Obj)} {σ : L2.St} {H : Hp} {s : Shared} {e e2 tg : Expr} {te : TE} {ta : TA}
end
end L2
namespace DL
open PySem PySem.Spec PyProof.Rows L2
section
variable {X : Cx} {B : Gd} {ρ : List (Option D)} {O : Om} {a b c e o : Expr} {es : List Expr} {d d1 d2 d3 : D} {ds : List D} {pos pos' p apos : Pos} {C f : Addr} {k : Nat} {ns : List Str} {fl : Str} {fs : List D} {i : Nat}
end
end DL
namespace DL
open PySem PySem.Spec PyProof.Rows L2 ItX
section
variable {P : Program} {w : World} {K : PySem.W.Frag} {mg : Str → Option Value} {base : Heap} {k : Nat}
end
end DL

set_option Elab.async false
set_option linter.all false
set_option maxRecDepth 100000
set_option maxHeartbeats 4000000
namespace DL
open PySem PySem.Spec PyProof.Rows L2
section
variable {P : Program} {w : World} {K : PySem.W.Frag} {mg : Str → Option Value} {base : Heap}
end
section
variable {X : Cx} {B : Gd} {ρ : List (Option D)} {O : Om} {a b c e o : Expr} {es : List Expr} {d d1 d2 d3 : D} {ds fs : List D} {pos pos' p apos : Pos} {C f : Addr} {k n : Nat} {x kw : Str}
end
end DL

set_option Elab.async false
set_option linter.all false
set_option maxRecDepth 100000
set_option maxHeartbeats 4000000
namespace DL
open PySem PySem.Spec PyProof.Rows L2
section
variable {K : PySem.W.Frag} {H H' : Hp}
end
def M.isIns : M → Bool
  | .ins _ _ _ => true
  | _ => false
abbrev noIns (O : Om) : Om := O.filter fun p => !p.2.isIns
theorem noIns_sub {O : Om} : ∀ q ∈ noIns O, q ∈ O := fun q h => (List.mem_filter.mp h).1
inductive BoL (O : Om) : List D → List D → Prop
  | nil : BoL O [] []
  | cons {d : D} {ds ds' : List D} : BoL O ds ds' → BoL O (d :: ds) (d :: ds')
  | bor {q C : Addr} {ns : List Str} {fs : List D} {ds ds' : List D} : (q, M.ins C ns fs) ∈ O → BoL O ds ds' → BoL O (.rf q :: ds) (.obj C ns fs :: ds')
section
variable {X : Cx} {B : Gd} {ρ ρ' : List (Option D)} {O O' O1 O1' R O'' : Om} {a b c e o : Expr} {es : List Expr} {d d1 d2 d3 d' : D} {ds ds' fs : List D} {pos pos' p apos : Pos} {C f : Addr} {k n : Nat} {x kw : Str} {ns : List Str}
theorem noIns_has (nd : (O.map (·.1)).Nodup) {q C : Addr} {fs : List D} (h : (q, M.ins C ns fs) ∈ O) : has (noIns O) q = false := by
  cases e : has (noIns O) q with
  | false => rfl
  | true =>
    obtain ⟨m, hm⟩ := has_mem.mp e
    obtain ⟨h1, h2⟩ := List.mem_filter.mp hm
    have : m = .ins C ns fs := by
      have key : ∀ (L : Om), (L.map (·.1)).Nodup → (q, m) ∈ L → (q, M.ins C ns fs) ∈ L → m = .ins C ns fs := by
        intro L
        induction L with
        | nil => intro _ z; cases z
        | cons u L ih =>
          intro nd a1 a2
          rw [List.map_cons, List.nodup_cons] at nd
          rcases List.mem_cons.mp a1 with a1 | a1
          · rcases List.mem_cons.mp a2 with a2 | a2
            · rw [← a1] at a2; exact (Prod.mk.inj a2).2.symm
            · exact absurd (List.mem_map_of_mem (f := (·.1)) a2) (by rw [← a1] at nd; exact nd.1)
          · rcases List.mem_cons.mp a2 with a2 | a2
            · exact absurd (List.mem_map_of_mem (f := (·.1)) a1) (by rw [← a2] at nd; exact nd.1)
            · exact ih nd.2 a1 a2
      exact key O nd h1 h
    rw [this] at h2
    cases h2
theorem BoL.rp {K : PySem.W.Frag} {H : Hp} (m : MOk K B O H) : ∀ {vs : List V} {ds ds' : List D}, BoL O ds ds' → RpL K (vis B.F O H) vs ds → RpL K (vis B.F (noIns O) H) vs ds'
  | _, _, _, .nil, .nil => .nil
  | _, _, _, .cons h, .cons r1 r => .cons (r1.mono (vis_sub noIns_sub)) (h.rp m r)
  | _, _, _, .bor (q := q) hq h, .cons r1 r => by
    cases r1
    obtain ⟨dx, fv, g1, g2, g3⟩ := m.mem _ _ hq
    obtain ⟨fq, _, _⟩ := vis_some.mp (m.visM (has_mem.mpr ⟨_, hq⟩) g1)
    exact .cons (.obj (vis_some.mpr ⟨fq, noIns_has m.nd hq, g1⟩) g2 (g3.mono (vis_sub noIns_sub))) (h.rp m r)
theorem MOk.noIns {K : PySem.W.Frag} {H : Hp} (m : MOk K B O H) : MOk K B (noIns O) H :=
  ⟨fun a o q => ⟨(m.base a o q).1, has_sub noIns_sub (m.base a o q).2⟩, fun a mm q => (m.mem a mm (noIns_sub _ q)).mono (vis_sub noIns_sub) (fun _ q => q), m.nd.sublist ((List.filter_sublist).map _), fun a mm q => (m.lent a mm q).mono (vis_sub noIns_sub) (fun _ q => q)⟩
end
end DL

set_option Elab.async false
set_option linter.all false
set_option maxRecDepth 100000
set_option maxHeartbeats 4000000
namespace DL
open PySem PySem.Spec PyProof.Rows L2
section
variable {P : Program} {w : World} {K : PySem.W.Frag} {mg : Str → Option Value} {base : Heap}
end
section
variable {X : Cx} {B : Gd} {ρ ρ' : List (Option D)} {O O' O1 O1' R O'' : Om} {a b c e o : Expr} {es : List Expr} {d d0 d1 d2 d3 d' : D} {ds ds' fs : List D} {pos pos' p apos spos : Pos} {C f : Addr} {k n : Nat} {x kw : Str} {ns : List Str} {st0 h₀ : Stmt} {ss rest body s1 s2 : List Stmt}
variable {α β γ S : Type} {E : β → D} {A : α → AE}
end
end DL

set_option Elab.async false
set_option linter.all false
set_option maxRecDepth 100000
set_option maxHeartbeats 4000000
namespace DL
open PySem PySem.Spec PyProof.Rows L2 TL
section
variable {X : Cx} {B : Gd} {ρ ρ' : List (Option D)} {O O' : Om} {a b c e o : Expr} {pos : Pos} {rest s1 s2 : List Stmt} {α : Type} {A : α → AE}
end
def aRM {R : Type} (rt : R → D → Om → Prop) (r : R) : AE := { nx := fun _ _ => False, rt := rt r }
end DL

set_option Elab.async false
set_option linter.all false
set_option maxRecDepth 100000
set_option maxHeartbeats 4000000
namespace DL
open PySem PySem.Spec PyProof.Rows L2
section
variable {P : Program} {w : World} {K : PySem.W.Frag} {mg : Str → Option Value} {base : Heap}
end
end DL

set_option Elab.async false
set_option linter.all false
set_option maxRecDepth 100000
set_option maxHeartbeats 4000000
namespace DL
open PySem PySem.Spec PyProof.Rows L2 GenW
section
variable {X : Cx} {st : Stmt} {rest : List Stmt}
end
end DL

set_option Elab.async false
set_option linter.all false
set_option maxRecDepth 100000
set_option maxHeartbeats 4000000
namespace DL
open PySem PySem.Spec PyProof.Rows L2 GenW
abbrev SpF := List V → Hp → (Option V → Hp → Prop) → Prop
section
variable {X : Cx} {k : Nat} {f : Addr} {fd : FuncData} {ps : List Str} {sp : SpF} {dvs : List V} {ds : List Value} {x : Str} {p pos pos' : Pos} {e : Expr} {es : List Expr}
end
end DL

set_option Elab.async false
set_option linter.all false
set_option maxRecDepth 100000
set_option maxHeartbeats 4000000
namespace DL
open PySem PySem.Spec PyProof.Rows L2 GenW
abbrev PNx := List (Option D) → Om → Prop
abbrev PYl := D → Om → Prop
section
variable {X : Cx} {B : Gd} {ρ : List (Option D)} {O : Om} {nxp : PNx} {ylp : PYl} {st : Stmt} {rest s1 s2 : List Stmt} {c e : Expr} {d : D} {b1 : Bool} {pos yp : Pos}
end
section
variable {X : Cx} {B : Gd} {ρ : List (Option D)} {O : Om} {st : Stmt} {rest s1 s2 body : List Stmt} {c e : Expr} {d : D} {b1 : Bool} {pos yp : Pos} {α β S L : Type} {nxp : α → PNx} {ylp : α → PYl} {E : α → D}
end
section
variable {P : Program} {w : World} {K : PySem.W.Frag} {mg : Str → Option Value} {base : Heap}
end
section
variable {X : Cx} {B : Gd} {ρ : List (Option D)} {O : Om} {body rest : List Stmt} {e iter : Expr} {es : List Expr} {ds : List D} {pos pos' p p1 : Pos} {x y : Str} {k i : Nat} {α β : Type}
end
end DL

set_option Elab.async false
set_option linter.all false
set_option maxRecDepth 100000
set_option maxHeartbeats 4000000
namespace L2
open PySem PySem.Spec PyProof.Rows
end L2
namespace DL
open PySem PySem.Spec PyProof.Rows L2 TL
section
variable {P : Program} {w : World} {K : PySem.W.Frag} {mg : Str → Option Value} {base : Heap}
end
section
variable {X : Cx} {B : Gd} {ρ ρ' : List (Option D)} {O O' O1 O1' R O'' : Om} {a b c e o e1 e2 : Expr} {es : List Expr} {d d0 d1 d2 d3 : D} {ds : List D} {pos pos' p apos spos : Pos} {rest body s1 s2 : List Stmt} {x n : Str} {k : Nat} {C C0 : Addr} {b1 b2 : Bool}
end
end DL

set_option Elab.async false
set_option linter.all false
set_option maxRecDepth 100000
set_option maxHeartbeats 4000000
namespace DL
open PySem PySem.Spec PyProof.Rows L2 TL
section
variable {X : Cx} {B : Gd} {ρ ρ' : List (Option D)} {O O' O1 O1' R O'' : Om} {a b c e o e1 e2 : Expr} {es : List Expr} {d d0 d1 d2 d3 : D} {ds : List D} {pos pos' p apos spos : Pos} {ss rest body s1 s2 : List Stmt} {x n : Str} {k : Nat} {C C0 : Addr} {b1 b2 : Bool}
variable {α β γ S : Type} {E : β → D} {st : S → Om}
theorem eg_callE {Ar : Om → Om → List D → D → Om → Prop} (cl : Cal X.prog X.w X.K X.mg X.base CX0 k x (spE X.K Ar)) (hr : Room k X.A) (hg : Gl X x) (ha : EA X B ρ O (e :: es) ds)
    (hp : O.Perm (O1 ++ R)) (hp' : (O1' ++ R).Perm O'') (h : Ar (B.L ++ R) O1 ds d O1') (hdb : (x == ("__debug__" : Str)) = false := by decide)
    (he : starEach (e :: es) X.env = (false, eval e X.env) :: starEach es X.env := by rfl) (hpl : (backTo pos (starEach es X.env)).any (·.1) = false := by rfl) : EG X B ρ O (.Call (.Name x p) (e :: es) [] pos) d O'' := by
  obtain ⟨f, F, hm⟩ := cl.ex
  exact pe_imp (pe_callR (E := E0) F.raw hr hg hm F.kp pass0 ha hdb he hpl) fun σ H Q ⟨w, kk⟩ => ⟨w, fun vs H1 e1 r1 => spE_use (w.same e1) hp hp' r1 h fun v H2 s2 e2 r2 => kk v H2 s2 ((vis_same e1).trans e2) r2⟩
theorem egm_callE {Ar : Om → Om → List D → D → Om → Prop} {mc : Cmp (β × γ)} {vals : γ → List D} {v0 : γ} {upd : γ → S} {ns : List Str} {q : Addr} {ds' : List D} (cl : Cal X.prog X.w X.K X.mg X.base CX0 k x (spE X.K Ar)) (hr : Room k X.A) (hg : Gl X x) (ha : EA X B ρ O (e :: es) ds')
    (hput : ∀ v, Put O q (.ins C ns (vals v0)) (.ins C ns (vals v)) (st (upd v))) (h : mc.ok → ∀ R : Om, (∀ z ∈ R, z ∈ O) → Ar (B.L ++ R) [(q, .ins C ns (vals v0))] ds' (E mc.val.1) [(q, .ins C ns (vals mc.val.2))]) (hdb : (x == ("__debug__" : Str)) = false := by decide)
    (he : starEach (e :: es) X.env = (false, eval e X.env) :: starEach es X.env := by rfl) (hpl : (backTo pos (starEach es X.env)).any (·.1) = false := by rfl) : EGm X B ρ O (.Call (.Name x p) (e :: es) [] pos) E st (methM mc upd) := fun ok => by
  have hp0 := hput mc.val.2
  obtain ⟨R, h1, h2⟩ := hp0.split
  exact eg_callE cl hr hg ha h1 h2 (h ok.1 R fun z hz => h1.mem_iff.mpr (List.mem_append_right _ hz)) hdb he hpl
end
end DL

set_option Elab.async false
set_option linter.all false
set_option maxRecDepth 100000
set_option maxHeartbeats 4000000
namespace DL
open PySem PySem.Spec PyProof.Rows L2 TL
section
variable {X : Cx} {B : Gd} {ρ ρ' : List (Option D)} {O O0 : Om} {ss : List Stmt} {ce : ErrTab} {R S L : Type} {E : R → D} {o : S → Om}
end
section
variable {P : Program} {w : World} {K : PySem.W.Frag} {mg : Str → Option Value} {base : Heap} {k : Nat} {f : Addr} {C : Addr} {n : Str}
end
section
variable {X : Cx} {B : Gd} {ρ ρ' : List (Option D)} {O O' O1 O1' R0 O'' : Om} {a b c e o e1 e2 : Expr} {es : List Expr} {d d0 d1 d2 d3 : D} {ds : List D} {pos pos' p apos spos : Pos} {ss rest body s1 s2 : List Stmt} {x n : Str} {k : Nat} {C C0 : Addr} {ce : ErrTab}
variable {α β γ S S' L R : Type} {E : β → D} {st : S' → Om}
end
end DL

set_option Elab.async false
set_option linter.all false
set_option maxRecDepth 100000
set_option maxHeartbeats 4000000
namespace L2
open PySem PySem.Spec PyProof.Rows
section
variable {X : Cx} {CX : CXT} {k n : Nat} {f C : Addr} {fd : FuncData} {ps ks : List Str} {sp : Sp} {x : Str} {p pos : Pos} {e : Expr} {es : List Expr} {kws : List Keyword} {t tk : TA} {g : List Value → List Value → List Value} {gV : List V → List V → List V}
end
end L2
namespace DL
open PySem PySem.Spec PyProof.Rows L2 TL
structure KwInitX (P : Program) (w : World) (K : PySem.W.Frag) (mg : Str → Option Value) (base : Heap) (k : Nat) (f : Addr) (n : Nat) (ks : List Str) (sp : Sp) : Prop where
  ex : ∃ fd ps, FnOk P w K mg base (L2.CX P w) k f fd ps sp ∧ KBn K fd ps (n + 1) ks (fun a b => a ++ b) (fun a b => a ++ b)
theorem KwInitX.calm {P : Program} {w : World} {K : PySem.W.Frag} {mg : Str → Option Value} {base : Heap} {k n : Nat} {f C : Addr} {ks : List Str} {Ar : Om → List D → OutI → Prop} (h : KwInitX P w K mg base k f n ks (spXI K C Ar)) : KwInit P w K mg base k f n ks (spI K C fun L ds ns fs => Ar L ds (.val ns fs)) := by
  obtain ⟨fd, ps, F, b⟩ := h.ex
  exact ⟨fd, ps, fn_calmI F fun _ _ _ _ z => z, b⟩
section
variable {X : Cx} {B : Gd} {ρ ρ' : List (Option D)} {O O' : Om} {a b c e o : Expr} {es : List Expr} {d : D} {ds : List D} {pos p : Pos} {x n : Str} {k : Nat} {C C0 : Addr}
end
end DL

set_option Elab.async false
set_option linter.all false
set_option maxRecDepth 100000
set_option maxHeartbeats 4000000
namespace DL
open PySem PySem.Spec PyProof.Rows L2 TL
structure KwDef (P : Program) (w : World) (K : PySem.W.Frag) (mg : Str → Option Value) (base : Heap) (k : Nat) (f : Addr) (dvs : List V) (sp : Sp) : Prop where
  ex : ∃ fd ps ds, FnOk P w K mg base CX0 k f fd ps sp ∧ Vals dvs ds ∧ Binds K fd ps ds
theorem kwdef_mk {P : Program} {w : World} {K : PySem.W.Frag} {mg : Str → Option Value} {base : Heap} {k n : Nat} {x qual kw : Str} {st : Stmt} {f D : Addr} {ps : List Str} {sp : Sp} {v : V} {u doc pm cdv ct oc : Value} {od an : Option Addr} {osl : Array (Option Value)}
    (l : K.lookup f = some ⟨oc, od, .func (PySem.W.fnOf x qual (defArgs st) (defBody st) (defScope st) .none (.ref D) doc pm an cdv ct), osl⟩) (c : PySem.W.codeIn K cdv qual = true) (hk : PySem.W.keepIn K (.ref f) = true) (hq : PySem.W.nsIn K D kw = some (some u)) (rv : RelV v u)
    (G : FnOk P w K mg base CX0 k f (PySem.W.fnOf x qual (defArgs st) (defBody st) (defScope st) .none (.ref D) doc pm an cdv ct) ps sp) (hn : n + 1 = ps.length)
    (h : ∀ (D : Addr) (doc pm : Value) (an : Option Addr) (cdv ct : Value) (us ks : List Value), us.length = n → ks.length = 1 → KwChain D (([(kw, v)].map (·.1)).zip ks) (bindArgs (PySem.W.fnOf x qual (defArgs st) (defBody st) (defScope st) .none (.ref D) doc pm an cdv ct) ⟨us, []⟩) (ps.zip (us ++ ks))) :
    KwDef P w K mg base k f [v] sp := by
  have F : FunD K x qual (defArgs st) (defBody st) (defScope st) [] [(kw, v)] f (PySem.W.fnOf x qual (defArgs st) (defBody st) (defScope st) .none (.ref D) doc pm an cdv ct) :=
    ⟨⟨oc, od, _, _, doc, pm, an, cdv, ct, osl, rfl, l, c, .inl ⟨rfl, rfl⟩, .inr ⟨D, rfl, fun q hq' => by cases List.mem_singleton.mp hq'; exact ⟨u, hq, rv⟩⟩⟩, hk⟩
  obtain ⟨ds, r, b⟩ := F.binds0 (ps := ps) n (by simp) hn h
  exact ⟨_, _, ds, G, r, b⟩
section
variable {X : Cx} {B : Gd} {ρ ρ' : List (Option D)} {O O' : Om} {a b c e o : Expr} {es : List Expr} {d : D} {ds : List D} {pos p : Pos} {x n : Str} {k : Nat} {C C0 : Addr}
theorem em_makeD {Ar : Om → List D → List Str → List D → Prop} {f : Addr} {ns : List Str} {fs : List D} {dvs : List V} {dvd : List D} (Mk : Mk X.K C f) (kd : KwDef X.prog X.w X.K X.mg X.base k f dvs (spI X.K C Ar)) (hr : Room (k + 1) X.A) (hg : Gl X x) (hm : X.mg x = some (.ref C)) (ha : EA X B ρ O (e :: es) ds)
    (hd : ∀ Hv, RpL X.K Hv dvs dvd) (h : Ar (B.L ++ O) (ds ++ dvd) ns fs) (hdb : (x == ("__debug__" : Str)) = false := by decide)
    (he : starEach (e :: es) X.env = (false, eval e X.env) :: starEach es X.env := by rfl) (hpl : (backTo pos (starEach es X.env)).any (·.1) = false := by rfl) : EM X B ρ O (.Call (.Name x p) (e :: es) [] pos) C ns fs := by
  obtain ⟨fd, ps, dz, F, rz, b⟩ := kd.ex
  exact em_makeR Mk (F.raw b rz) hr hg hm ha (fun _ _ _ _ z => z) hd h hdb he hpl
end
section
variable {X : Cx} {B : Gd} {ρ ρ' : List (Option D)} {O O' : Om} {a b c e o : Expr} {es : List Expr} {d d0 : D} {ds : List D} {pos pos' p : Pos} {x n : Str} {k : Nat} {C C0 : Addr} {ce : ErrTab} {rest s1 s2 : List Stmt}
variable {β γ S S' L R : Type} {E : β → D} {st : S' → Om}
end
end DL

set_option Elab.async false
set_option linter.all false
set_option maxRecDepth 100000
set_option maxHeartbeats 4000000
namespace DL
open PySem PySem.Spec PyProof.Rows L2 TL
inductive LenE (O : Om) : List (Option D) → List (Option D) → Prop
  | nil : LenE O [] []
  | none {ρ ρ' : List (Option D)} : LenE O ρ ρ' → LenE O (Option.none :: ρ) (Option.none :: ρ')
  | some {d : D} {ρ ρ' : List (Option D)} : LenE O ρ ρ' → LenE O (Option.some d :: ρ) (Option.some d :: ρ')
  | bor {q C : Addr} {ns : List Str} {fs : List D} {ρ ρ' : List (Option D)} : (q, M.ins C ns fs) ∈ O → LenE O ρ ρ' → LenE O (Option.some (.rf q) :: ρ) (Option.some (.obj C ns fs) :: ρ')
theorem LenE.len {O : Om} : ∀ {ρ ρ' : List (Option D)}, LenE O ρ ρ' → ρ.length = ρ'.length
  | _, _, .nil => rfl
  | _, _, .none h => by rw [List.length_cons, List.length_cons, h.len]
  | _, _, .some h => by rw [List.length_cons, List.length_cons, h.len]
  | _, _, .bor _ h => by rw [List.length_cons, List.length_cons, h.len]
theorem LenE.get {O : Om} : ∀ {ρ ρ' : List (Option D)} {i : Nat} {d : D}, LenE O ρ ρ' → ρ'[i]? = Option.some (Option.some d) → ρ[i]? = Option.some (Option.some d) ∨ ∃ q C ns fs, (q, M.ins C ns fs) ∈ O ∧ d = .obj C ns fs ∧ ρ[i]? = Option.some (Option.some (.rf q))
  | _, _, _, _, .nil, e => by simp at e
  | _, _, 0, _, .none h, e => by simp at e
  | _, _, 0, _, .some h, e => .inl e
  | _, _, 0, _, .bor hq h, e => by
    have e' := Option.some.inj e
    exact .inr ⟨_, _, _, _, hq, (Option.some.inj e').symm, rfl⟩
  | _, _, i + 1, _, .none h, e => by simpa using h.get (i := i) (by simpa using e)
  | _, _, i + 1, _, .some h, e => by simpa using h.get (i := i) (by simpa using e)
  | _, _, i + 1, _, .bor hq h, e => by simpa using h.get (i := i) (by simpa using e)
section
variable {X : Cx} {B : Gd} {ρ ρ' : List (Option D)} {O O2 : Om} {e : Expr} {d : D} {ds : List D} {b1 : Bool}
end
section
variable {X : Cx} {B : Gd} {ρ : List (Option D)} {O : Om} {e : Expr} {pos p : Pos}
end
end DL

set_option Elab.async false
set_option linter.all false
set_option maxRecDepth 100000
set_option maxHeartbeats 4000000
namespace DL
open PySem PySem.Spec PyProof.Rows L2 TL
section
variable {α β : Type}
end
section
variable {X : Cx} {B : Gd} {ρ : List (Option D)} {O : Om} {d : D} {C C0 f : Addr} {ds fs es' : List D} {k : Nat} {n x : Str} {o a b e : Expr} {es : List Expr} {pos pos2 p apos : Pos} {rest : List Stmt}
end
section
variable {P : Program} {w : World} {K : PySem.W.Frag} {mg : Str → Option Value} {base : Heap}
end
end DL

set_option Elab.async false
set_option linter.all false
set_option maxRecDepth 100000
set_option maxHeartbeats 4000000
namespace DL
open PySem PySem.Spec PyProof.Rows L2
section
variable {P : Program} {w : World} {K : PySem.W.Frag} {mg : Str → Option Value} {base : Heap}
end
section
variable {X : Cx} {B : Gd} {ρ ρ' : List (Option D)} {O O' : Om} {a b c e o : Expr} {es : List Expr} {d d1 d2 d3 : D} {ds fs es' : List D} {pos p apos : Pos} {C C0 f : Addr} {k n : Nat} {x kw : Str} {ns ns0 : List Str} {ss : List Stmt} {α : Type} {A : α → AE}
end
end DL

set_option Elab.async false
set_option linter.all false
set_option maxRecDepth 100000
set_option maxHeartbeats 4000000
namespace L2
open PySem PySem.Spec PyProof.Rows
open Sem (wp)
end L2
namespace DL
open PySem PySem.Spec PyProof.Rows L2
section
variable {X : Cx} {B : Gd} {ρ : List (Option D)} {O : Om} {e : Expr} {pos p : Pos} {C f : Addr} {k : Nat} {ns : List Str} {ds : List D} {n : Int}
end
end DL

set_option Elab.async false
set_option linter.all false
set_option maxRecDepth 100000
set_option maxHeartbeats 4000000
namespace DL
open PySem PySem.Spec PyProof.Rows L2
def spEN (K : PySem.W.Frag) (Ar : Om → Om → List D → List D → Om → Prop) : Sp := fun vs H Q _ => ∃ (F : Addr → Bool) (L O : Om) (ds es : List D) (O' : Om), BorE K F L O H ∧ RpL K (vis F O H) vs ds ∧ Ar L O ds es O' ∧
  ∀ p H', (∀ a o, has O a = false → H a = some o → H' a = some o) → (∀ a m, (a, m) ∈ (p, M.lst es) :: O' → MRp K (vis F ((p, M.lst es) :: O') H') H' a m) → (((p, M.lst es) :: O').map (·.1)).Nodup → (∀ a, has ((p, M.lst es) :: O') a = true → has O a = true ∨ H a = none) → Q (.ref p) H'
theorem fn_effN {P : Program} {w : World} {K : PySem.W.Frag} {mg : Str → Option Value} {base : Heap} {Ar : Om → Om → List D → List D → Om → Prop} {x qual : Str} {st : Stmt} {f : Addr} {fd : FuncData} {N ps : List Str} {k : Nat} (F : Fun K x qual st f fd) (S : FnScope N ps (defScope st)) (len : ∀ L O ds d O', Ar L O ds d O' → ds.length = ps.length)
    (h : ∀ (cdv : Value) (A : Around) (outer : List Env) (s : Shared) (H : Hp) (E : XK) (B : Gd) (O : Om) (ds es : List D) (O' : Om), Room k (A.deeper (envOfC qual (defScope st) s.heap.objs.size f cdv)) → Ar B.L O ds es O' →
      J (cxOf CX0 P w K mg base N qual (defScope st) f cdv A outer s H E).nox B (defBody st) (startD N ds) O { nx := fun _ _ => False, rt := fun d' Oe => ∃ p, d' = .rf p ∧ Oe = (p, M.lst es) :: O' }) : FnOk P w K mg base CX0 (k + 1) f fd ps (spEN K Ar) := by
  refine F.ok S (fun vs H Q E q => ?_) (fun cdv A outer s H vs Q E hr q => ?_)
  · obtain ⟨F', L, O, ds, d, O', _, r, ha, _⟩ := q
    rw [r.length]; exact len L O ds d O' ha
  · obtain ⟨F', L, O, ds, es, O', bo, r, ha, kk⟩ := q
    let Hb : Hp := fun a => if has O a = true then none else H a
    have hbx : ∀ a o, Hb a = some o ↔ has O a = false ∧ H a = some o := fun a o => by
      show (if has O a = true then none else H a) = some o ↔ _
      cases has O a <;> simp
    have hF' : ∀ a, F' a = true → ∃ o, Hb a = some o := fun a h => by
      obtain ⟨o, e⟩ := bo.ok a h
      refine ⟨o, (hbx a o).mpr ⟨?_, e⟩⟩
      cases q : has O a with
      | false => rfl
      | true => rw [bo.nF a q] at h; cases h
    refine ⟨_, h cdv A outer s H E ⟨F', Hb, fun c d _ H => E c d H, L, hF', bo.lF⟩ O ds es O' hr ha, ⟨⟨fun a o e => ⟨((hbx a o).mp e).2, ((hbx a o).mp e).1⟩, bo.mem, bo.nd, bo.lent⟩, start_env r⟩, fun _ _ _ _ z => z.elim, ?_, fun _ _ _ _ z => z.elim, fun _ _ _ _ z => z.elim, fun _ _ _ _ _ _ _ _ _ z => z.elim⟩
    rintro d' Oe v H' ⟨p, rfl, rfl⟩ m r'
    cases r'
    refine kk p H' (fun a o na q => (m.base a o ((hbx a o).mpr ⟨na, q⟩)).1) m.mem m.nd (fun a ha' => ?_)
    cases q : has O a with
    | true => exact .inl rfl
    | false =>
      refine .inr ?_
      cases q2 : H a with
      | none => rfl
      | some o =>
        have := (m.base a o ((hbx a o).mpr ⟨q, q2⟩)).2
        rw [ha'] at this; cases this
section
variable {X : Cx} {B : Gd} {ρ ρ' : List (Option D)} {O O' O1 O1' R O'' : Om} {a b c e o e1 e2 : Expr} {es : List Expr} {d d0 d1 d2 d3 : D} {ds : List D} {pos pos' p apos spos pos2 : Pos} {st h₀ : Stmt} {ss rest body s1 s2 : List Stmt} {x : Str} {k : Nat} {C : Addr} {b1 b2 : Bool} {α β γ : Type} {A : α → AE} {E : β → D}
theorem spE_parts {K : PySem.W.Frag} {σ : L2.St} {H : Hp} {vs : List V} (s : StOk K B ρ O σ H) (hp : O.Perm (O1 ++ R)) (r : RpL K (vis B.F O H) vs ds) : ∃ F' : Addr → Bool, BorE K F' (B.L ++ R) O1 H ∧ RpL K (vis F' O1 H) vs ds ∧
    ∀ (O1' O'' : Om) (H' : Hp), (O1' ++ R).Perm O'' → (∀ a o, has O1 a = false → H a = some o → H' a = some o) → (∀ a m, (a, m) ∈ O1' → MRp K (vis F' O1' H') H' a m) → (O1'.map (·.1)).Nodup → (∀ a, has O1' a = true → has O1 a = true ∨ H a = none) → StOk K B ρ O'' σ H' ∧ Same (vis B.F O H) (vis B.F O'' H') := by
  have m := s.m
  have nd := (hp.map (·.1)).nodup_iff.mp m.nd
  rw [List.map_append, List.nodup_append] at nd
  have hO : ∀ a, has O a = (has O1 a || has R a) := fun a => by rw [has_perm hp, has_app]
  have hno : ∀ a, has R a = true → has O1 a = false := fun a hR => by
    cases q : has O1 a with
    | false => rfl
    | true =>
      obtain ⟨m1, h1⟩ := has_mem.mp q
      obtain ⟨m2, h2⟩ := has_mem.mp hR
      exact absurd rfl (nd.2.2 a (List.mem_map_of_mem (f := (·.1)) h1) a (List.mem_map_of_mem (f := (·.1)) h2))
  let F' : Addr → Bool := fun a => B.F a || has R a
  have v0 : ∀ {O2 : Om} {H2 : Hp}, vis F' O2 H2 = vis B.F (O2 ++ R) H2 := fun {O2 H2} => by
    funext a
    unfold vis
    rw [has_app]
    show (if (B.F a || has R a || has O2 a) = true then none else H2 a) = _
    rw [Bool.or_assoc, Bool.or_comm (has R a)]
  have v1 : vis F' O1 H = vis B.F O H := by
    rw [v0]; funext a; unfold vis; rw [has_app, hO]
  have bF : ∀ a, B.F a = true → has O a = false := fun a h => by
    obtain ⟨o, e⟩ := B.ok a h
    exact (m.base a o e).2
  refine ⟨F', ⟨fun a h => ?_, fun a mm h => ?_, fun a mm h => ?_, fun a mm h => ?_, nd.1, fun a h => ?_⟩, by rw [v1]; exact r, fun O1' O'' H' hp' k1 k2 k3 k4 => ?_⟩
  · rcases Bool.or_eq_true _ _ |>.mp h with h | h
    · obtain ⟨o, e⟩ := B.ok a h
      exact ⟨o, (m.base a o e).1⟩
    · obtain ⟨mm, e⟩ := has_mem.mp h
      exact (m.mem a mm (hp.mem_iff.mpr (List.mem_append_right _ e))).some
  · show (B.F a || has R a) = true
    rcases List.mem_append.mp h with h | h
    · rw [B.lF a mm h]; rfl
    · rw [has_mem.mpr ⟨mm, h⟩, Bool.or_true]
  · rw [v1]
    exact (List.mem_append.mp h).elim (m.lent a mm) fun q => m.mem a mm (hp.mem_iff.mpr (List.mem_append_right _ q))
  · rw [v1]
    exact m.mem a mm (hp.mem_iff.mpr (List.mem_append_left _ h))
  · show (B.F a || has R a) = false
    have h1 : B.F a = false := by
      cases q : B.F a with
      | false => rfl
      | true => have := bF a q; rw [hO, h] at this; cases this
    have h2 : has R a = false := by
      cases q : has R a with
      | false => rfl
      | true => rw [hno a q] at h; cases h
    rw [h1, h2]; rfl
  · have hO'' : ∀ a, has O'' a = (has O1' a || has R a) := fun a => by rw [← has_perm hp', has_app]
    have v2 : vis F' O1' H' = vis B.F O'' H' := by
      rw [v0]; funext a; unfold vis; rw [has_app, hO'']
    have n1 : ∀ a o, has O1 a = false → H a = some o → has O1' a = false := fun a o q e => by
      cases q' : has O1' a with
      | false => rfl
      | true =>
        rcases k4 a q' with z | z
        · rw [q] at z; cases z
        · rw [e] at z; cases z
    have sm : Same (vis B.F O H) (vis B.F O'' H') := fun a o q => by
      obtain ⟨h1, h2, h3⟩ := vis_some.mp q
      rw [hO, Bool.or_eq_false_iff] at h2
      exact vis_some.mpr ⟨h1, by rw [hO'', n1 a o h2.1 h3, h2.2]; rfl, k1 a o h2.1 h3⟩
    refine ⟨⟨⟨fun a o q => ?_, fun a mm hm => ?_, ?_, fun a mm hm => ?_⟩, s.env.mono sm⟩, sm⟩
    · obtain ⟨b1, b2⟩ := m.base a o q
      rw [hO, Bool.or_eq_false_iff] at b2
      exact ⟨k1 a o b2.1 b1, by rw [hO'', n1 a o b2.1 b1, b2.2]; rfl⟩
    · rcases List.mem_append.mp (hp'.mem_iff.mpr hm) with q | q
      · rw [← v2]; exact k2 a mm q
      · have hR : has R a = true := has_mem.mpr ⟨mm, q⟩
        exact (m.mem a mm (hp.mem_iff.mpr (List.mem_append_right _ q))).mono sm fun o e => k1 a o (hno a hR) e
    · refine (hp'.map (·.1)).nodup_iff.mp ?_
      rw [List.map_append, List.nodup_append]
      refine ⟨k3, nd.2.1, fun u hu w hw => ?_⟩
      rintro rfl
      obtain ⟨⟨u1, m1⟩, h1, rfl⟩ := List.mem_map.mp hu
      obtain ⟨⟨u2, m2⟩, h2, e2⟩ := List.mem_map.mp hw
      have e2' : u2 = u1 := e2
      subst e2'
      have hR : has R u2 = true := has_mem.mpr ⟨m2, h2⟩
      obtain ⟨o, e⟩ := (m.mem u2 m2 (hp.mem_iff.mpr (List.mem_append_right _ h2))).some
      have := n1 u2 o (hno u2 hR) e
      rw [show has O1' u2 = true from has_mem.mpr ⟨m1, h1⟩] at this; cases this
    · have fa := B.lF a mm hm
      have q := bF a fa
      rw [hO, Bool.or_eq_false_iff] at q
      exact (m.lent a mm hm).mono sm fun o e => k1 a o q.1 e
def tEN (K : PySem.W.Frag) (B : Gd) (ρ : List (Option D)) (O : Om) (es : List D) (O'' : Om) : TE := fun σ H Q => StOk K B ρ O σ H ∧ ∀ p H', StOk K B ρ ((p, M.lst es) :: O'') σ H' → Same (vis B.F O H) (vis B.F ((p, M.lst es) :: O'') H') → Q (.ref p) H'
theorem een_meth {Ar : Om → Om → List D → List D → Om → Prop} {ns : List Str} {m : Str} {f q : Addr} {es' ls : List D} (ho : EV X B ρ O o (.rf q)) (hq : (q, M.ins C ns ds) ∈ O) (c : Cls X.K C) (hm : Meth X.K C m f) (F : Fok X.prog X.w X.K X.mg X.base CX0 k f (spEN X.K Ar)) (hr : Room k X.A) (ha : EA X B ρ O (e :: es) es') (hn : ns.idxOf? m = none)
    (hp : O.Perm (O1 ++ R)) (hp' : (O1' ++ R).Perm O'') (h : Ar (B.L ++ R) O1 (.rf q :: es') ls O1') (pl : Sem Bool)
    (hst : starEach (e :: es) X.env = (false, eval e X.env) :: starEach es X.env := by rfl) (hpl : (backTo pos (starEach es X.env)).any (·.1) = false := by rfl)
    (ht : eval (.Call (.Attribute o m apos) (e :: es) [] pos) X.env = (do
      let ov ← eval o X.env
      standAt apos.atName
      let (f, first) ← holding [ov] (getMethod ov m pl)
      callWith pos f first (backTo pos (starEach (e :: es) X.env)) (backToKw pos (keywordEach [] X.env))) := by rfl) :
    PE X (.Call (.Attribute o m apos) (e :: es) [] pos) (tEN X.K B ρ O ls O'') :=
  pe_imp (pe_methR (E := E0) (pl := pl) ho c hm F.raw hr pass0 ha hst hpl ht) fun σ H Q ⟨st, k⟩ => ⟨st, fun v H1 e1 r1 => by
    cases r1
    have s1 := st.same e1
    obtain ⟨dx, fv, h1, h2, h3⟩ := s1.m.mem _ _ hq
    refine ⟨_, _, _, rfl, h1, look_no h2 hn, s1, fun vs H2 e2 r2 => ?_⟩
    obtain ⟨F', bo, rr, fin⟩ := spE_parts (s1.same e2) hp (.cons (.rf q) r2)
    refine ⟨F', _, _, _, _, _, bo, rr, h, fun p H3 k1 k2 k3 k4 => ?_⟩
    obtain ⟨s3, e3⟩ := fin ((p, M.lst ls) :: O1') ((p, M.lst ls) :: O'') H3 (hp'.cons _) k1 k2 k3 k4
    exact k p H3 s3 (((vis_same e1).trans (vis_same e2)).trans e3)⟩
theorem jc_setEN (i : Nat) {Ar : Om → Om → List D → List D → Om → Prop} {mc : Cmp (List β × γ)} {vals : γ → List D} {v0 : γ} {ns : List Str} {m : Str} {f q : Addr} {es' : List D} {m2 : List β → γ → Cmp α} {O2 : γ → Om} (nd : X.N.Nodup) (ho : EV X B ρ O o (.rf q)) (c : Cls X.K C) (hm : Meth X.K C m f) (F : Fok X.prog X.w X.K X.mg X.base CX0 k f (spEN X.K Ar)) (hr : Room k X.A) (ha : EA X B ρ O (e :: es) es') (hn : ns.idxOf? m = none)
    (hput : ∀ v, Put O q (.ins C ns (vals v0)) (.ins C ns (vals v)) (O2 v)) (h : mc.ok → ∀ R : Om, (∀ z ∈ R, z ∈ O) → Ar (B.L ++ R) [(q, .ins C ns (vals v0))] (.rf q :: es') (mc.val.1.map E) [(q, .ins C ns (vals mc.val.2))]) (pl : Sem Bool)
    (hk : ∀ p y s, JC X B rest (ρ.set i (some (.rf p))) ((p, .lst (y.map E)) :: O2 s) A (m2 y s)) (hi : X.N[i]? = some x := by rfl) (hx : Loc X.env.scope x := by first | exact .inl rfl | exact .inr rfl)
    (hs : swapsWith (.Call (.Attribute o m apos) (e :: es) [] pos) (some (.Name x pos')) pos2.line X.env = pure false := by rfl)
    (hf : X.fn x = true ∨ X.env.scope.names.lookup x = some .local := by first | exact .inr rfl | exact .inl rfl)
    (hst : starEach (e :: es) X.env = (false, eval e X.env) :: starEach es X.env := by rfl) (hpl : (backTo pos (starEach es X.env)).any (·.1) = false := by rfl)
    (ht : eval (.Call (.Attribute o m apos) (e :: es) [] pos) X.env = (do
      let ov ← eval o X.env
      standAt apos.atName
      let (f, first) ← holding [ov] (getMethod ov m pl)
      callWith pos f first (backTo pos (starEach (e :: es) X.env)) (backToKw pos (keywordEach [] X.env))) := by rfl) :
    JC X B (.Assign [.Name x pos'] (.Call (.Attribute o m apos) (e :: es) [] pos) pos2 :: rest) ρ O A (setM mc m2) := fun ok => by
  have hp0 := hput mc.val.2
  obtain ⟨R, h1, h2⟩ := hp0.split
  exact j_cons (ps_imp (ps_set nd hi hx (een_meth ho hp0.mem c hm F hr ha hn h1 h2 (h ok.1 R fun z hz => h1.mem_iff.mpr (List.mem_append_right _ hz)) pl hst hpl ht) hs hf) fun Dn σ H ⟨st, p⟩ => ⟨st, fun q H1 s1 sm => p.nx _ _ _ H1 (hk q _ _ ok.2) (s1.set (.rf q)) sm⟩)
end
def dF2 {α β : Type} (E : α → D) (F : β → D) (p : α × β) : D := .lst [E p.1, F p.2]
section
variable {X : Cx} {B : Gd} {ρ : List (Option D)} {O : Om} {a b e : Expr} {pos : Pos} {α β : Type} {E : α → D} {F : β → D} {v : α × β}
theorem ev_f1 (he : EV X B ρ O e (dF2 E F v)) (hb : EV X B ρ O b (.int 0)) (hs : PlainIx b := by intro _ _; rfl) : EV X B ρ O (.Subscript e b pos) (E v.1) := ev_ixL he hb (Vs.vw vsI) rfl hs
theorem ev_f2 (he : EV X B ρ O e (dF2 E F v)) (hb : EV X B ρ O b (.int 1)) (hs : PlainIx b := by intro _ _; rfl) : EV X B ρ O (.Subscript e b pos) (F v.2) := ev_ixL he hb (Vs.vw vsI) rfl hs
end
end DL

set_option Elab.async false
set_option linter.all false
set_option maxRecDepth 100000
set_option maxHeartbeats 4000000
namespace DL
open PySem PySem.Spec PyProof.Rows L2 TL
structure Ads where
  (CBadFormula CBadKey CBadPlan CBadRoom CBest CClash CFormula CKeep CKeys CNoOrder CNoRanking CNoRow CNoStep CPlan CRank CReader CTooHeavy CTooLong CTooManySteps CTwoSided aOPERANDS f_Formula___init__ f_Formula_holds f_Formula_read f_Reader___init__ f_Reader_one_pass f_Reader_resize f_Reader_room f_Reader_room_setter f_Reader_room_setter_new f_Reader_scan f_Reader_scan_N p_Formula_read p_Reader_room p_Reader_room_w : Addr)
structure FormV where
  words : List Str
  code : List (Str × Int × Int)
deriving Inhabited
def fFForm : List Str := ["words", "code"]
abbrev fVForm (v : FormV) : List D := [dU D.str v.words, dL (dP3 D.str D.int D.int) v.code]
abbrev eForm (ad : Ads) (v : FormV) : D := .obj ad.CFormula fFForm (fVForm v)
structure KeysV where
  names : List Str
deriving Inhabited
def fFKeys : List Str := ["names"]
abbrev fVKeys (v : KeysV) : List D := [dU D.str v.names]
abbrev eKeys (ad : Ads) (v : KeysV) : D := .obj ad.CKeys fFKeys (fVKeys v)
structure StpV where
  formula : FormV
deriving Inhabited
def fFStp : List Str := ["formula"]
abbrev fVStp (ad : Ads) (v : StpV) : List D := [eForm ad v.formula]
abbrev eRank (ad : Ads) (v : StpV) : D := .obj ad.CRank fFStp (fVStp ad v)
abbrev eKeep (ad : Ads) (v : StpV) : D := .obj ad.CKeep fFStp (fVStp ad v)
abbrev eBest (ad : Ads) (v : StpV) : D := .obj ad.CBest fFStp (fVStp ad v)
inductive StepV where
  | keep (s : StpV) | best (s : StpV) | rank (s : StpV)
deriving Inhabited
@[reducible] def eStep (ad : Ads) : StepV → D
  | .keep s => eKeep ad s
  | .best s => eBest ad s
  | .rank s => eRank ad s
def StepV.formula : StepV → FormV
  | .keep s => s.formula
  | .best s => s.formula
  | .rank s => s.formula
@[reducible] def StepV.isBest : StepV → Bool
  | .keep _ => false
  | .best _ => true
  | .rank _ => true
structure PlanV where
  steps : List StepV
deriving Inhabited
def fFPlan : List Str := ["steps"]
abbrev fVPlan (ad : Ads) (v : PlanV) : List D := [dL (eStep ad) v.steps]
abbrev ePlan (ad : Ads) (v : PlanV) : D := .obj ad.CPlan fFPlan (fVPlan ad v)
def stepsL : List (Str × Int) := [("keep", 0), ("best", 1), ("rank", 2)]
def stepsT (z : Str) : Option Int := lookS stepsL z
def ceT (ad : Ads) : ErrTab := fun i => match i with | 0 => (ad.CTooLong, "many") | 1 => (ad.CBadFormula, "place") | 2 => (ad.CBadKey, "name") | 3 => (ad.CTooManySteps, "many") | 4 => (ad.CTooHeavy, "weight") | 5 => (ad.CTwoSided, "place") | 6 => (ad.CBadPlan, "at") | 7 => (ad.CNoStep, "at") | 8 => (ad.CBadRoom, "given") | 9 => (ad.CNoRow, "name") | 10 => (ad.CClash, "name") | 11 => (ad.CNoOrder, "rows") | 12 => (ad.CNoRanking, "rows") | _ => (0, Str.empty)
abbrev keyNames : List Str := [Str.ofString "a", Str.ofString "b", Str.ofString "c", Str.ofString "ab", Str.ofString "ac", Str.ofString "bc", Str.ofString "abc"]
def opsT (z : Str) : Option Int := lookS opsL z
inductive ChartV where
  | keep (k : List Row) | best (k : List (Row × Row))
deriving Inhabited
@[reducible] def eChart : ChartV → D
  | .keep k => dK kRow k
  | .best k => dK kRR k
inductive PartV where
  | plan (p : PlanV) | keys (k : KeysV)
deriving Inhabited
@[reducible] def ePart (ad : Ads) : PartV → D
  | .plan p => ePlan ad p
  | .keys k => eKeys ad k
def Cmp.mapC {α β : Type} (f : α → β) (m : Cmp α) : Cmp β := ⟨m.ok, f m.val⟩
structure Reader0V where
  formula : FormV
  passes : Int
deriving Inhabited
def fFReader0 : List Str := ["formula", "passes"]
abbrev fVReader0 (ad : Ads) (v : Reader0V) : List D := [eForm ad v.formula, .int v.passes]
structure ReaderV where
  formula : FormV
  passes : Int
  space : Int
deriving Inhabited
def fFReader : List Str := ["formula", "passes", "space"]
abbrev fVReader (ad : Ads) (v : ReaderV) : List D := [eForm ad v.formula, .int v.passes, .int v.space]
abbrev eReader (ad : Ads) (v : ReaderV) : D := .obj ad.CReader fFReader (fVReader ad v)
def m_law_pool (v_script : List Int) (v_k : Int) (v_many : Int) : Cmp (List Int) :=
  .bnd ((0 : Int) : Int) fun v_cell => .bind (if (decide (v_k < (v_script.length : Int))) = true then (.req ((0 ≤ v_k ∧ v_k < (v_script.length : Int))) (.bnd ((ixL v_script v_k) : Int) fun v_cell => .ret v_cell)) else (.ret v_cell) : Cmp Int) (fun (v_cell : Int) => .bnd ((decide (v_cell ≥ (((10 : Int) : Int) ^ ((18 : Int) : Int).toNat))) : Bool) fun v_great => .bnd ([] : List Int) fun v_pool_here => .req ((-(2 ^ 62) ≤ v_many ∧ v_many < 2 ^ 62)) (.bind (forN (fun (v_j : Int) ((v_cell, v_pool_here) : Int × (List Int)) => if (v_great && (decide (v_cell > (0 : Int)))) = true then (.req ((v_pool_here.length < sizeLine)) (.bnd (v_pool_here ++ [(v_cell % (1000 : Int))]) fun v_pool_here => .bnd ((v_cell / (1000 : Int)) : Int) fun v_cell => .ret (v_cell, v_pool_here))) else (.bnd ((v_j + ((11 : Int) * v_k)) : Int) fun v_i => .bnd (((((v_cell * (37 : Int)) + (v_i * (71 : Int))) + (5 : Int)) % (509 : Int)) : Int) fun v_first => .req ((CMul v_first v_first) ∧ (v_pool_here.length < sizeLine)) (.bnd (v_pool_here ++ [((((v_first * v_first) + v_cell) + (v_i * (13 : Int))) % (499 : Int))]) fun v_pool_here => .ret (v_cell, v_pool_here)))) (rangeL 0 v_many) (v_cell, v_pool_here)) (fun ((v_cell, v_pool_here) : Int × (List Int)) => .ret v_pool_here)))
def m_meets (v_sign : Str) (v_one : Int) (v_two : Int) : Cmp Bool :=
  if (decide (v_sign = (Str.ofString "<"))) = true then (.ret (decide (v_one < v_two))) else (if (decide (v_sign = (Str.ofString ">"))) = true then (.ret (decide (v_one > v_two))) else (.ret (decide (v_one = v_two))))
def m_compared (v_word : Str) (v_constant : Int) (v_one : Int) (v_two : Int) : Cmp (Bool × Bool) :=
  .req ((v_word.length ≤ sizeLine)) (if (decide ((cutS v_word none (some (3 : Int))) = (Str.ofString "row"))) = true then (.req ((0 ≤ (3 : Int) ∧ (3 : Int) < (v_word.length : Int)) ∧ ((m_meets (cS (ixS v_word (3 : Int))) v_one v_constant).ok) ∧ ((m_meets (cS (ixS v_word (3 : Int))) v_two v_constant).ok)) (.ret ((m_meets (cS (ixS v_word (3 : Int))) v_one v_constant).val, (m_meets (cS (ixS v_word (3 : Int))) v_two v_constant).val))) else (.req (((m_meets v_word v_one v_two).ok) ∧ ((m_meets v_word v_two v_one).ok)) (.ret ((m_meets v_word v_one v_two).val, (m_meets v_word v_two v_one).val))))
def m_changed (v_word : Str) (v_pair : Bool × Bool) : Cmp (Bool × Bool) :=
  if (decide (v_word = (Str.ofString "not"))) = true then (.ret ((!v_pair.1), (!v_pair.2))) else (.ret (v_pair.2, v_pair.1))
def m_joined (v_word : Str) (v_first : Bool × Bool) (v_second : Bool × Bool) : Cmp (Bool × Bool) :=
  if (decide (v_word = (Str.ofString "and"))) = true then (.ret ((v_first.1 && v_second.1), (v_first.2 && v_second.2))) else (if (decide (v_word = (Str.ofString "or"))) = true then (.ret ((v_first.1 || v_second.1), (v_first.2 || v_second.2))) else (if (decide (v_word = (Str.ofString "else"))) = true then (.ret ((v_first.1 || ((!v_first.2) && v_second.1)), (v_first.2 || ((!v_first.1) && v_second.2)))) else (.bnd (((v_first.1 || v_second.1) && ((!v_first.2) && (!v_second.2))) : Bool) fun v_ahead => .bnd (((v_first.2 || v_second.2) && ((!v_first.1) && (!v_second.1))) : Bool) fun v_behind => .ret (v_ahead, v_behind))))
def m_constant_of (v_text : Str) : Cmp (Option Int) :=
  .req ((0 ≤ (0 : Int) ∧ (0 : Int) < (v_text.length : Int)) ∧ (v_text.length ≤ sizeLine) ∧ (∀ (hb3 : (decide ((cS (ixS v_text (0 : Int))) = (Str.ofString "-"))) = true), v_text.length ≤ sizeLine)) (.bnd ((if (decide ((cS (ixS v_text (0 : Int))) = (Str.ofString "-"))) = true then (cutS v_text (some (1 : Int)) none) else v_text) : Str) fun v_digits => .req ((v_digits.length ≤ sizeLine)) (if (!(decide ((1 : Int) ≤ (v_digits.length : Int)) && decide ((v_digits.length : Int) ≤ (18 : Int)))) = true then (.ret none) else (.bindR (forC (L := Unit) (R := Option Int) (fun (v_char : Nat) (_ : Unit) => if (!decide (v_char ∈ charsL (Str.ofString "0123456789"))) = true then (.ret (.rt none)) else (.ret (.nx ()))) (charsL v_digits) ()) (fun (_ : Unit) => .req ((0 ≤ (0 : Int) ∧ (0 : Int) < (v_digits.length : Int))) (if ((decide ((cS (ixS v_digits (0 : Int))) = (Str.ofString "0"))) && (!decide (v_text = (Str.ofString "0")))) = true then (.ret none) else (.req ((IntOk v_text)) (.ret (some (intD v_text)))))))))
def m_decoded (v_word : Str) : Cmp (Option (Str × Int × Int)) :=
  if (opsT v_word).isSome = true then (.ret (some (v_word, (-(1 : Int)), (0 : Int)))) else (.req ((v_word.length ≤ sizeLine) ∧ (∀ (hb3 : (decide ((v_word.length : Int) = (2 : Int))) = true), 0 ≤ (0 : Int) ∧ (0 : Int) < (v_word.length : Int)) ∧ (∀ (hb3 : (decide ((v_word.length : Int) = (2 : Int))) = true), v_word.length ≤ sizeLine) ∧ (∀ (hb3 : (decide ((v_word.length : Int) = (2 : Int))) = true), ∀ (hb6 : (decide ((ixS v_word (0 : Int)) ∈ charsL (Str.ofString "<>="))) = true), 0 ≤ (1 : Int) ∧ (1 : Int) < (v_word.length : Int)) ∧ (∀ (hb3 : (decide ((v_word.length : Int) = (2 : Int))) = true), ∀ (hb6 : (decide ((ixS v_word (0 : Int)) ∈ charsL (Str.ofString "<>="))) = true), v_word.length ≤ sizeLine)) (if ((decide ((v_word.length : Int) = (2 : Int))) && ((decide ((ixS v_word (0 : Int)) ∈ charsL (Str.ofString "<>="))) && (decide ((ixS v_word (1 : Int)) ∈ charsL (Str.ofString "abc"))))) = true then (.req ((0 ≤ (0 : Int) ∧ (0 : Int) < (v_word.length : Int)) ∧ (0 ≤ (1 : Int) ∧ (1 : Int) < (v_word.length : Int))) (.ret (some ((cS (ixS v_word (0 : Int))), (Txt.find (Str.ofString "abc") (cS (ixS v_word (1 : Int)))), (0 : Int))))) else (.req ((∀ (hb12 : (decide ((v_word.length : Int) < (3 : Int))) = false), 0 ≤ (0 : Int) ∧ (0 : Int) < (v_word.length : Int)) ∧ (∀ (hb12 : (decide ((v_word.length : Int) < (3 : Int))) = false), ∀ (hb14 : (!decide ((ixS v_word (0 : Int)) ∈ charsL (Str.ofString "abc"))) = false), 0 ≤ (1 : Int) ∧ (1 : Int) < (v_word.length : Int))) (if ((decide ((v_word.length : Int) < (3 : Int))) || ((!decide ((ixS v_word (0 : Int)) ∈ charsL (Str.ofString "abc"))) || (!decide ((ixS v_word (1 : Int)) ∈ charsL (Str.ofString "<>="))))) = true then (.ret none) else (.req (((m_constant_of (cutS v_word (some (2 : Int)) none)).ok)) (.bnd ((m_constant_of (cutS v_word (some (2 : Int)) none)).val : Option Int) fun v_constant => if v_constant.isNone = true then (.ret none) else (.req ((0 ≤ (1 : Int) ∧ (1 : Int) < (v_word.length : Int)) ∧ (0 ≤ (0 : Int) ∧ (0 : Int) < (v_word.length : Int)) ∧ (v_constant.isSome = true)) (.ret (some (((Str.ofString "row") ++ (cS (ixS v_word (1 : Int)))), (Txt.find (Str.ofString "abc") (cS (ixS v_word (0 : Int)))), (v_constant.getD default)))))))))))
def m_Formula___init__ (v_words : List Str) : Cmp FormV :=
  if (decide ((v_words.length : Int) > (40 : Int))) = true then (⟨False, default⟩) else (.bnd ([] : List (Str × Int × Int)) fun v_code => .bnd ((1 : Int) : Int) fun v_missing => .bind (forN (fun ((v_at, v_word) : Int × Str) ((v_code, v_missing) : (List (Str × Int × Int)) × Int) => .req (((m_decoded v_word).ok)) (.bnd ((m_decoded v_word).val : Option (Str × Int × Int)) fun v_step => if ((decide (v_missing = (0 : Int))) || v_step.isNone) = true then (⟨False, default⟩) else (.bnd (((v_missing + ((opsT v_word).getD (0 : Int))) - (1 : Int)) : Int) fun v_missing => .req ((v_step.isSome = true) ∧ (v_code.length < sizeLine)) (.bnd (v_code ++ [(v_step.getD default)]) fun v_code => .ret (v_code, v_missing))))) (enumL v_words) (v_code, v_missing)) (fun ((v_code, v_missing) : (List (Str × Int × Int)) × Int) => if (decide (v_missing > (0 : Int))) = true then (⟨False, default⟩) else (.bnd (v_words : List Str) fun v_self_words => .bnd (v_code.reverse : List (Str × Int × Int)) fun v_self_code => .ret ⟨v_self_words, v_self_code⟩)))
def m_Formula_holds (v_self : FormV) (v_row : Row) (v_other : Row) : Cmp Bool :=
  .bnd ([] : List (Bool × Bool)) fun v_stack => .bind (forN (fun ((v_word, v_at, v_constant) : Str × Int × Int) (v_stack : (List (Bool × Bool))) => if (decide (v_at ≥ (0 : Int))) = true then (.req ((0 ≤ v_at ∧ v_at < 3) ∧ ((m_compared v_word v_constant (rowAt v_row v_at) (rowAt v_other v_at)).ok) ∧ (v_stack.length < sizeLine)) (.bnd (v_stack ++ [(m_compared v_word v_constant (rowAt v_row v_at) (rowAt v_other v_at)).val]) fun v_stack => .ret v_stack)) else (.req (((opsT v_word).isSome = true)) (if (decide (((opsT v_word).getD default) = (1 : Int))) = true then (.req ((0 < v_stack.length) ∧ ((m_changed v_word (lastL v_stack)).ok) ∧ (v_stack.length < sizeLine)) (.bnd (v_stack.dropLast ++ [(m_changed v_word (lastL v_stack)).val]) fun v_stack => .ret v_stack)) else (.req ((0 < v_stack.length)) (.bnd (lastL v_stack) fun (v_first : Bool × Bool) => .bnd v_stack.dropLast fun v_stack => .req ((0 < v_stack.length)) (.bnd (lastL v_stack) fun (v_second : Bool × Bool) => .bnd v_stack.dropLast fun v_stack => .req (((m_joined v_word v_first v_second).ok) ∧ (v_stack.length < sizeLine)) (.bnd (v_stack ++ [(m_joined v_word v_first v_second).val]) fun v_stack => .ret v_stack))))))) v_self.code v_stack) (fun (v_stack : (List (Bool × Bool))) => .req ((0 ≤ (0 : Int) ∧ (0 : Int) < (v_stack.length : Int))) (.ret ((ixL v_stack (0 : Int)).1)))
def m_Formula_read (v_text : Str) : Cmp FormV :=
  .req ((v_text.length + 2 ≤ sizeLine) ∧ ((m_Formula___init__ (Txt.split v_text (Str.ofString " "))).ok)) (.ret ((m_Formula___init__ (Txt.split v_text (Str.ofString " "))).val))
def m_Reader_room_setter_new (v_self : Reader0V) (v_value : Int) : Cmp (Unit × ReaderV) :=
  if (!(decide ((1 : Int) ≤ v_value) && decide (v_value ≤ (1000 : Int)))) = true then (⟨False, default⟩) else (.bnd (⟨v_self.formula, v_self.passes, v_value⟩ : ReaderV) fun v_self => .ret ((), v_self))
def m_Reader___init__ (v_formula : FormV) (v_room : Int) : Cmp ReaderV :=
  .bnd (v_formula : FormV) fun v_self_formula => .bnd ((0 : Int) : Int) fun v_self_passes => setM (m_Reader_room_setter_new (⟨v_self_formula, v_self_passes⟩ : Reader0V) v_room) (fun (_ : Unit) (v_self_w : ReaderV) => .ret v_self_w)
def m_Reader_room_setter (v_self : ReaderV) (v_value : Int) : Cmp (Unit × ReaderV) :=
  if (!(decide ((1 : Int) ≤ v_value) && decide (v_value ≤ (1000 : Int)))) = true then (⟨False, default⟩) else (.bnd ({ v_self with space := v_value } : ReaderV) fun v_self => .ret ((), v_self))
def m_Reader_resize (v_self : ReaderV) (v_room : Int) : Cmp (Unit × ReaderV) :=
  setM (m_Reader_room_setter v_self v_room) (fun (_ : Unit) (v_self : ReaderV) => .ret ((), v_self))
def m_Reader_room (v_self : ReaderV) : Cmp Int :=
  .ret v_self.space
def m_Reader_one_pass (v_self : ReaderV) (v_rows : List Row) : Cmp ((List Row) × (List Row)) :=
  .bnd ([] : List (Row × Bool)) fun v_window => .bnd ([] : List Row) fun v_overflow => .bind (forN (fun (v_row : Row) ((v_window, v_overflow) : (List (Row × Bool)) × (List Row)) => .req ((∀ x4, ∀ (hx5 : x4 ∈ v_window), (m_Formula_holds v_self.formula x4.1 v_row).ok) ∧ (v_window.length < sizeLine)) (if (!(((v_window.filter (fun _ => true)).map (fun (x4 : (Row × Bool)) => (m_Formula_holds v_self.formula x4.1 v_row).val)).any id)) = true then (.req ((∀ x9, ∀ (hx10 : x9 ∈ v_window), (m_Formula_holds v_self.formula v_row x9.1).ok)) (.bnd ((v_window.filter (fun (x9 : (Row × Bool)) => (!((m_Formula_holds v_self.formula v_row x9.1).val)))).map (fun (x9 : (Row × Bool)) => (x9.1, x9.2))) fun (v_window : List (Row × Bool)) => if (decide ((v_window.length : Int) < v_self.space)) = true then (.req ((v_window.length < sizeLine)) (.bnd (v_window ++ [(v_row, (!(!v_overflow.isEmpty)))]) fun v_window => .ret (v_window, v_overflow))) else (.req ((v_overflow.length < sizeLine)) (.bnd (v_overflow ++ [v_row]) fun v_overflow => .ret (v_window, v_overflow))))) else (.ret (v_window, v_overflow)))) v_rows (v_window, v_overflow)) (fun ((v_window, v_overflow) : (List (Row × Bool)) × (List Row)) => .req ((v_window.length < sizeLine)) (.bnd ((v_window.filter (fun (x17 : (Row × Bool)) => x17.2)).map (fun (x17 : (Row × Bool)) => x17.1)) fun (v_settled : List Row) => .req ((((v_window.filter (fun (x24 : (Row × Bool)) => (!x24.2))).map (fun (x24 : (Row × Bool)) => x24.1)).length + v_overflow.length ≤ sizeLine)) (.ret (v_settled, (((v_window.filter (fun (x24 : (Row × Bool)) => (!x24.2))).map (fun (x24 : (Row × Bool)) => x24.1)) ++ v_overflow)))))
def m_Reader_scan (v_self : ReaderV) (v_rows : List Row) : Cmp ((List Row) × ReaderV) :=
  .bnd (v_rows : List Row) fun v_waiting => .bnd ([] : List Row) fun v_result => .bnd ((0 : Int) : Int) fun v_passes => .bind (whileN (fun ((v_waiting, v_result, v_passes) : (List Row) × (List Row) × Int) => .ret (!v_waiting.isEmpty)) (fun ((v_waiting, v_result, v_passes) : (List Row) × (List Row) × Int) => .req (((m_Reader_one_pass v_self v_waiting).ok)) (.bnd ((m_Reader_one_pass v_self v_waiting).val) fun ((v_settled, v_waiting) : (List Row) × (List Row)) => .req ((v_result.length + v_settled.length ≤ sizeLine)) (.bnd (v_result ++ v_settled) fun v_result => .bnd (v_passes + (1 : Int)) fun (v_passes : Int) => .ret (v_waiting, v_result, v_passes)))) (v_rows.length + 1) (v_waiting, v_result, v_passes)) (fun ((v_waiting, v_result, v_passes) : (List Row) × (List Row) × Int) => .bnd ({ v_self with passes := v_passes } : ReaderV) fun v_self => .ret (v_result, v_self))
def m_Reader_scan_N (v_self : ReaderV) (v_rows : List Row) : Cmp ((List Row) × ReaderV) :=
  .bnd (v_rows : List Row) fun v_waiting => .bnd ([] : List Row) fun v_result => .bnd ((0 : Int) : Int) fun v_passes => .bind (whileN (fun ((v_waiting, v_result, v_passes) : (List Row) × (List Row) × Int) => .ret (!v_waiting.isEmpty)) (fun ((v_waiting, v_result, v_passes) : (List Row) × (List Row) × Int) => .req (((m_Reader_one_pass v_self v_waiting).ok)) (.bnd ((m_Reader_one_pass v_self v_waiting).val) fun ((v_settled, v_waiting) : (List Row) × (List Row)) => .req ((v_result.length + v_settled.length ≤ sizeLine)) (.bnd (v_result ++ v_settled) fun v_result => .bnd (v_passes + (1 : Int)) fun (v_passes : Int) => .ret (v_waiting, v_result, v_passes)))) (v_rows.length + 1) (v_waiting, v_result, v_passes)) (fun ((v_waiting, v_result, v_passes) : (List Row) × (List Row) × Int) => .bnd ({ v_self with passes := v_passes } : ReaderV) fun v_self => .ret (v_result, v_self))
def b_law_text (rec_ : Tr → Cmp Str) (v_tree_here : Tr) : Cmp Str :=
  if v_tree_here.isLeaf = true then (.req ((v_tree_here.isLeaf = true)) (.ret v_tree_here.word)) else (.req ((v_tree_here.isLeaf = false) ∧ (∀ x4, ∀ (hx5 : x4 ∈ v_tree_here.kids), (rec_ x4).ok) ∧ (v_tree_here.kids.length < sizeLine) ∧ (∀ x8, ∀ (hx9 : x8 ∈ v_tree_here.kids), (rec_ x8).ok) ∧ ([v_tree_here.head].length + ((v_tree_here.kids.filter (fun _ => true)).map (fun (x8 : Tr) => (rec_ x8).val)).length ≤ sizeLine) ∧ ((([v_tree_here.head] ++ ((v_tree_here.kids.filter (fun _ => true)).map (fun (x8 : Tr) => (rec_ x8).val))).map (·.length)).sum + ([v_tree_here.head] ++ ((v_tree_here.kids.filter (fun _ => true)).map (fun (x8 : Tr) => (rec_ x8).val))).length * (Str.ofString " ").length ≤ 16777216)) (.ret (Txt.join (Str.ofString " ") ([v_tree_here.head] ++ ((v_tree_here.kids.filter (fun _ => true)).map (fun (x8 : Tr) => (rec_ x8).val))))))
def m_law_text : Nat → Tr → Cmp Str
  | 0, _ => ⟨False, default⟩
  | n + 1, v_tree_here => b_law_text (m_law_text n) v_tree_here
def m_law_atom (v_word : Str) (v_row : Row) (v_other : Row) : Cmp Bool :=
  .req ((0 ≤ (0 : Int) ∧ (0 : Int) < (v_word.length : Int)) ∧ (v_word.length ≤ sizeLine)) (.bind (if (decide ((ixS v_word (0 : Int)) ∈ charsL (Str.ofString "<>="))) = true then (.req ((0 ≤ (1 : Int) ∧ (1 : Int) < (v_word.length : Int)) ∧ (0 ≤ (Txt.find (Str.ofString "abc") (cS (ixS v_word (1 : Int)))) ∧ (Txt.find (Str.ofString "abc") (cS (ixS v_word (1 : Int)))) < 3)) (.bnd ((rowAt v_row (Txt.find (Str.ofString "abc") (cS (ixS v_word (1 : Int))))) : Int) fun v_one => .bnd ((rowAt v_other (Txt.find (Str.ofString "abc") (cS (ixS v_word (1 : Int))))) : Int) fun v_two => .bnd ((ixS v_word (0 : Int)) : Nat) fun v_sign => .ret (v_one, v_two, v_sign))) else (.req ((0 ≤ (Txt.find (Str.ofString "abc") (cS (ixS v_word (0 : Int)))) ∧ (Txt.find (Str.ofString "abc") (cS (ixS v_word (0 : Int)))) < 3)) (.bnd ((rowAt v_row (Txt.find (Str.ofString "abc") (cS (ixS v_word (0 : Int))))) : Int) fun v_one => .req ((IntOk (cutS v_word (some (2 : Int)) none))) (.bnd ((intD (cutS v_word (some (2 : Int)) none)) : Int) fun v_two => .req ((0 ≤ (1 : Int) ∧ (1 : Int) < (v_word.length : Int))) (.bnd ((ixS v_word (1 : Int)) : Nat) fun v_sign => .ret (v_one, v_two, v_sign))))) : Cmp (Int × Int × Nat)) (fun ((v_one, v_two, v_sign) : Int × Int × Nat) => if (decide ((cS v_sign) = (Str.ofString "<"))) = true then (.ret (decide (v_one < v_two))) else (if (decide ((cS v_sign) = (Str.ofString ">"))) = true then (.ret (decide (v_one > v_two))) else (.ret (decide (v_one = v_two))))))
def b_law_holds (rec_ : Tr → Row → Row → Cmp Bool) (v_tree_here : Tr) (v_row : Row) (v_other : Row) : Cmp Bool :=
  if v_tree_here.isLeaf = true then (.req ((v_tree_here.isLeaf = true) ∧ ((m_law_atom v_tree_here.word v_row v_other).ok)) (.ret ((m_law_atom v_tree_here.word v_row v_other).val))) else (.req ((v_tree_here.isLeaf = false)) (if (decide (v_tree_here.head = (Str.ofString "not"))) = true then (.req (((rec_ v_tree_here.c1 v_row v_other).ok)) (.ret (!((rec_ v_tree_here.c1 v_row v_other).val)))) else (if (decide (v_tree_here.head = (Str.ofString "flip"))) = true then (.req (((rec_ v_tree_here.c1 v_other v_row).ok)) (.ret ((rec_ v_tree_here.c1 v_other v_row).val))) else (.req (((rec_ v_tree_here.c1 v_row v_other).ok)) (.bnd ((rec_ v_tree_here.c1 v_row v_other).val : Bool) fun v_one => .req ((v_tree_here.isBin = true) ∧ ((rec_ v_tree_here.c2 v_row v_other).ok)) (.bnd ((rec_ v_tree_here.c2 v_row v_other).val : Bool) fun v_two => if (decide (v_tree_here.head = (Str.ofString "and"))) = true then (.ret (v_one && v_two)) else (if (decide (v_tree_here.head = (Str.ofString "or"))) = true then (.ret (v_one || v_two)) else (.req (((rec_ v_tree_here.c1 v_other v_row).ok)) (.bnd ((rec_ v_tree_here.c1 v_other v_row).val : Bool) fun v_back => if (decide (v_tree_here.head = (Str.ofString "else"))) = true then (.ret (v_one || ((!v_back) && v_two))) else (.req ((∀ (hb21 : (v_one || v_two) = true), ∀ (hb22 : (!v_back) = true), (rec_ v_tree_here.c2 v_other v_row).ok)) (.ret ((v_one || v_two) && ((!v_back) && (!((rec_ v_tree_here.c2 v_other v_row).val)))))))))))))))
def m_law_holds : Nat → Tr → Row → Row → Cmp Bool
  | 0, _, _, _ => ⟨False, default⟩
  | n + 1, v_tree_here, v_row, v_other => b_law_holds (m_law_holds n) v_tree_here v_row v_other
def m_law_frame (v_pool_here : List Int) (v_shapes : Int) : Cmp (Str × (List (Str × Int)) × Int) :=
  .req ((0 ≤ (0 : Int) ∧ (0 : Int) < (v_pool_here.length : Int)) ∧ (0 < v_shapes)) (.bnd (((ixL v_pool_here (0 : Int)) % v_shapes) : Int) fun v_shape => .req ((0 ≤ v_shape ∧ v_shape < (9 : Int))) (.bnd ((ixL ([(2 : Int), (1 : Int), (2 : Int), (1 : Int), (3 : Int), (2 : Int), (2 : Int), (3 : Int), (1 : Int)] : List Int) v_shape) : Int) fun v_many => .bnd ((ixL ([(1 : Int), (1 : Int), (0 : Int), (2 : Int), (0 : Int), (2 : Int), (1 : Int), (1 : Int), (3 : Int)] : List Int) v_shape) : Int) fun v_count => .req ((0 ≤ (1 : Int) ∧ (1 : Int) < (v_pool_here.length : Int)) ∧ ((ixL ([(Str.ofString "abc"), (Str.ofString "acb"), (Str.ofString "bac"), (Str.ofString "bca"), (Str.ofString "cab"), (Str.ofString "cba")] : List Str) ((ixL v_pool_here (1 : Int)) % (6 : Int))).length ≤ sizeLine)) (.bnd ((cutS (ixL ([(Str.ofString "abc"), (Str.ofString "acb"), (Str.ofString "bac"), (Str.ofString "bca"), (Str.ofString "cab"), (Str.ofString "cba")] : List Str) ((ixL v_pool_here (1 : Int)) % (6 : Int))) none (some v_many)) : Str) fun v_letters => .req ((0 ≤ (2 : Int) ∧ (2 : Int) < (v_pool_here.length : Int))) (.bnd ((ixL ([(0 : Int), (0 : Int), (1000 : Int), (-(((10 : Int) : Int) ^ ((15 : Int) : Int).toNat))] : List Int) ((ixL v_pool_here (2 : Int)) % (4 : Int))) : Int) fun v_base => .bnd ((ixL ([(0 : Int), (0 : Int), (0 : Int), (20 : Int), (((10 : Int) : Int) ^ ((16 : Int) : Int).toNat)] : List Int) (((ixL v_pool_here (2 : Int)) / (4 : Int)) % (5 : Int))) : Int) fun v_far => .bnd ([] : List (Str × Int)) fun v_marks => .req ((-(2 ^ 62) ≤ v_count ∧ v_count < 2 ^ 62)) (.bind (forN (fun (v_k : Int) (v_marks : (List (Str × Int))) => .req ((0 ≤ ((4 : Int) + ((2 : Int) * v_k)) ∧ ((4 : Int) + ((2 : Int) * v_k)) < (v_pool_here.length : Int)) ∧ (CMul v_k v_far)) (.bnd ((((v_base + ((ixL v_pool_here ((4 : Int) + ((2 : Int) * v_k))) % (7 : Int))) - (3 : Int)) + (v_k * v_far)) : Int) fun v_constant => .req ((0 ≤ ((3 : Int) + ((2 : Int) * v_k)) ∧ ((3 : Int) + ((2 : Int) * v_k)) < (v_pool_here.length : Int)) ∧ (0 < v_many) ∧ (0 ≤ ((ixL v_pool_here ((3 : Int) + ((2 : Int) * v_k))) % v_many) ∧ ((ixL v_pool_here ((3 : Int) + ((2 : Int) * v_k))) % v_many) < (v_letters.length : Int)) ∧ (v_letters.length ≤ sizeLine) ∧ (v_marks.length < sizeLine)) (.bnd (v_marks ++ [((cS (ixS v_letters ((ixL v_pool_here ((3 : Int) + ((2 : Int) * v_k))) % v_many))), v_constant)]) fun v_marks => .ret v_marks))) (rangeL 0 v_count) v_marks) (fun (v_marks : (List (Str × Int))) => .ret (v_letters, v_marks, v_base)))))))
def m_law_ranking (v_one : Int) (v_two : Int) (v_letters : Str) (v_marks : List (Str × Int)) : Cmp Tr :=
  if ((decide ((v_marks.length : Int) > (0 : Int))) && (decide ((v_one % (4 : Int)) = (3 : Int)))) = true then (.req ((0 < (v_marks.length : Int)) ∧ (0 ≤ (v_two % (v_marks.length : Int)) ∧ (v_two % (v_marks.length : Int)) < (v_marks.length : Int))) (.bnd ((ixL v_marks (v_two % (v_marks.length : Int))) : Str × Int) fun v_mark => .req ((v_mark.1.length + (cS (ixS (Str.ofString "<>=") ((v_one / (4 : Int)) % (3 : Int)))).length ≤ sizeLine) ∧ (v_mark.2.natAbs.log2 < 1920) ∧ ((v_mark.1 ++ (cS (ixS (Str.ofString "<>=") ((v_one / (4 : Int)) % (3 : Int))))).length + (Str.ofString (toString v_mark.2)).length ≤ sizeLine)) (.bnd (((v_mark.1 ++ (cS (ixS (Str.ofString "<>=") ((v_one / (4 : Int)) % (3 : Int))))) ++ (Str.ofString (toString v_mark.2))) : Str) fun v_atom_here => .ret (Tr.bin (Str.ofString "and") (Tr.leaf v_atom_here) (Tr.un (Str.ofString "flip") (Tr.un (Str.ofString "not") (Tr.leaf v_atom_here))))))) else (.req ((v_letters.length ≤ sizeLine) ∧ (0 < (v_letters.length : Int)) ∧ (0 ≤ (v_two % (v_letters.length : Int)) ∧ (v_two % (v_letters.length : Int)) < (v_letters.length : Int))) (.ret (Tr.leaf ((cS (ixS (Str.ofString "<>") (v_one % (2 : Int)))) ++ (cS (ixS v_letters (v_two % (v_letters.length : Int))))))))
def m_law_order (v_pool_here : List Int) (v_at : Int) (v_letters : Str) (v_marks : List (Str × Int)) : Cmp Tr :=
  .req ((0 ≤ (v_at + (1 : Int)) ∧ (v_at + (1 : Int)) < (v_pool_here.length : Int)) ∧ (0 ≤ (v_at + (2 : Int)) ∧ (v_at + (2 : Int)) < (v_pool_here.length : Int)) ∧ ((m_law_ranking (ixL v_pool_here (v_at + (1 : Int))) (ixL v_pool_here (v_at + (2 : Int))) v_letters v_marks).ok)) (.bnd ((m_law_ranking (ixL v_pool_here (v_at + (1 : Int))) (ixL v_pool_here (v_at + (2 : Int))) v_letters v_marks).val : Tr) fun v_one => .req ((0 ≤ (v_at + (3 : Int)) ∧ (v_at + (3 : Int)) < (v_pool_here.length : Int)) ∧ (0 ≤ (v_at + (4 : Int)) ∧ (v_at + (4 : Int)) < (v_pool_here.length : Int)) ∧ ((m_law_ranking (ixL v_pool_here (v_at + (3 : Int))) (ixL v_pool_here (v_at + (4 : Int))) v_letters v_marks).ok)) (.bnd ((m_law_ranking (ixL v_pool_here (v_at + (3 : Int))) (ixL v_pool_here (v_at + (4 : Int))) v_letters v_marks).val : Tr) fun v_two => .req ((0 ≤ (v_at + (5 : Int)) ∧ (v_at + (5 : Int)) < (v_pool_here.length : Int)) ∧ (0 ≤ (v_at + (6 : Int)) ∧ (v_at + (6 : Int)) < (v_pool_here.length : Int)) ∧ ((m_law_ranking (ixL v_pool_here (v_at + (5 : Int))) (ixL v_pool_here (v_at + (6 : Int))) v_letters v_marks).ok)) (.bnd ((m_law_ranking (ixL v_pool_here (v_at + (5 : Int))) (ixL v_pool_here (v_at + (6 : Int))) v_letters v_marks).val : Tr) fun v_three => .req ((0 ≤ v_at ∧ v_at < (v_pool_here.length : Int))) (.bnd (((ixL v_pool_here v_at) % (8 : Int)) : Int) fun v_shape => if (decide (v_shape = (0 : Int))) = true then (.ret v_one) else (if (decide (v_shape = (1 : Int))) = true then (.ret (Tr.bin (Str.ofString "else") v_one v_two)) else (if (decide (v_shape = (2 : Int))) = true then (.ret (Tr.bin (Str.ofString "pareto") v_one v_two)) else (if (decide (v_shape = (3 : Int))) = true then (.ret (Tr.bin (Str.ofString "and") v_one v_two)) else (if (decide (v_shape = (4 : Int))) = true then (.ret (Tr.bin (Str.ofString "else") v_one (Tr.bin (Str.ofString "pareto") v_two v_three))) else (if (decide (v_shape = (5 : Int))) = true then (.ret (Tr.bin (Str.ofString "pareto") v_one (Tr.bin (Str.ofString "else") v_two v_three))) else (if (decide (v_shape = (6 : Int))) = true then (.ret (Tr.un (Str.ofString "flip") (Tr.bin (Str.ofString "pareto") v_one v_two))) else (.ret (Tr.bin (Str.ofString "and") (Tr.bin (Str.ofString "else") v_one v_two) v_three))))))))))))
def m_law_leaf (v_one : Int) (v_two : Int) (v_letters : Str) (v_marks : List (Str × Int)) : Cmp Str :=
  if ((decide ((v_marks.length : Int) > (0 : Int))) && (decide ((v_one % (3 : Int)) = (2 : Int)))) = true then (.req ((0 < (v_marks.length : Int)) ∧ (0 ≤ (v_two % (v_marks.length : Int)) ∧ (v_two % (v_marks.length : Int)) < (v_marks.length : Int))) (.bnd ((ixL v_marks (v_two % (v_marks.length : Int))) : Str × Int) fun v_mark => .req ((v_mark.1.length + (cS (ixS (Str.ofString "<>=") ((v_two / (8 : Int)) % (3 : Int)))).length ≤ sizeLine) ∧ (v_mark.2.natAbs.log2 < 1920) ∧ ((v_mark.1 ++ (cS (ixS (Str.ofString "<>=") ((v_two / (8 : Int)) % (3 : Int))))).length + (Str.ofString (toString v_mark.2)).length ≤ sizeLine)) (.ret ((v_mark.1 ++ (cS (ixS (Str.ofString "<>=") ((v_two / (8 : Int)) % (3 : Int))))) ++ (Str.ofString (toString v_mark.2)))))) else (.req ((v_letters.length ≤ sizeLine) ∧ (0 < (v_letters.length : Int)) ∧ (0 ≤ (v_two % (v_letters.length : Int)) ∧ (v_two % (v_letters.length : Int)) < (v_letters.length : Int))) (.ret ((cS (ixS (Str.ofString "<>=") ((v_one / (3 : Int)) % (3 : Int)))) ++ (cS (ixS v_letters (v_two % (v_letters.length : Int)))))))
def m_law_under (v_tree_here : Tr) (v_one : Int) : Cmp Tr :=
  if (decide ((v_one % (5 : Int)) = (3 : Int))) = true then (.ret (Tr.un (Str.ofString "not") v_tree_here)) else (if (decide ((v_one % (5 : Int)) = (4 : Int))) = true then (.ret (Tr.un (Str.ofString "flip") v_tree_here)) else (.ret v_tree_here))
def m_law_tree (v_pool_here : List Int) (v_at : Int) (v_letters : Str) (v_marks : List (Str × Int)) : Cmp Tr :=
  .bnd ([(Str.ofString "and"), (Str.ofString "or"), (Str.ofString "else"), (Str.ofString "pareto")] : List Str) fun v_words => .req ((0 ≤ v_at ∧ v_at < (v_pool_here.length : Int)) ∧ (0 ≤ (v_at + (1 : Int)) ∧ (v_at + (1 : Int)) < (v_pool_here.length : Int)) ∧ ((m_law_leaf (ixL v_pool_here v_at) (ixL v_pool_here (v_at + (1 : Int))) v_letters v_marks).ok)) (.bnd ((m_law_leaf (ixL v_pool_here v_at) (ixL v_pool_here (v_at + (1 : Int))) v_letters v_marks).val : Str) fun v_one => .req ((0 ≤ (v_at + (2 : Int)) ∧ (v_at + (2 : Int)) < (v_pool_here.length : Int)) ∧ ((m_law_under (Tr.leaf v_one) (ixL v_pool_here (v_at + (2 : Int)))).ok)) (.bnd ((m_law_under (Tr.leaf v_one) (ixL v_pool_here (v_at + (2 : Int)))).val : Tr) fun v_one => .req ((0 ≤ (v_at + (3 : Int)) ∧ (v_at + (3 : Int)) < (v_pool_here.length : Int)) ∧ (0 ≤ (v_at + (4 : Int)) ∧ (v_at + (4 : Int)) < (v_pool_here.length : Int)) ∧ ((m_law_leaf (ixL v_pool_here (v_at + (3 : Int))) (ixL v_pool_here (v_at + (4 : Int))) v_letters v_marks).ok)) (.bnd ((m_law_leaf (ixL v_pool_here (v_at + (3 : Int))) (ixL v_pool_here (v_at + (4 : Int))) v_letters v_marks).val : Str) fun v_two => .req ((0 ≤ (v_at + (5 : Int)) ∧ (v_at + (5 : Int)) < (v_pool_here.length : Int)) ∧ ((m_law_under (Tr.leaf v_two) (ixL v_pool_here (v_at + (5 : Int)))).ok)) (.bnd ((m_law_under (Tr.leaf v_two) (ixL v_pool_here (v_at + (5 : Int)))).val : Tr) fun v_two => .req ((0 ≤ (v_at + (6 : Int)) ∧ (v_at + (6 : Int)) < (v_pool_here.length : Int)) ∧ (0 ≤ (v_at + (7 : Int)) ∧ (v_at + (7 : Int)) < (v_pool_here.length : Int)) ∧ ((m_law_leaf (ixL v_pool_here (v_at + (6 : Int))) (ixL v_pool_here (v_at + (7 : Int))) v_letters v_marks).ok)) (.bnd ((m_law_leaf (ixL v_pool_here (v_at + (6 : Int))) (ixL v_pool_here (v_at + (7 : Int))) v_letters v_marks).val : Str) fun v_three => .req ((0 ≤ (v_at + (8 : Int)) ∧ (v_at + (8 : Int)) < (v_pool_here.length : Int)) ∧ ((m_law_under (Tr.leaf v_three) (ixL v_pool_here (v_at + (8 : Int)))).ok)) (.bnd ((m_law_under (Tr.leaf v_three) (ixL v_pool_here (v_at + (8 : Int)))).val : Tr) fun v_three => .req ((0 ≤ (v_at + (9 : Int)) ∧ (v_at + (9 : Int)) < (v_pool_here.length : Int)) ∧ (0 ≤ ((ixL v_pool_here (v_at + (9 : Int))) % (4 : Int)) ∧ ((ixL v_pool_here (v_at + (9 : Int))) % (4 : Int)) < (v_words.length : Int))) (.bnd ((ixL v_words ((ixL v_pool_here (v_at + (9 : Int))) % (4 : Int))) : Str) fun v_first => .req ((0 ≤ (v_at + (10 : Int)) ∧ (v_at + (10 : Int)) < (v_pool_here.length : Int)) ∧ (0 ≤ ((ixL v_pool_here (v_at + (10 : Int))) % (4 : Int)) ∧ ((ixL v_pool_here (v_at + (10 : Int))) % (4 : Int)) < (v_words.length : Int))) (.bnd ((ixL v_words ((ixL v_pool_here (v_at + (10 : Int))) % (4 : Int))) : Str) fun v_second => .req ((0 ≤ (v_at + (11 : Int)) ∧ (v_at + (11 : Int)) < (v_pool_here.length : Int))) (if (decide (((ixL v_pool_here (v_at + (11 : Int))) % (4 : Int)) = (0 : Int))) = true then (.ret v_one) else (if (decide (((ixL v_pool_here (v_at + (11 : Int))) % (4 : Int)) = (1 : Int))) = true then (.ret (Tr.bin v_first v_one v_two)) else (if (decide (((ixL v_pool_here (v_at + (11 : Int))) % (4 : Int)) = (2 : Int))) = true then (.req (((m_law_under (Tr.bin v_first v_one (Tr.bin v_second v_two v_three)) ((ixL v_pool_here (v_at + (11 : Int))) / (4 : Int))).ok)) (.ret ((m_law_under (Tr.bin v_first v_one (Tr.bin v_second v_two v_three)) ((ixL v_pool_here (v_at + (11 : Int))) / (4 : Int))).val))) else (.req (((m_law_under (Tr.bin v_first (Tr.bin v_second v_one v_two) v_three) ((ixL v_pool_here (v_at + (11 : Int))) / (4 : Int))).ok)) (.ret ((m_law_under (Tr.bin v_first (Tr.bin v_second v_one v_two) v_three) ((ixL v_pool_here (v_at + (11 : Int))) / (4 : Int))).val))))))))))))))
def m_law_any (v_pool_here : List Int) (v_at : Int) (v_letters : Str) (v_marks : List (Str × Int)) : Cmp Tr :=
  .req ((0 ≤ v_at ∧ v_at < (v_pool_here.length : Int))) (if (decide (((ixL v_pool_here v_at) % (3 : Int)) = (0 : Int))) = true then (.req (((m_law_order v_pool_here (v_at + (1 : Int)) v_letters v_marks).ok)) (.ret ((m_law_order v_pool_here (v_at + (1 : Int)) v_letters v_marks).val))) else (.req (((m_law_tree v_pool_here (v_at + (1 : Int)) v_letters v_marks).ok)) (.ret ((m_law_tree v_pool_here (v_at + (1 : Int)) v_letters v_marks).val))))
def m_law_value (v_draw : Int) (v_base : Int) : Cmp Int :=
  if (decide ((v_draw % (11 : Int)) = (9 : Int))) = true then (.ret (-(((10 : Int) : Int) ^ ((30 : Int) : Int).toNat))) else (if (decide ((v_draw % (11 : Int)) = (10 : Int))) = true then (.ret (((10 : Int) : Int) ^ ((30 : Int) : Int).toNat)) else (.ret ((v_base + (v_draw % (11 : Int))) - (4 : Int))))
def m_law_rows (v_script : List Int) (v_start : Int) (v_many : Int) (v_base : Int) : Cmp (List Row) :=
  .bnd ([] : List Row) fun v_rows_here => .req ((-(2 ^ 62) ≤ v_many ∧ v_many < 2 ^ 62)) (.bind (forN (fun (v_k : Int) (v_rows_here : (List Row)) => .req (((m_law_pool v_script (v_start + v_k) (4 : Int)).ok)) (.bnd ((m_law_pool v_script (v_start + v_k) (4 : Int)).val : List Int) fun v_pool_here => .req ((∀ (hb4 : (decide (v_k > (0 : Int))) = true), 0 ≤ (3 : Int) ∧ (3 : Int) < (v_pool_here.length : Int))) (if ((decide (v_k > (0 : Int))) && (decide (((ixL v_pool_here (3 : Int)) % (5 : Int)) = (0 : Int)))) = true then (.req ((0 ≤ (0 : Int) ∧ (0 : Int) < (v_pool_here.length : Int)) ∧ (0 < v_k) ∧ (0 ≤ ((ixL v_pool_here (0 : Int)) % v_k) ∧ ((ixL v_pool_here (0 : Int)) % v_k) < (v_rows_here.length : Int)) ∧ (v_rows_here.length < sizeLine)) (.bnd (v_rows_here ++ [(ixL v_rows_here ((ixL v_pool_here (0 : Int)) % v_k))]) fun v_rows_here => .ret v_rows_here)) else (.req ((0 ≤ (0 : Int) ∧ (0 : Int) < (v_pool_here.length : Int)) ∧ ((m_law_value (ixL v_pool_here (0 : Int)) v_base).ok) ∧ (0 ≤ (1 : Int) ∧ (1 : Int) < (v_pool_here.length : Int)) ∧ ((m_law_value (ixL v_pool_here (1 : Int)) v_base).ok) ∧ (0 ≤ (2 : Int) ∧ (2 : Int) < (v_pool_here.length : Int)) ∧ ((m_law_value (ixL v_pool_here (2 : Int)) v_base).ok) ∧ (v_rows_here.length < sizeLine)) (.bnd (v_rows_here ++ [((m_law_value (ixL v_pool_here (0 : Int)) v_base).val, (m_law_value (ixL v_pool_here (1 : Int)) v_base).val, (m_law_value (ixL v_pool_here (2 : Int)) v_base).val)]) fun v_rows_here => .ret v_rows_here))))) (rangeL 0 v_many) v_rows_here) (fun (v_rows_here : (List Row)) => .ret v_rows_here))
def m_law_is_row (v_row : Row) : Cmp Bool :=
  if ((!true) || (!decide ((3 : Int) = (3 : Int)))) = true then (.ret false) else (.bindR (forC (L := Unit) (R := Bool) (fun (v_value_here : Int) (_ : Unit) => if ((!true) || false) = true then (.ret (.rt false)) else (.ret (.nx ()))) [v_row.1, v_row.2.1, v_row.2.2] ()) (fun (_ : Unit) => .ret true))
def m_law_is_rows (v_answer : List Row) (v_rows_here : List Row) : Cmp Bool :=
  if ((!true) || (!decide ((v_answer.length : Int) = (v_rows_here.length : Int)))) = true then (.ret false) else (.req ((-(2 ^ 62) ≤ (v_rows_here.length : Int) ∧ (v_rows_here.length : Int) < 2 ^ 62)) (.bindR (forC (L := Unit) (R := Bool) (fun (v_k : Int) (_ : Unit) => .req ((0 ≤ v_k ∧ v_k < (v_answer.length : Int)) ∧ ((m_law_is_row (ixL v_answer v_k)).ok) ∧ (∀ (hb6 : (!((m_law_is_row (ixL v_answer v_k)).val)) = false), 0 ≤ v_k ∧ v_k < (v_answer.length : Int)) ∧ (∀ (hb6 : (!((m_law_is_row (ixL v_answer v_k)).val)) = false), 0 ≤ v_k ∧ v_k < (v_rows_here.length : Int))) (if ((!((m_law_is_row (ixL v_answer v_k)).val)) || (!decide (((ixL v_answer v_k) : Row) = (ixL v_rows_here v_k)))) = true then (.ret (.rt false)) else (.ret (.nx ())))) (rangeL 0 (v_rows_here.length : Int)) ()) (fun (_ : Unit) => .ret true)))
def m_law_pass (v_tree_here : Tr) (v_rows_here : List Row) (v_room_here : Int) : Cmp (List (List Row)) :=
  .bnd ([] : List Row) fun v_window => .bnd ([] : List Bool) fun v_early => .bnd ([] : List Row) fun v_aside => .bind (forN (fun (v_row : Row) ((v_window, v_early, v_aside) : (List Row) × (List Bool) × (List Row)) => .req ((∀ x6, ∀ (hx7 : x6 ∈ v_window), (m_law_holds 9 v_tree_here x6 v_row).ok) ∧ (v_window.length < sizeLine)) (if (decide ((((v_window.filter (fun (x6 : Row) => (m_law_holds 9 v_tree_here x6 v_row).val)).map (fun (x6 : Row) => x6)).length : Int) = (0 : Int))) = true then (.req ((-(2 ^ 62) ≤ (v_window.length : Int) ∧ (v_window.length : Int) < 2 ^ 62) ∧ (∀ x13, ∀ (hx14 : x13 ∈ (rangeL 0 (v_window.length : Int))), 0 ≤ x13 ∧ x13 < (v_window.length : Int)) ∧ (∀ x13, ∀ (hx14 : x13 ∈ (rangeL 0 (v_window.length : Int))), (m_law_holds 9 v_tree_here v_row (ixL v_window x13)).ok) ∧ ((rangeL 0 (v_window.length : Int)).length < sizeLine)) (.bnd (((rangeL 0 (v_window.length : Int)).filter (fun (x13 : Int) => (!((m_law_holds 9 v_tree_here v_row (ixL v_window x13)).val)))).map (fun (x13 : Int) => x13)) fun (v_left : List Int) => .req ((∀ x19, ∀ (hx20 : x19 ∈ v_left), 0 ≤ x19 ∧ x19 < (v_window.length : Int)) ∧ (v_left.length < sizeLine)) (.bnd (((v_left.filter (fun _ => true)).map (fun (x19 : Int) => (ixL v_window x19))) : List Row) fun v_window => .req ((∀ x24, ∀ (hx25 : x24 ∈ v_left), 0 ≤ x24 ∧ x24 < (v_early.length : Int))) (.bnd (((v_left.filter (fun _ => true)).map (fun (x24 : Int) => (ixL v_early x24))) : List Bool) fun v_early => if (decide ((v_window.length : Int) < v_room_here)) = true then (.req ((v_window.length < sizeLine)) (.bnd (v_window ++ [v_row]) fun v_window => .req ((v_early.length < sizeLine)) (.bnd (v_early ++ [(decide ((v_aside.length : Int) = (0 : Int)))]) fun v_early => .ret (v_window, v_early, v_aside)))) else (.req ((v_aside.length < sizeLine)) (.bnd (v_aside ++ [v_row]) fun v_aside => .ret (v_window, v_early, v_aside))))))) else (.ret (v_window, v_early, v_aside)))) v_rows_here (v_window, v_early, v_aside)) (fun ((v_window, v_early, v_aside) : (List Row) × (List Bool) × (List Row)) => .req ((-(2 ^ 62) ≤ (v_window.length : Int) ∧ (v_window.length : Int) < 2 ^ 62) ∧ (∀ x33, ∀ (hx34 : x33 ∈ (rangeL 0 (v_window.length : Int))), 0 ≤ x33 ∧ x33 < (v_early.length : Int)) ∧ (∀ x33, ∀ (hx34 : x33 ∈ (rangeL 0 (v_window.length : Int))), ∀ (hp36 : (ixL v_early x33) = true), 0 ≤ x33 ∧ x33 < (v_window.length : Int)) ∧ ((rangeL 0 (v_window.length : Int)).length < sizeLine)) (.bnd (((rangeL 0 (v_window.length : Int)).filter (fun (x33 : Int) => (ixL v_early x33))).map (fun (x33 : Int) => (ixL v_window x33))) fun (v_settled : List Row) => .req ((∀ x39, ∀ (hx40 : x39 ∈ (rangeL 0 (v_window.length : Int))), 0 ≤ x39 ∧ x39 < (v_early.length : Int)) ∧ (∀ x39, ∀ (hx40 : x39 ∈ (rangeL 0 (v_window.length : Int))), ∀ (hp42 : (!(ixL v_early x39)) = true), 0 ≤ x39 ∧ x39 < (v_window.length : Int)) ∧ (∀ x44, ∀ (hx45 : x44 ∈ (rangeL 0 (v_window.length : Int))), 0 ≤ x44 ∧ x44 < (v_early.length : Int)) ∧ (∀ x44, ∀ (hx45 : x44 ∈ (rangeL 0 (v_window.length : Int))), ∀ (hp47 : (!(ixL v_early x44)) = true), 0 ≤ x44 ∧ x44 < (v_window.length : Int)) ∧ ((((rangeL 0 (v_window.length : Int)).filter (fun (x44 : Int) => (!(ixL v_early x44)))).map (fun (x44 : Int) => (ixL v_window x44))).length + v_aside.length ≤ sizeLine)) (.ret [v_settled, ((((rangeL 0 (v_window.length : Int)).filter (fun (x44 : Int) => (!(ixL v_early x44)))).map (fun (x44 : Int) => (ixL v_window x44))) ++ v_aside)])))
def m_law_scanned (v_tree_here : Tr) (v_rows_here : List Row) (v_room_here : Int) : Cmp ((List Row) × Int) :=
  .bnd ([] : List Row) fun v_result => .bnd ((0 : Int) : Int) fun v_passes => .bnd (v_rows_here : List Row) fun v_waiting => .req ((-(2 ^ 62) ≤ (v_rows_here.length : Int) ∧ (v_rows_here.length : Int) < 2 ^ 62)) (.bind (forN (fun (v_k : Int) ((v_result, v_passes, v_waiting) : (List Row) × Int × (List Row)) => if (decide ((v_waiting.length : Int) > (0 : Int))) = true then (.req (((m_law_pass v_tree_here v_waiting v_room_here).ok)) (.bnd ((m_law_pass v_tree_here v_waiting v_room_here).val : List (List Row)) fun v_both => .req ((0 ≤ (0 : Int) ∧ (0 : Int) < (v_both.length : Int)) ∧ (v_result.length + (ixL v_both (0 : Int)).length ≤ sizeLine)) (.bnd ((v_result ++ (ixL v_both (0 : Int))) : List Row) fun v_result => .req ((0 ≤ (1 : Int) ∧ (1 : Int) < (v_both.length : Int))) (.bnd ((ixL v_both (1 : Int)) : List Row) fun v_waiting => .bnd ((v_passes + (1 : Int)) : Int) fun v_passes => .ret (v_result, v_passes, v_waiting))))) else (.ret (v_result, v_passes, v_waiting))) (rangeL 0 (v_rows_here.length : Int)) (v_result, v_passes, v_waiting)) (fun ((v_result, v_passes, v_waiting) : (List Row) × Int × (List Row)) => .ret (v_result, v_passes)))
def m_law_fine (v_reader : ReaderV) (v_tree_here : Tr) (v_rows_here : List Row) (v_room_here : Int) : Cmp (Bool × ReaderV) :=
  .req (((m_law_scanned v_tree_here v_rows_here v_room_here).ok)) (.bnd ((m_law_scanned v_tree_here v_rows_here v_room_here).val : (List Row) × Int) fun v_due => .bnd (v_rows_here : List Row) fun v_table => setM (m_Reader_scan_N v_reader v_table) (fun (v_answer : List Row) (v_reader : ReaderV) => .req (((m_law_is_rows v_answer v_due.1).ok)) (if ((!((m_law_is_rows v_answer v_due.1).val)) || (!decide ((v_table : List Row) = v_rows_here))) = true then (.ret (false, v_reader)) else (.req ((v_answer.length < sizeLine)) (.bnd (v_answer ++ [((7 : Int), (7 : Int), (7 : Int))]) fun v_answer => if (!decide ((v_table : List Row) = v_rows_here)) = true then (.ret (false, v_reader)) else (.bnd (v_reader.passes : Int) fun v_passes => .ret ((true && ((!false) && (decide (v_passes = v_due.2)))), v_reader)))))))
def m_law_room (v_one : Int) (v_two : Int) : Cmp Int :=
  if (decide ((v_one % (4 : Int)) = (0 : Int))) = true then (.ret ((6 : Int) + ((v_two * (2 : Int)) % (995 : Int)))) else (.ret ((1 : Int) + (v_two % (5 : Int))))
def m_law_steep (v_many : Int) (v_spare : Int) : Cmp Bool :=
  .req ((-(2 ^ 62) ≤ v_many ∧ v_many < 2 ^ 62) ∧ ((rangeL 0 v_many).length < sizeLine)) (.bnd (((rangeL 0 v_many).filter (fun _ => true)).map (fun (x2 : Int) => (x2, (v_many - x2), (0 : Int)))) fun (v_rows_here : List (Int × Int × Int)) => .req (((m_Formula_read (Str.ofString "pareto <a <b")).ok) ∧ ((m_Reader___init__ ((m_Formula_read (Str.ofString "pareto <a <b")).val) (v_many - v_spare)).ok)) (.bnd ((m_Reader___init__ ((m_Formula_read (Str.ofString "pareto <a <b")).val) (v_many - v_spare)).val : ReaderV) fun v_reader => iteM (negM (callM (methM (m_Reader_scan v_reader v_rows_here) (fun (v_reader : ReaderV) => v_reader)) (fun (y_ : List Row) => fun (v_reader : ReaderV) => ((m_law_is_rows y_ v_rows_here).ok)) (fun (y_ : List Row) => fun (v_reader : ReaderV) => (m_law_is_rows y_ v_rows_here).val))) (fun (v_reader : ReaderV) => .ret false) (fun (v_reader : ReaderV) => .ret (decide (v_reader.passes = ((1 : Int) + (if (decide (v_spare > (0 : Int))) = true then 1 else 0)))))))
def m_law_apart (v_reader : ReaderV) (v_tree_here : Tr) (v_rows_here : List Row) (v_others : List Row) (v_room_here : Int) : Cmp (Bool × ReaderV) :=
  setM (methM (m_Reader_scan v_reader v_rows_here) (fun (v_reader : ReaderV) => v_reader)) (fun (v_before : List Row) => fun (v_reader : ReaderV) => setM (methM (m_Reader_scan v_reader v_others) (fun (v_reader : ReaderV) => v_reader)) (fun (v_later : List Row) => fun (v_reader : ReaderV) => .req (((m_law_scanned v_tree_here v_rows_here v_room_here).ok)) (.bnd ((m_law_scanned v_tree_here v_rows_here v_room_here).val : (List Row) × Int) fun v_due => .req (((m_law_is_rows v_before v_due.1).ok) ∧ (∀ (hb3 : ((m_law_is_rows v_before v_due.1).val) = true), (m_law_scanned v_tree_here v_others v_room_here).ok) ∧ (∀ (hb3 : ((m_law_is_rows v_before v_due.1).val) = true), (m_law_is_rows v_later (((m_law_scanned v_tree_here v_others v_room_here).val).1)).ok)) (.ret ((((m_law_is_rows v_before v_due.1).val) && ((m_law_is_rows v_later (((m_law_scanned v_tree_here v_others v_room_here).val).1)).val)), v_reader)))))
def m_law (v_script : List Int) : Cmp Bool :=
  .req (((m_law_pool v_script (0 : Int) (28 : Int)).ok)) (.bnd ((m_law_pool v_script (0 : Int) (28 : Int)).val : List Int) fun v_pool_here => .req (((m_law_frame v_pool_here (8 : Int)).ok)) (.bnd ((m_law_frame v_pool_here (8 : Int)).val) fun ((v_letters, v_marks, v_base) : Str × (List (Str × Int)) × Int) => .req (((m_law_any v_pool_here (7 : Int) v_letters v_marks).ok)) (.bnd ((m_law_any v_pool_here (7 : Int) v_letters v_marks).val : Tr) fun v_tree_here => .req ((0 ≤ (20 : Int) ∧ (20 : Int) < (v_pool_here.length : Int))) (.bind (if (decide (((ixL v_pool_here (20 : Int)) % (2 : Int)) = (0 : Int))) = true then (.bnd ((Tr.bin (Str.ofString "and") (Tr.leaf (Str.ofString "a>2")) (Tr.bin (Str.ofString "and") (Tr.leaf (Str.ofString "b>1")) (Tr.leaf (Str.ofString "c>3")))) : Tr) fun v_far => .bnd ((Tr.bin (Str.ofString "and") (Tr.un (Str.ofString "not") v_far) v_tree_here) : Tr) fun v_tree_here => .ret v_tree_here) else (.ret v_tree_here) : Cmp Tr) (fun (v_tree_here : Tr) => .req ((0 ≤ (21 : Int) ∧ (21 : Int) < (v_pool_here.length : Int)) ∧ ((m_law_rows v_script (1 : Int) ((ixL v_pool_here (21 : Int)) % (25 : Int)) v_base).ok)) (.bnd ((m_law_rows v_script (1 : Int) ((ixL v_pool_here (21 : Int)) % (25 : Int)) v_base).val : List Row) fun v_rows_here => .req ((0 ≤ (22 : Int) ∧ (22 : Int) < (v_pool_here.length : Int)) ∧ ((m_law_rows v_script (26 : Int) ((ixL v_pool_here (22 : Int)) % (25 : Int)) v_base).ok)) (.bnd ((m_law_rows v_script (26 : Int) ((ixL v_pool_here (22 : Int)) % (25 : Int)) v_base).val : List Row) fun v_others => .req ((0 ≤ (23 : Int) ∧ (23 : Int) < (v_pool_here.length : Int)) ∧ (0 ≤ (24 : Int) ∧ (24 : Int) < (v_pool_here.length : Int)) ∧ ((m_law_room (ixL v_pool_here (23 : Int)) (ixL v_pool_here (24 : Int))).ok)) (.bnd ((m_law_room (ixL v_pool_here (23 : Int)) (ixL v_pool_here (24 : Int))).val : Int) fun v_room_here => .req ((0 ≤ (25 : Int) ∧ (25 : Int) < (v_pool_here.length : Int)) ∧ (0 ≤ (26 : Int) ∧ (26 : Int) < (v_pool_here.length : Int)) ∧ ((m_law_room (ixL v_pool_here (25 : Int)) (ixL v_pool_here (26 : Int))).ok)) (.bnd ((m_law_room (ixL v_pool_here (25 : Int)) (ixL v_pool_here (26 : Int))).val : Int) fun v_wide => .req (((m_law_text 9 v_tree_here).ok) ∧ ((m_Formula_read ((m_law_text 9 v_tree_here).val)).ok)) (.bnd ((m_Formula_read ((m_law_text 9 v_tree_here).val)).val : FormV) fun v_formula => .req (((m_Reader___init__ v_formula v_room_here).ok)) (.bnd ((m_Reader___init__ v_formula v_room_here).val : ReaderV) fun v_reader => .req (((m_Reader___init__ v_formula (2 : Int)).ok)) (.bnd ((m_Reader___init__ v_formula (2 : Int)).val : ReaderV) fun v_plain => .req ((∀ (hb22 : (!decide (v_reader.passes = (0 : Int))) = false), (m_Reader_room v_reader).ok) ∧ (∀ (hb22 : (!decide (v_reader.passes = (0 : Int))) = false), ∀ (hb24 : (!decide ((m_Reader_room v_reader).val = v_room_here)) = false), (m_Reader_room v_plain).ok)) (if ((!decide (v_reader.passes = (0 : Int))) || ((!decide ((m_Reader_room v_reader).val = v_room_here)) || (!decide ((m_Reader_room v_plain).val = (2 : Int))))) = true then (.ret false) else (iteM (orM (negM (methM (m_law_fine v_reader v_tree_here v_rows_here v_room_here) (fun (v_reader : ReaderV) => (v_reader, v_plain)))) (fun ((v_reader, v_plain) : ReaderV × ReaderV) => negM (methM (m_law_fine v_plain v_tree_here v_others (2 : Int)) (fun (v_plain : ReaderV) => (v_reader, v_plain))))) (fun ((v_reader, v_plain) : ReaderV × ReaderV) => .ret false) (fun ((v_reader, v_plain) : ReaderV × ReaderV) => .req (((m_law_scanned v_tree_here v_rows_here v_room_here).ok)) (.bnd (((m_law_scanned v_tree_here v_rows_here v_room_here).val).2 : Int) fun v_passes => if (!decide (v_reader.passes = v_passes)) = true then (.ret false) else (setM (methM (m_Reader_resize v_reader v_wide) (fun (v_reader : ReaderV) => v_reader)) (fun _ => fun (v_reader : ReaderV) => if (!decide (v_reader.passes = v_passes)) = true then (.ret false) else (.bindR (forC (L := Unit) (R := Bool) (fun (v_table : List Row) (v_reader : ReaderV) => iteM (orM (.req (((m_Reader_room v_reader).ok)) (.ret ((!decide ((m_Reader_room v_reader).val = v_wide)), v_reader))) (fun (v_reader : ReaderV) => negM (methM (m_law_fine v_reader v_tree_here v_table v_wide) (fun (v_reader : ReaderV) => v_reader)))) (fun (v_reader : ReaderV) => .ret (.rt false)) (fun (v_reader : ReaderV) => .ret (.nx v_reader))) [v_others, v_rows_here, []] v_reader) (fun (v_reader : ReaderV) => setM (methM (m_Reader_resize v_reader v_room_here) (fun (v_reader : ReaderV) => v_reader)) (fun _ => fun (v_reader : ReaderV) => iteM (negM (methM (m_law_apart v_reader v_tree_here v_rows_here v_others v_room_here) (fun (v_reader : ReaderV) => v_reader))) (fun (v_reader : ReaderV) => .ret false) (fun (v_reader : ReaderV) => .req ((0 ≤ (27 : Int) ∧ (27 : Int) < (v_pool_here.length : Int)) ∧ ((m_law_steep ((31 : Int) + ((ixL v_pool_here (27 : Int)) % (70 : Int))) ((ixL v_pool_here (24 : Int)) % (3 : Int))).ok)) (if (!((m_law_steep ((31 : Int) + ((ixL v_pool_here (27 : Int)) % (70 : Int))) ((ixL v_pool_here (24 : Int)) % (3 : Int))).val)) = true then (.ret false) else (retM (andM (methM (m_law_fine v_reader v_tree_here v_rows_here v_room_here) (fun (v_reader : ReaderV) => (v_reader, v_plain))) (fun ((v_reader, v_plain) : ReaderV × ReaderV) => methM (m_law_fine v_plain v_tree_here v_rows_here (2 : Int)) (fun (v_plain : ReaderV) => (v_reader, v_plain)))) (fun y => y)))))))))))))))))))))))))
end DL

set_option Elab.async false
set_option linter.all false
set_option maxRecDepth 100000
set_option maxHeartbeats 4000000
namespace DL
open PySem PySem.Spec PyProof.Rows L2 TL
def top (i : Nat) : Stmt := PySem.Challenge.pw_unbettered_k33_passes_of_a_reader.main.body.getD i (.Pass ⟨0, 0, 0, 0⟩)
section
variable {P : Program} {w : World} {K : PySem.W.Frag} {mg : Str → Option Value} {base : Heap} {ad : Ads}{mcFormula mcReader uFormulaMOST uReaderMOST : Value}
def ar_law_pool (ad : Ads) (L : Om) (ds : List D) (es : List D) : Prop := ∃ (d_script : D) (v_script : List Int) (v_k : Int) (v_many : Int), ds = [d_script, D.int v_k, D.int v_many] ∧ Vw L d_script (v_script.map D.int) ∧ (m_law_pool v_script v_k v_many).ok ∧ es = (m_law_pool v_script v_k v_many).val.map D.int
abbrev s_law_pool : Stmt := top 28
abbrev N_law_pool : List Str := ["_law_script", "_law_k", "_law_many", "_law_cell", "_law_great", "_law_pool_here", "_law_j", "_law_i", "_law_first"]
theorem sc_law_pool : FnScope N_law_pool ["_law_script", "_law_k", "_law_many"] (defScope s_law_pool) := ⟨rfl, rfl, rfl, by decide +kernel, rfl, by decide +kernel, by decide +kernel⟩
theorem ok_law_pool {f : Addr} {fd : FuncData} (F : Fun K "_law_pool" "_law_pool" s_law_pool f fd) (b_len : mg "len" = none) (b_range : mg "range" = none) (b_int : mg "int" = none) : FnOk P w K mg base CX0 (1) f fd ["_law_script", "_law_k", "_law_many"] (spN K (ar_law_pool ad)) := by
  refine fn_newV F sc_law_pool (fun L ds d h => ?_) (fun cdv A outer s H E B ds d hr h => ?_)
  · obtain ⟨d_script, v_script, v_k, v_many, rfl, _⟩ := h; rfl
  · obtain ⟨d_script, v_script, v_k, v_many, rfl, w_script, hok, rfl⟩ := h
    have nd := sc_law_pool.nd
    refine (show JC _ B (defBody s_law_pool) [some (d_script), some (D.int v_k), some (D.int v_many), none, none, none, none, none, none] [] (aR (rtN D.int)) (m_law_pool v_script v_k v_many) from ?_) hok
    unfold m_law_pool
    refine jc_set (E := D.int) (v := ((0 : Int) : Int)) 3 nd ev_int (fun v_cell => ?_)
    show JC _ _ _ [some (d_script), some (D.int v_k), some (D.int v_many), some (D.int v_cell), none, none, none, none, none] _ _ _
    refine jc_seqN (st1 := (fun (v_cell : Int) (ρ : List (Option D)) (O : Om) => ρ = [some (d_script), some (D.int v_k), some (D.int v_many), some (D.int v_cell), none, none, none, none, none] ∧ O = [])) (jc1_ite (et_cmp op_lt rd_B0 (nm 1 rfl) (ev_conv (ev_callB call_len_seq (rc_len (Vw.vq (vwL w_script))) (by rfl) b_len PySem.boot_len (ea_cons (nm 0 rfl) ea_nil)) (by rw [List.length_map])) (nomark _)) (fun hc1 => ?_) (fun hc1 => ?_)) (fun v_cell _ _ hst => ?_)
    · refine jc_req fun h2 => ?_
      refine jc_set (E := D.int) (v := ((ixL v_script v_k) : Int)) 3 nd (ev_ixL (nm 0 rfl) (nm 1 rfl) (vwL w_script) (atG (E := D.int) h2)) (fun v_cell => ?_)
      show JC _ _ _ [some (d_script), some (D.int v_k), some (D.int v_many), some (D.int v_cell), none, none, none, none, none] _ _ _
      exact jc_nil ⟨_, (wk_some rfl (wk_some rfl (wk_some rfl (wk_some rfl (wk_nn (wk_nn (wk_nn (wk_nn (wk_nn wk_nil))))))))), rfl, rfl⟩
    · exact jc_nil ⟨_, (wk_some rfl (wk_some rfl (wk_some rfl (wk_some rfl (wk_nn (wk_nn (wk_nn (wk_nn (wk_nn wk_nil))))))))), rfl, rfl⟩
    obtain ⟨rfl, rfl⟩ := hst
    show JC _ _ _ [some (d_script), some (D.int v_k), some (D.int v_many), some (D.int v_cell), none, none, none, none, none] _ _ _
    refine jc_set (E := D.bl) (v := ((decide (v_cell ≥ (((10 : Int) : Int) ^ ((18 : Int) : Int).toNat))) : Bool)) 4 nd (ev_cmp op_ge rd_B0 (nm 3 rfl) (ev_op op_pow (rd_I ⟨by decide, by decide, by decide⟩) ev_int ev_int) (nomark _)) (fun v_great => ?_)
    show JC _ _ _ [some (d_script), some (D.int v_k), some (D.int v_many), some (D.int v_cell), some (D.bl v_great), none, none, none, none] _ _ _
    refine jc_setN (E := D.int) 5 nd (en_lst ea_nil (by show 0 ≤ sizeLine; decide)) (fun q3 v_pool_here _ => ?_)
    show JC _ _ _ [some (d_script), some (D.int v_k), some (D.int v_many), some (D.int v_cell), some (D.bl v_great), some (.rf q3), none, none, none] _ _ _
    refine jc_req fun h4 => ?_
    refine jc_seqN (st1 := (fun ((v_cell, v_pool_here) : Int × (List Int)) (ρ : List (Option D)) (O : Om) => ρ = [some (d_script), some (D.int v_k), some (D.int v_many), some (D.int v_cell), some (D.bl v_great), some (.rf q3), none, none, none] ∧ O = [(q3, M.lst (v_pool_here.map D.int))])) (jc1_for (E := D.int) PassesOwn.never rfl (ei_rng1 (by rfl) b_range (ea_cons (nm 2 rfl) ea_nil) h4) (bnm 6 nd) (fun ⟨v_cell, v_pool_here⟩ _ _ hst => by obtain ⟨rfl, rfl⟩ := hst; exact trivial) ⟨_, (wk_some rfl (wk_some rfl (wk_some rfl (wk_some rfl (wk_some rfl (wk_some rfl (wk_nn (wk_nn (wk_nn wk_nil))))))))), rfl, rfl⟩ (fun v_j ⟨v_cell, v_pool_here⟩ _ _ hst => ?_)) (fun ⟨v_cell, v_pool_here⟩ _ _ hst => ?_)
    · obtain ⟨rfl, rfl⟩ := hst
      refine ⟨_, rfl, ?_⟩
      show JC _ _ _ [some (d_script), some (D.int v_k), some (D.int v_many), some (D.int v_cell), some (D.bl v_great), some (.rf q3), some (D.int v_j), none, none] _ _ _
      refine jc_one (jc1_ite (et_w (ew_and (et_of (nm 4 rfl)) (fun hb5 => (ew_and1 (et_cmp op_gt rd_B0 (nm 3 rfl) ev_int (nomark _)))))) (fun hc6 => ?_) (fun hc6 => ?_))
      · refine jc_req fun h7 => ?_
        refine jc_append (E := D.int) (v := (v_cell % (1000 : Int))) (nm 5 rfl) (.head _) (ev_op op_mod (rd_I (by decide)) (ev_callTy call_int1 rc_int (by rfl) b_int (by decide +kernel) (ea_cons (nm 3 rfl) ea_nil)) ev_int) (fun _ => .head) h7 (fun v_pool_here => ?_)
        refine jc_set (E := D.int) (v := ((v_cell / (1000 : Int)) : Int)) 3 nd (ev_op op_fdiv (rd_I ⟨by decide, by decide⟩) (nm 3 rfl) ev_int) (fun v_cell => ?_)
        show JC _ _ _ [some (d_script), some (D.int v_k), some (D.int v_many), some (D.int v_cell), some (D.bl v_great), some (.rf q3), some (D.int v_j), none, none] _ _ _
        exact jc_nil ⟨_, (wk_some rfl (wk_some rfl (wk_some rfl (wk_some rfl (wk_some rfl (wk_some rfl (wk_none (wk_nn (wk_nn wk_nil))))))))), rfl, rfl⟩
      · refine jc_set (E := D.int) (v := ((v_j + ((11 : Int) * v_k)) : Int)) 7 nd (ev_op op_add rd_I0 (nm 6 rfl) (ev_op op_mul (rd_I (.inl ⟨by decide, by decide⟩)) ev_int (nm 1 rfl))) (fun v_i => ?_)
        show JC _ _ _ [some (d_script), some (D.int v_k), some (D.int v_many), some (D.int v_cell), some (D.bl v_great), some (.rf q3), some (D.int v_j), some (D.int v_i), none] _ _ _
        refine jc_set (E := D.int) (v := (((((v_cell * (37 : Int)) + (v_i * (71 : Int))) + (5 : Int)) % (509 : Int)) : Int)) 8 nd (ev_op op_mod (rd_I (by decide)) (ev_callTy call_int1 rc_int (by rfl) b_int (by decide +kernel) (ea_cons (ev_op op_add rd_I0 (ev_op op_add rd_I0 (ev_op op_mul (rd_I (.inr ⟨by decide, by decide⟩)) (nm 3 rfl) ev_int) (ev_op op_mul (rd_I (.inr ⟨by decide, by decide⟩)) (nm 7 rfl) ev_int)) ev_int) ea_nil)) ev_int) (fun v_first => ?_)
        show JC _ _ _ [some (d_script), some (D.int v_k), some (D.int v_many), some (D.int v_cell), some (D.bl v_great), some (.rf q3), some (D.int v_j), some (D.int v_i), some (D.int v_first)] _ _ _
        refine jc_req fun ⟨h8, h9⟩ => ?_
        refine jc_append (E := D.int) (v := ((((v_first * v_first) + v_cell) + (v_i * (13 : Int))) % (499 : Int))) (nm 5 rfl) (.head _) (ev_op op_mod (rd_I (by decide)) (ev_callTy call_int1 rc_int (by rfl) b_int (by decide +kernel) (ea_cons (ev_op op_add rd_I0 (ev_op op_add rd_I0 (ev_op op_mul (rd_I h8) (nm 8 rfl) (nm 8 rfl)) (nm 3 rfl)) (ev_op op_mul (rd_I (.inr ⟨by decide, by decide⟩)) (nm 7 rfl) ev_int)) ea_nil)) ev_int) (fun _ => .head) h9 (fun v_pool_here => ?_)
        exact jc_nil ⟨_, (wk_some rfl (wk_some rfl (wk_some rfl (wk_some rfl (wk_some rfl (wk_some rfl (wk_none (wk_none (wk_none wk_nil))))))))), rfl, rfl⟩
    obtain ⟨rfl, rfl⟩ := hst
    show JC _ _ _ [some (d_script), some (D.int v_k), some (D.int v_many), some (D.int v_cell), some (D.bl v_great), some (.rf q3), none, none, none] _ _ _
    exact jc_ret (nm 5 rfl) ⟨_, rfl, rfl⟩
def ar_meets (ad : Ads) (L : Om) (ds : List D) (d : D) : Prop := ∃ (v_sign : Str) (v_one : Int) (v_two : Int), ds = [D.str v_sign, D.int v_one, D.int v_two] ∧ (m_meets v_sign v_one v_two).ok ∧ d = D.bl ((m_meets v_sign v_one v_two).val)
abbrev s_meets : Stmt := top 24
abbrev N_meets : List Str := ["sign", "one", "two"]
theorem sc_meets : FnScope N_meets ["sign", "one", "two"] (defScope s_meets) := ⟨rfl, rfl, rfl, by decide +kernel, rfl, by decide +kernel, by decide +kernel⟩
theorem ok_meets {f : Addr} {fd : FuncData} (F : Fun K "meets" "meets" s_meets f fd)  : FnOk P w K mg base CX0 (1) f fd ["sign", "one", "two"] (spP K (ar_meets ad)) := by
  refine fn_pureV F sc_meets (fun L ds d h => ?_) (fun cdv A outer s H E B ds d hr h => ?_)
  · obtain ⟨v_sign, v_one, v_two, rfl, _⟩ := h; rfl
  · obtain ⟨v_sign, v_one, v_two, rfl, hok, rfl⟩ := h
    have nd := sc_meets.nd
    refine (show JC _ B (defBody s_meets) [some (D.str v_sign), some (D.int v_one), some (D.int v_two)] [] (aR (rtP D.bl)) (m_meets v_sign v_one v_two) from ?_) hok
    unfold m_meets
    refine jc_ifr (et_cmp op_eq rd_eqS (nm 0 rfl) ev_str (nomark _)) (fun hc1 => ?_) (fun hc1 => ?_)
    · exact jc_ret (d := D.bl ((decide (v_one < v_two)) : Bool)) (ev_cmp op_lt rd_B0 (nm 1 rfl) (nm 2 rfl) (nomark _)) (.refl _)
    · refine jc_ifr (et_cmp op_eq rd_eqS (nm 0 rfl) ev_str (nomark _)) (fun hc2 => ?_) (fun hc2 => ?_)
      · exact jc_ret (d := D.bl ((decide (v_one > v_two)) : Bool)) (ev_cmp op_gt rd_B0 (nm 1 rfl) (nm 2 rfl) (nomark _)) (.refl _)
      · exact jc_ret (d := D.bl ((decide (v_one = v_two)) : Bool)) (ev_cmp op_eq rd_eqI (nm 1 rfl) (nm 2 rfl) (nomark _)) (.refl _)
def ar_compared (ad : Ads) (L : Om) (ds : List D) (d : D) : Prop := ∃ (v_word : Str) (v_constant : Int) (v_one : Int) (v_two : Int), ds = [D.str v_word, D.int v_constant, D.int v_one, D.int v_two] ∧ (m_compared v_word v_constant v_one v_two).ok ∧ d = dP2 D.bl D.bl ((m_compared v_word v_constant v_one v_two).val)
abbrev s_compared : Stmt := top 23
abbrev N_compared : List Str := ["word", "constant", "one", "two"]
theorem sc_compared : FnScope N_compared ["word", "constant", "one", "two"] (defScope s_compared) := ⟨rfl, rfl, rfl, by decide +kernel, rfl, by decide +kernel, by decide +kernel⟩
theorem ok_compared {f : Addr} {fd : FuncData} (F : Fun K "compared" "compared" s_compared f fd) (c_meets : Cal P w K mg base CX0 1 "meets" (spP K (ar_meets ad))) : FnOk P w K mg base CX0 (2) f fd ["word", "constant", "one", "two"] (spP K (ar_compared ad)) := by
  refine fn_pureV F sc_compared (fun L ds d h => ?_) (fun cdv A outer s H E B ds d hr h => ?_)
  · obtain ⟨v_word, v_constant, v_one, v_two, rfl, _⟩ := h; rfl
  · obtain ⟨v_word, v_constant, v_one, v_two, rfl, hok, rfl⟩ := h
    have nd := sc_compared.nd
    refine (show JC _ B (defBody s_compared) [some (D.str v_word), some (D.int v_constant), some (D.int v_one), some (D.int v_two)] [] (aR (rtP (dP2 D.bl D.bl))) (m_compared v_word v_constant v_one v_two) from ?_) hok
    unfold m_compared
    refine jc_req fun h1 => ?_
    refine jc_ifr (et_cmp op_eq rd_eqS (ev_sliceS (nm 0 rfl) eo_none (eo_some ev_int) h1) ev_str (nomark _)) (fun hc2 => ?_) (fun hc2 => ?_)
    · refine jc_req fun ⟨h3, h4, h5⟩ => ?_
      exact jc_ret (d := dP2 D.bl D.bl (((m_meets (cS (ixS v_word (3 : Int))) v_one v_constant).val, (m_meets (cS (ixS v_word (3 : Int))) v_two v_constant).val) : Bool × Bool)) (ev_tup (ea_cons (ev_call c_meets (hr.mono (by first | decide | omega)) rfl (ea_cons (ev_ixS (nm 0 rfl) ev_int h1 (atS2 h3)) (ea_cons (nm 2 rfl) (ea_cons (nm 1 rfl) ea_nil))) (by exact ⟨(cS (ixS v_word (3 : Int))), v_one, v_constant, rfl, h4, rfl⟩)) (ea_cons (ev_call c_meets (hr.mono (by first | decide | omega)) rfl (ea_cons (ev_ixS (nm 0 rfl) ev_int h1 (atS2 h3)) (ea_cons (nm 3 rfl) (ea_cons (nm 1 rfl) ea_nil))) (by exact ⟨(cS (ixS v_word (3 : Int))), v_two, v_constant, rfl, h5, rfl⟩)) ea_nil)) (by show 2 ≤ sizeLine; decide)) (.refl _)
    · refine jc_req fun ⟨h6, h7⟩ => ?_
      exact jc_ret (d := dP2 D.bl D.bl (((m_meets v_word v_one v_two).val, (m_meets v_word v_two v_one).val) : Bool × Bool)) (ev_tup (ea_cons (ev_call c_meets (hr.mono (by first | decide | omega)) rfl (ea_cons (nm 0 rfl) (ea_cons (nm 2 rfl) (ea_cons (nm 3 rfl) ea_nil))) (by exact ⟨v_word, v_one, v_two, rfl, h6, rfl⟩)) (ea_cons (ev_call c_meets (hr.mono (by first | decide | omega)) rfl (ea_cons (nm 0 rfl) (ea_cons (nm 3 rfl) (ea_cons (nm 2 rfl) ea_nil))) (by exact ⟨v_word, v_two, v_one, rfl, h7, rfl⟩)) ea_nil)) (by show 2 ≤ sizeLine; decide)) (.refl _)
def ar_changed (ad : Ads) (L : Om) (ds : List D) (d : D) : Prop := ∃ (v_word : Str) (v_pair : Bool × Bool), ds = [D.str v_word, dP2 D.bl D.bl v_pair] ∧ (m_changed v_word v_pair).ok ∧ d = dP2 D.bl D.bl ((m_changed v_word v_pair).val)
abbrev s_changed : Stmt := top 25
abbrev N_changed : List Str := ["word", "pair"]
theorem sc_changed : FnScope N_changed ["word", "pair"] (defScope s_changed) := ⟨rfl, rfl, rfl, by decide +kernel, rfl, by decide +kernel, by decide +kernel⟩
theorem ok_changed {f : Addr} {fd : FuncData} (F : Fun K "changed" "changed" s_changed f fd)  : FnOk P w K mg base CX0 (1) f fd ["word", "pair"] (spP K (ar_changed ad)) := by
  refine fn_pureV F sc_changed (fun L ds d h => ?_) (fun cdv A outer s H E B ds d hr h => ?_)
  · obtain ⟨v_word, v_pair, rfl, _⟩ := h; rfl
  · obtain ⟨v_word, v_pair, rfl, hok, rfl⟩ := h
    have nd := sc_changed.nd
    refine (show JC _ B (defBody s_changed) [some (D.str v_word), some (dP2 D.bl D.bl v_pair)] [] (aR (rtP (dP2 D.bl D.bl))) (m_changed v_word v_pair) from ?_) hok
    unfold m_changed
    refine jc_ifr (et_cmp op_eq rd_eqS (nm 0 rfl) ev_str (nomark _)) (fun hc1 => ?_) (fun hc1 => ?_)
    · exact jc_ret (d := dP2 D.bl D.bl (((!v_pair.1), (!v_pair.2)) : Bool × Bool)) (ev_tup (ea_cons (ev_not (ev_ixT (nm 1 rfl) ev_int (by rfl))) (ea_cons (ev_not (ev_ixT (nm 1 rfl) ev_int (by rfl))) ea_nil)) (by show 2 ≤ sizeLine; decide)) (.refl _)
    · exact jc_ret (d := dP2 D.bl D.bl ((v_pair.2, v_pair.1) : Bool × Bool)) (ev_tup (ea_cons (ev_ixT (nm 1 rfl) ev_int (by rfl)) (ea_cons (ev_ixT (nm 1 rfl) ev_int (by rfl)) ea_nil)) (by show 2 ≤ sizeLine; decide)) (.refl _)
def ar_joined (ad : Ads) (L : Om) (ds : List D) (d : D) : Prop := ∃ (v_word : Str) (v_first : Bool × Bool) (v_second : Bool × Bool), ds = [D.str v_word, dP2 D.bl D.bl v_first, dP2 D.bl D.bl v_second] ∧ (m_joined v_word v_first v_second).ok ∧ d = dP2 D.bl D.bl ((m_joined v_word v_first v_second).val)
abbrev s_joined : Stmt := top 26
abbrev N_joined : List Str := ["word", "first", "second", "ahead", "behind"]
theorem sc_joined : FnScope N_joined ["word", "first", "second"] (defScope s_joined) := ⟨rfl, rfl, rfl, by decide +kernel, rfl, by decide +kernel, by decide +kernel⟩
theorem ok_joined {f : Addr} {fd : FuncData} (F : Fun K "joined" "joined" s_joined f fd)  : FnOk P w K mg base CX0 (1) f fd ["word", "first", "second"] (spP K (ar_joined ad)) := by
  refine fn_pureV F sc_joined (fun L ds d h => ?_) (fun cdv A outer s H E B ds d hr h => ?_)
  · obtain ⟨v_word, v_first, v_second, rfl, _⟩ := h; rfl
  · obtain ⟨v_word, v_first, v_second, rfl, hok, rfl⟩ := h
    have nd := sc_joined.nd
    refine (show JC _ B (defBody s_joined) [some (D.str v_word), some (dP2 D.bl D.bl v_first), some (dP2 D.bl D.bl v_second), none, none] [] (aR (rtP (dP2 D.bl D.bl))) (m_joined v_word v_first v_second) from ?_) hok
    unfold m_joined
    refine jc_ifr (et_cmp op_eq rd_eqS (nm 0 rfl) ev_str (nomark _)) (fun hc1 => ?_) (fun hc1 => ?_)
    · exact jc_ret (d := dP2 D.bl D.bl (((v_first.1 && v_second.1), (v_first.2 && v_second.2)) : Bool × Bool)) (ev_tup (ea_cons (ev_and (ev_ixT (nm 1 rfl) ev_int (by rfl)) (fun hb2 => (ev_one (ev_ixT (nm 2 rfl) ev_int (by rfl))))) (ea_cons (ev_and (ev_ixT (nm 1 rfl) ev_int (by rfl)) (fun hb3 => (ev_one (ev_ixT (nm 2 rfl) ev_int (by rfl))))) ea_nil)) (by show 2 ≤ sizeLine; decide)) (.refl _)
    · refine jc_ifr (et_cmp op_eq rd_eqS (nm 0 rfl) ev_str (nomark _)) (fun hc4 => ?_) (fun hc4 => ?_)
      · exact jc_ret (d := dP2 D.bl D.bl (((v_first.1 || v_second.1), (v_first.2 || v_second.2)) : Bool × Bool)) (ev_tup (ea_cons (ev_or (ev_ixT (nm 1 rfl) ev_int (by rfl)) (fun hb5 => (ev_one (ev_ixT (nm 2 rfl) ev_int (by rfl))))) (ea_cons (ev_or (ev_ixT (nm 1 rfl) ev_int (by rfl)) (fun hb6 => (ev_one (ev_ixT (nm 2 rfl) ev_int (by rfl))))) ea_nil)) (by show 2 ≤ sizeLine; decide)) (.refl _)
      · refine jc_ifr (et_cmp op_eq rd_eqS (nm 0 rfl) ev_str (nomark _)) (fun hc7 => ?_) (fun hc7 => ?_)
        · exact jc_ret (d := dP2 D.bl D.bl (((v_first.1 || ((!v_first.2) && v_second.1)), (v_first.2 || ((!v_first.1) && v_second.2))) : Bool × Bool)) (ev_tup (ea_cons (ev_or (ev_ixT (nm 1 rfl) ev_int (by rfl)) (fun hb8 => (ev_one (ev_and (ev_not (ev_ixT (nm 1 rfl) ev_int (by rfl))) (fun hb9 => (ev_one (ev_ixT (nm 2 rfl) ev_int (by rfl)))))))) (ea_cons (ev_or (ev_ixT (nm 1 rfl) ev_int (by rfl)) (fun hb10 => (ev_one (ev_and (ev_not (ev_ixT (nm 1 rfl) ev_int (by rfl))) (fun hb11 => (ev_one (ev_ixT (nm 2 rfl) ev_int (by rfl)))))))) ea_nil)) (by show 2 ≤ sizeLine; decide)) (.refl _)
        · refine jc_set (E := D.bl) (v := (((v_first.1 || v_second.1) && ((!v_first.2) && (!v_second.2))) : Bool)) 3 nd (ev_and (ev_or (ev_ixT (nm 1 rfl) ev_int (by rfl)) (fun hb12 => (ev_one (ev_ixT (nm 2 rfl) ev_int (by rfl))))) (fun hb13 => (ev_and (ev_not (ev_ixT (nm 1 rfl) ev_int (by rfl))) (fun hb14 => (ev_one (ev_not (ev_ixT (nm 2 rfl) ev_int (by rfl)))))))) (fun v_ahead => ?_)
          show JC _ _ _ [some (D.str v_word), some (dP2 D.bl D.bl v_first), some (dP2 D.bl D.bl v_second), some (D.bl v_ahead), none] _ _ _
          refine jc_set (E := D.bl) (v := (((v_first.2 || v_second.2) && ((!v_first.1) && (!v_second.1))) : Bool)) 4 nd (ev_and (ev_or (ev_ixT (nm 1 rfl) ev_int (by rfl)) (fun hb15 => (ev_one (ev_ixT (nm 2 rfl) ev_int (by rfl))))) (fun hb16 => (ev_and (ev_not (ev_ixT (nm 1 rfl) ev_int (by rfl))) (fun hb17 => (ev_one (ev_not (ev_ixT (nm 2 rfl) ev_int (by rfl)))))))) (fun v_behind => ?_)
          show JC _ _ _ [some (D.str v_word), some (dP2 D.bl D.bl v_first), some (dP2 D.bl D.bl v_second), some (D.bl v_ahead), some (D.bl v_behind)] _ _ _
          exact jc_ret (d := dP2 D.bl D.bl ((v_ahead, v_behind) : Bool × Bool)) (ev_tup (ea_cons (nm 3 rfl) (ea_cons (nm 4 rfl) ea_nil)) (by show 2 ≤ sizeLine; decide)) (.refl _)
def ar_constant_of (ad : Ads) (L : Om) (ds : List D) (d : D) : Prop := ∃ (v_text : Str), ds = [D.str v_text] ∧ (m_constant_of v_text).ok ∧ d = dO D.int ((m_constant_of v_text).val)
abbrev s_constant_of : Stmt := top 22
abbrev N_constant_of : List Str := ["text", "digits", "char"]
theorem sc_constant_of : FnScope N_constant_of ["text"] (defScope s_constant_of) := ⟨rfl, rfl, rfl, by decide +kernel, rfl, by decide +kernel, by decide +kernel⟩
theorem ok_constant_of {f : Addr} {fd : FuncData} (F : Fun K "constant_of" "constant_of" s_constant_of f fd) (b_len : mg "len" = none) (b_int : mg "int" = none) : FnOk P w K mg base CX0 (1) f fd ["text"] (spP K (ar_constant_of ad)) := by
  refine fn_pureV F sc_constant_of (fun L ds d h => ?_) (fun cdv A outer s H E B ds d hr h => ?_)
  · obtain ⟨v_text, rfl, _⟩ := h; rfl
  · obtain ⟨v_text, rfl, hok, rfl⟩ := h
    have nd := sc_constant_of.nd
    refine (show JC _ B (defBody s_constant_of) [some (D.str v_text), none, none] [] (aR (rtP (dO D.int))) (m_constant_of v_text) from ?_) hok
    unfold m_constant_of
    refine jc_req fun ⟨h1, h2, h4⟩ => ?_
    refine jc_set (E := D.str) (v := ((if (decide ((cS (ixS v_text (0 : Int))) = (Str.ofString "-"))) = true then (cutS v_text (some (1 : Int)) none) else v_text) : Str)) 1 nd (ev_ifG (E := D.str) (et_cmp op_eq rd_eqS (ev_ixS (nm 0 rfl) ev_int h2 (atS2 h1)) ev_str (nomark _)) (fun hb3 => (ev_sliceS (nm 0 rfl) (eo_some ev_int) eo_none (h4 hb3))) (fun hb3 => (nm 0 rfl))) (fun v_digits => ?_)
    show JC _ _ _ [some (D.str v_text), some (D.str v_digits), none] _ _ _
    refine jc_req fun h5 => ?_
    refine jc_ifr (et_not (et_chainI op_le op_le ev_int (ev_callB call_len_str (rc_lenS h5) rfl b_len PySem.boot_len (ea_cons (nm 1 rfl) ea_nil)) ev_int)) (fun hc6 => ?_) (fun hc6 => ?_)
    · exact jc_ret (d := dO D.int (none : Option Int)) ev_non (.refl _)
    · refine jc_seqR (st1 := (fun (_ : Unit) (ρ : List (Option D)) (O : Om) => ρ = [some (D.str v_text), some (D.str v_digits), none] ∧ O = [])) (sl := fun (_ : Unit) _ _ => False) (ex := fun _ _ _ _ _ _ => False) (jc1_forC (E := eC) PassesOwn.never rfl (ei_chars (nm 1 rfl)) (bnm 2 nd) (fun _ _ _ hst => by obtain ⟨rfl, rfl⟩ := hst; exact trivial) ⟨_, (wk_some rfl (wk_some rfl (wk_nn wk_nil))), rfl, rfl⟩ (fun v_char _ _ _ hst => ?_)) (fun _ _ _ hst => ?_)
      · obtain ⟨rfl, rfl⟩ := hst
        refine ⟨_, rfl, ?_⟩
        show JC _ _ _ [some (D.str v_text), some (D.str v_digits), some (eC v_char)] _ _ _
        refine jc_one (jc1_ite (et_cmp op_notIn_sign rd_notinC (nm 2 rfl) ev_str (by rfl)) (fun hc7 => ?_) (fun hc7 => ?_))
        · exact jc_ret (d := dO D.int (none : Option Int)) ev_non (.refl _)
        · exact jc_nil ⟨_, (wk_some rfl (wk_some rfl (wk_none wk_nil))), rfl, rfl⟩
      obtain ⟨rfl, rfl⟩ := hst
      show JC _ _ _ [some (D.str v_text), some (D.str v_digits), none] _ _ _
      refine jc_req fun h8 => ?_
      refine jc_ifr (et_w (ew_and (et_cmp op_eq rd_eqS (ev_ixS (nm 1 rfl) ev_int h5 (atS2 h8)) ev_str (nomark _)) (fun hb9 => (ew_and1 (et_cmp op_ne rd_neS (nm 0 rfl) ev_str (nomark _)))))) (fun hc10 => ?_) (fun hc10 => ?_)
      · exact jc_ret (d := dO D.int (none : Option Int)) ev_non (.refl _)
      · refine jc_req fun h11 => ?_
        exact jc_ret (d := dO D.int ((some (intD v_text)) : Option Int)) (ev_callTy call_int_str (rc_intD h11) rfl b_int (by decide +kernel) (ea_cons (nm 0 rfl) ea_nil)) (.refl _)
def ar_decoded (ad : Ads) (L : Om) (ds : List D) (d : D) : Prop := ∃ (v_word : Str), ds = [D.str v_word] ∧ (m_decoded v_word).ok ∧ d = dO (dP3 D.str D.int D.int) ((m_decoded v_word).val)
abbrev s_decoded : Stmt := top 21
abbrev N_decoded : List Str := ["word", "constant"]
theorem sc_decoded : FnScope N_decoded ["word"] (defScope s_decoded) := ⟨rfl, rfl, rfl, by decide +kernel, rfl, by decide +kernel, by decide +kernel⟩
theorem ok_decoded {f : Addr} {fd : FuncData} (F : Fun K "decoded" "decoded" s_decoded f fd) (g_OPERANDS : mg "OPERANDS" = some (.ref ad.aOPERANDS)) (kd_OPERANDS : KDi K w ad.aOPERANDS (fun z => (opsT z).map D.int)) (b_len : mg "len" = none) (g_COLUMNS : ∃ t, mg "COLUMNS" = some (.str "abc" t)) (c_constant_of : Cal P w K mg base CX0 1 "constant_of" (spP K (ar_constant_of ad))) : FnOk P w K mg base CX0 (2) f fd ["word"] (spP K (ar_decoded ad)) := by
  refine fn_pureV F sc_decoded (fun L ds d h => ?_) (fun cdv A outer s H E B ds d hr h => ?_)
  · obtain ⟨v_word, rfl, _⟩ := h; rfl
  · obtain ⟨v_word, rfl, hok, rfl⟩ := h
    have nd := sc_decoded.nd
    refine (show JC _ B (defBody s_decoded) [some (D.str v_word), none] [] (aR (rtP (dO (dP3 D.str D.int D.int)))) (m_decoded v_word) from ?_) hok
    unfold m_decoded
    refine jc_ifr (et_inDT kd_OPERANDS (nm 0 rfl) (ev_glob (v := .ref ad.aOPERANDS) rfl g_OPERANDS rfl (fun _ => .rf _)) (by rfl)) (fun hc1 => ?_) (fun hc1 => ?_)
    · exact jc_ret (d := dO (dP3 D.str D.int D.int) ((some (v_word, (-(1 : Int)), (0 : Int))) : Option (Str × Int × Int))) (ev_tup (ea_cons (nm 0 rfl) (ea_cons (ev_neg ev_int) (ea_cons ev_int ea_nil))) (by show 3 ≤ sizeLine; decide)) (.refl _)
    · refine jc_req fun ⟨h2, h4, h5, h7, h8⟩ => ?_
      refine jc_ifr (et_w (ew_and (et_cmp op_eq rd_eqI (ev_callB call_len_str (rc_lenS h2) rfl b_len PySem.boot_len (ea_cons (nm 0 rfl) ea_nil)) ev_int (nomark _)) (fun hb3 => (ew_and (et_cmp op_in_sign rd_inC (ev_ixS (nm 0 rfl) ev_int (h5 hb3) (atS2 (h4 hb3))) ev_str (by rfl)) (fun hb6 => (ew_and1 (et_cmp op_in_sign rd_inC (ev_ixS (nm 0 rfl) ev_int (h8 hb3 hb6) (atS2 (h7 hb3 hb6))) (ev_globS rfl g_COLUMNS) (by rfl)))))))) (fun hc9 => ?_) (fun hc9 => ?_)
      · refine jc_req fun ⟨h10, h11⟩ => ?_
        exact jc_ret (d := dO (dP3 D.str D.int D.int) ((some ((cS (ixS v_word (0 : Int))), (Txt.find (Str.ofString "abc") (cS (ixS v_word (1 : Int)))), (0 : Int))) : Option (Str × Int × Int))) (ev_tup (ea_cons (ev_ixS (nm 0 rfl) ev_int h2 (atS2 h10)) (ea_cons (ev_find (ev_globS rfl g_COLUMNS) (ev_ixS (nm 0 rfl) ev_int h2 (atS2 h11))) (ea_cons ev_int ea_nil))) (by show 3 ≤ sizeLine; decide)) (.refl _)
      · refine jc_req fun ⟨h13, h15⟩ => ?_
        refine jc_ifr (et_w (ew_or (et_cmp op_lt rd_B0 (ev_callB call_len_str (rc_lenS h2) rfl b_len PySem.boot_len (ea_cons (nm 0 rfl) ea_nil)) ev_int (nomark _)) (fun hb12 => (ew_or (et_cmp op_notIn_sign rd_notinC (ev_ixS (nm 0 rfl) ev_int h2 (atS2 (h13 hb12))) (ev_globS rfl g_COLUMNS) (by rfl)) (fun hb14 => (ew_or1 (et_cmp op_notIn_sign rd_notinC (ev_ixS (nm 0 rfl) ev_int h2 (atS2 (h15 hb12 hb14))) ev_str (by rfl)))))))) (fun hc16 => ?_) (fun hc16 => ?_)
        · exact jc_ret (d := dO (dP3 D.str D.int D.int) (none : Option (Str × Int × Int))) ev_non (.refl _)
        · refine jc_req fun h17 => ?_
          refine jc_set (E := dO D.int) (v := ((m_constant_of (cutS v_word (some (2 : Int)) none)).val : Option Int)) 1 nd (ev_call c_constant_of (hr.mono (by first | decide | omega)) rfl (ea_cons (ev_sliceS (nm 0 rfl) (eo_some ev_int) eo_none h2) ea_nil) (by exact ⟨(cutS v_word (some (2 : Int)) none), rfl, h17, rfl⟩)) (fun v_constant => ?_)
          show JC _ _ _ [some (D.str v_word), some (dO D.int v_constant)] _ _ _
          refine jc_ifr (et_isN (nm 1 rfl) (fun y => rfl)) (fun hc18 => ?_) (fun hc18 => ?_)
          · exact jc_ret (d := dO (dP3 D.str D.int D.int) (none : Option (Str × Int × Int))) ev_non (.refl _)
          · refine jc_req fun ⟨h19, h20, h21⟩ => ?_
            exact jc_ret (d := dO (dP3 D.str D.int D.int) ((some (((Str.ofString "row") ++ (cS (ixS v_word (1 : Int)))), (Txt.find (Str.ofString "abc") (cS (ixS v_word (0 : Int)))), (v_constant.getD default))) : Option (Str × Int × Int))) (ev_tup (ea_cons (ev_op op_add_str (rd_addS (by show 3 + 1 ≤ sizeLine; decide)) ev_str (ev_ixS (nm 0 rfl) ev_int h2 (atS2 h19))) (ea_cons (ev_find (ev_globS rfl g_COLUMNS) (ev_ixS (nm 0 rfl) ev_int h2 (atS2 h20))) (ea_cons (ev_some (nm 1 rfl) h21) ea_nil))) (by show 3 ≤ sizeLine; decide)) (.refl _)
def ar_Formula___init__ (ad : Ads) (L : Om) (ds : List D) (ns : List Str) (fs : List D) : Prop := ∃ (d_words : D) (v_words : List Str), ds = [d_words] ∧ Vq L d_words (v_words.map D.str) ∧ (m_Formula___init__ v_words).ok ∧ ns = fFForm ∧ fs = fVForm (m_Formula___init__ v_words).val
abbrev s_Formula___init__ : Stmt := inClass (top 20) 1
abbrev N_Formula___init__ : List Str := ["self", "words", "code", "missing", "at", "word", "step"]
theorem sc_Formula___init__ : FnScope N_Formula___init__ ["self", "words"] (defScope s_Formula___init__) := ⟨rfl, rfl, rfl, by decide +kernel, rfl, by decide +kernel, by decide +kernel⟩
theorem ok_Formula___init__ {f : Addr} {fd : FuncData} (F : Fun K "__init__" "Formula.__init__" s_Formula___init__ f fd) (b_len : mg "len" = none) (rd_Formula : ClX.CRead K ad.CFormula mcFormula) (cv_Formula_MOST : ClX.CVal K ad.CFormula mcFormula "MOST" (.int 40) uFormulaMOST) (g_Formula : mg "Formula" = some (.ref ad.CFormula)) (b_enumerate : mg "enumerate" = none) (c_decoded : Cal P w K mg base CX0 2 "decoded" (spP K (ar_decoded ad))) (g_OPERANDS : mg "OPERANDS" = some (.ref ad.aOPERANDS)) (kd_OPERANDS : KDi K w ad.aOPERANDS (fun z => (opsT z).map D.int)) (b_tuple : mg "tuple" = none) (k_Formula : Cls K ad.CFormula) (na_Formula_code : NoAttr K ad.CFormula "code") (na_Formula_words : NoAttr K ad.CFormula "words") : FnOk P w K mg base CX0 (3) f fd ["self", "words"] (spI K ad.CFormula (ar_Formula___init__ ad)) := by
  refine fn_init F sc_Formula___init__ (fun L ds d fs h => ?_) (fun cdv A outer s H E B x_self ds d fs hr h => ?_)
  · obtain ⟨d_words, v_words, rfl, _⟩ := h; rfl
  · obtain ⟨d_words, v_words, rfl, w_words, hok, rfl, rfl⟩ := h
    have nd := sc_Formula___init__.nd
    refine (show JC _ B (defBody s_Formula___init__) [some (.rf x_self), some (d_words), none, none, none, none, none] [(x_self, .ins ad.CFormula [] [])] (fun r => { nx := fun _ O' => ∃ fs' O1, O' = O1 ++ [(x_self, .ins ad.CFormula fFForm fs')] ∧ FrzL O1 fs' (fVForm r), rt := fun _ _ => False }) (m_Formula___init__ v_words) from ?_) hok
    unfold m_Formula___init__
    refine jc_ifr (et_cmp op_gt rd_B0 (ev_conv (ev_callB call_len_seq (rc_len (vqL w_words)) (by rfl) b_len PySem.boot_len (ea_cons (nm 1 rfl) ea_nil)) (by rw [List.length_map])) (ev_cval (ev_glob (v := .ref ad.CFormula) rfl g_Formula rfl (fun _ => .rf _)) rd_Formula cv_Formula_MOST (fun _ => .int _)) (nomark _)) (fun hc1 => ?_) (fun hc1 => ?_)
    · exact fun z => z.elim
    · refine jc_setN (E := dP3 D.str D.int D.int) 2 nd (en_lst ea_nil (by show 0 ≤ sizeLine; decide)) (fun q2 v_code _ => ?_)
      show JC _ _ _ [some (.rf x_self), some (d_words), some (.rf q2), none, none, none, none] _ _ _
      refine jc_set (E := D.int) (v := ((1 : Int) : Int)) 3 nd ev_int (fun v_missing => ?_)
      show JC _ _ _ [some (.rf x_self), some (d_words), some (.rf q2), some (D.int v_missing), none, none, none] _ _ _
      refine jc_seqN (st1 := (fun ((v_code, v_missing) : (List (Str × Int × Int)) × Int) (ρ : List (Option D)) (O : Om) => ρ = [some (.rf x_self), some (d_words), some (.rf q2), some (D.int v_missing), none, none, none] ∧ O = [(q2, M.lst (v_code.map (dP3 D.str D.int D.int))), (x_self, M.ins ad.CFormula [] [])])) (jc1_for (E := dP2 D.int D.str) PassesOwn.never rfl (ei_enumT (by rfl) b_enumerate (ea_cons (nm 1 rfl) ea_nil) (vqL w_words)) (eb_tup rfl (ebs_cons (bnm 4 nd) (ebs_cons (bnm 5 nd) ebs_nil)) (bcons_len (bcons_len bnil_len))) (fun ⟨v_code, v_missing⟩ _ _ hst => by obtain ⟨rfl, rfl⟩ := hst; exact (vqL w_words)) ⟨_, (wk_some rfl (wk_some rfl (wk_some rfl (wk_some rfl (wk_nn (wk_nn (wk_nn wk_nil))))))), rfl, rfl⟩ (fun ⟨v_at, v_word⟩ ⟨v_code, v_missing⟩ _ _ hst => ?_)) (fun ⟨v_code, v_missing⟩ _ _ hst => ?_)
      · obtain ⟨rfl, rfl⟩ := hst
        refine ⟨_, rfl, ?_⟩
        show JC _ _ _ [some (.rf x_self), some (d_words), some (.rf q2), some (D.int v_missing), some (D.int v_at), some (D.str v_word), none] _ _ _
        refine jc_req fun h3 => ?_
        refine jc_set (E := dO (dP3 D.str D.int D.int)) (v := ((m_decoded v_word).val : Option (Str × Int × Int))) 6 nd (ev_call c_decoded (hr.mono (by first | decide | omega)) rfl (ea_cons (nm 5 rfl) ea_nil) (by exact ⟨v_word, rfl, h3, rfl⟩)) (fun v_step => ?_)
        show JC _ _ _ [some (.rf x_self), some (d_words), some (.rf q2), some (D.int v_missing), some (D.int v_at), some (D.str v_word), some (dO (dP3 D.str D.int D.int) v_step)] _ _ _
        refine jc_ifr (et_w (ew_or (et_cmp op_eq rd_eqI (nm 3 rfl) ev_int (nomark _)) (fun hb4 => (ew_or1 (et_isN (nm 6 rfl) (fun y => rfl)))))) (fun hc5 => ?_) (fun hc5 => ?_)
        · exact fun z => z.elim
        · refine jc_set (E := D.int) (v := (((v_missing + ((opsT v_word).getD (0 : Int))) - (1 : Int)) : Int)) 3 nd (ev_op op_sub rd_I0 (ev_op op_add rd_I0 (nm 3 rfl) (ev_getDT (E := D.int) kd_OPERANDS (ev_glob (v := .ref ad.aOPERANDS) rfl g_OPERANDS rfl (fun _ => .rf _)) (nm 5 rfl) ev_int)) ev_int) (fun v_missing => ?_)
          show JC _ _ _ [some (.rf x_self), some (d_words), some (.rf q2), some (D.int v_missing), some (D.int v_at), some (D.str v_word), some (dO (dP3 D.str D.int D.int) v_step)] _ _ _
          refine jc_req fun ⟨h6, h7⟩ => ?_
          refine jc_append (E := dP3 D.str D.int D.int) (v := (v_step.getD default)) (nm 2 rfl) (.head _) (ev_some (nm 6 rfl) h6) (fun _ => .head) h7 (fun v_code => ?_)
          exact jc_nil ⟨_, (wk_some rfl (wk_some rfl (wk_some rfl (wk_some rfl (wk_none (wk_none (wk_none wk_nil))))))), rfl, rfl⟩
      obtain ⟨rfl, rfl⟩ := hst
      show JC _ _ _ [some (.rf x_self), some (d_words), some (.rf q2), some (D.int v_missing), none, none, none] _ _ _
      refine jc_ifr (et_cmp op_gt rd_B0 (nm 3 rfl) ev_int (nomark _)) (fun hc8 => ?_) (fun hc8 => ?_)
      · exact fun z => z.elim
      · refine jc_fldNew (E := dU D.str) (v := (v_words : List Str)) (nm 0 rfl) (ev_callTy call_tuple_of (rc_tuple (vqL w_words)) rfl b_tuple (by decide +kernel) (ea_cons (nm 1 rfl) ea_nil)) k_Formula na_Formula_words (fun _ => .tail (.head)) (by decide +kernel) (by decide) (fun v_self_words => ?_)
        refine jc_fldNew (E := dL (dP3 D.str D.int D.int)) (v := (v_code.reverse : List (Str × Int × Int))) (nm 0 rfl) (ev_new (en_conv (en_rev (nm 2 rfl) (Vs.vw (vsM (.head _)))) (by rw [List.map_reverse]))) k_Formula na_Formula_code (fun _ => .tail (.head)) (by decide +kernel) (by decide) (fun v_self_code => ?_)
        refine jc_drp (.head) ?_
        exact jc_nil ⟨_, [], rfl, .refl _⟩
def ar_Formula_holds (ad : Ads) (L : Om) (ds : List D) (d : D) : Prop := ∃ (v_self : FormV) (v_row : Row) (v_other : Row), ds = [(eForm ad) v_self, dRow v_row, dRow v_other] ∧ (m_Formula_holds v_self v_row v_other).ok ∧ d = D.bl ((m_Formula_holds v_self v_row v_other).val)
abbrev s_Formula_holds : Stmt := inClass (top 20) 7
abbrev N_Formula_holds : List Str := ["self", "row", "other", "stack", "word", "at", "constant", "first", "second"]
theorem sc_Formula_holds : FnScope N_Formula_holds ["self", "row", "other"] (defScope s_Formula_holds) := ⟨rfl, rfl, rfl, by decide +kernel, rfl, by decide +kernel, by decide +kernel⟩
theorem ok_Formula_holds {f : Addr} {fd : FuncData} (F : Fun K "holds" "Formula.holds" s_Formula_holds f fd) (k_Formula : Cls K ad.CFormula) (na_Formula_code : NoAttr K ad.CFormula "code") (c_compared : Cal P w K mg base CX0 2 "compared" (spP K (ar_compared ad))) (g_OPERANDS : mg "OPERANDS" = some (.ref ad.aOPERANDS)) (kd_OPERANDS : KDi K w ad.aOPERANDS (fun z => (opsT z).map D.int)) (c_changed : Cal P w K mg base CX0 1 "changed" (spP K (ar_changed ad))) (c_joined : Cal P w K mg base CX0 1 "joined" (spP K (ar_joined ad))) : FnOk P w K mg base CX0 (3) f fd ["self", "row", "other"] (spP K (ar_Formula_holds ad)) := by
  refine fn_pureV F sc_Formula_holds (fun L ds d h => ?_) (fun cdv A outer s H E B ds d hr h => ?_)
  · obtain ⟨v_self, v_row, v_other, rfl, _⟩ := h; rfl
  · obtain ⟨v_self, v_row, v_other, rfl, hok, rfl⟩ := h
    have nd := sc_Formula_holds.nd
    refine (show JC _ B (defBody s_Formula_holds) [some ((eForm ad) v_self), some (dRow v_row), some (dRow v_other), none, none, none, none, none, none] [] (aR (rtP D.bl)) (m_Formula_holds v_self v_row v_other) from ?_) hok
    unfold m_Formula_holds
    refine jc_setN (E := dP2 D.bl D.bl) 3 nd (en_lst ea_nil (by show 0 ≤ sizeLine; decide)) (fun q1 v_stack _ => ?_)
    show JC _ _ _ [some ((eForm ad) v_self), some (dRow v_row), some (dRow v_other), some (.rf q1), none, none, none, none, none] _ _ _
    refine jc_seqN (st1 := (fun (v_stack : (List (Bool × Bool))) (ρ : List (Option D)) (O : Om) => ρ = [some ((eForm ad) v_self), some (dRow v_row), some (dRow v_other), some (.rf q1), none, none, none, none, none] ∧ O = [(q1, M.lst (v_stack.map (dP2 D.bl D.bl)))])) (jc1_for (E := dP3 D.str D.int D.int) PassesOwn.never rfl (ei_list (ev_fld (i := 1) (nm 0 rfl) (.inl rfl) k_Formula na_Formula_code (by decide +kernel) rfl) (Vs.vw vsI)) (eb_tup rfl (ebs_cons (bnm 4 nd) (ebs_cons (bnm 5 nd) (ebs_cons (bnm 6 nd) ebs_nil))) (bcons_len (bcons_len (bcons_len bnil_len)))) (fun v_stack _ _ hst => by obtain ⟨rfl, rfl⟩ := hst; exact (Vs.vw vsI)) ⟨_, (wk_some rfl (wk_some rfl (wk_some rfl (wk_some rfl (wk_nn (wk_nn (wk_nn (wk_nn (wk_nn wk_nil))))))))), rfl, rfl⟩ (fun ⟨v_word, v_at, v_constant⟩ v_stack _ _ hst => ?_)) (fun v_stack _ _ hst => ?_)
    · obtain ⟨rfl, rfl⟩ := hst
      refine ⟨_, rfl, ?_⟩
      show JC _ _ _ [some ((eForm ad) v_self), some (dRow v_row), some (dRow v_other), some (.rf q1), some (D.str v_word), some (D.int v_at), some (D.int v_constant), none, none] _ _ _
      refine jc_one (jc1_ite (et_cmp op_ge rd_B0 (nm 5 rfl) ev_int (nomark _)) (fun hc2 => ?_) (fun hc2 => ?_))
      · refine jc_req fun ⟨h3, h4, h5⟩ => ?_
        refine jc_append (E := dP2 D.bl D.bl) (v := (m_compared v_word v_constant (rowAt v_row v_at) (rowAt v_other v_at)).val) (nm 3 rfl) (.head _) (ev_call c_compared (hr.mono (by first | decide | omega)) rfl (ea_cons (nm 4 rfl) (ea_cons (nm 6 rfl) (ea_cons (ev_ixT (nm 1 rfl) (nm 5 rfl) (atRow h3)) (ea_cons (ev_ixT (nm 2 rfl) (nm 5 rfl) (atRow h3)) ea_nil)))) (by exact ⟨v_word, v_constant, (rowAt v_row v_at), (rowAt v_other v_at), rfl, h4, rfl⟩)) (fun _ => .head) h5 (fun v_stack => ?_)
        exact jc_nil ⟨_, (wk_some rfl (wk_some rfl (wk_some rfl (wk_some rfl (wk_none (wk_none (wk_none (wk_nn (wk_nn wk_nil))))))))), rfl, rfl⟩
      · refine jc_req fun h6 => ?_
        refine jc_one (jc1_ite (et_cmp op_eq rd_eqI (ev_itemDT (E := D.int) kd_OPERANDS (ev_glob (v := .ref ad.aOPERANDS) rfl g_OPERANDS rfl (fun _ => .rf _)) (nm 4 rfl) h6) ev_int (nomark _)) (fun hc7 => ?_) (fun hc7 => ?_))
        · refine jc_req fun ⟨h8, h9, h10⟩ => ?_
          refine jc_appendG (E := dP2 D.bl D.bl) (xs := v_stack.dropLast) (v := (m_changed v_word (lastL v_stack)).val) (nm 3 rfl) (.head _) (eg_call c_changed (hr.mono (by first | decide | omega)) rfl (ega_cons (eg_of (nm 4 rfl)) (ega_cons (eg_popT (E := dP2 D.bl D.bl) (nm 3 rfl) h8 (fun _ => .head)) ega_nil)) (by exact ⟨v_word, (lastL v_stack), rfl, h9, rfl⟩)) (fun _ => .head) (by rw [List.length_dropLast]; omega) (fun v_stack => ?_)
          exact jc_nil ⟨_, (wk_some rfl (wk_some rfl (wk_some rfl (wk_some rfl (wk_none (wk_none (wk_none (wk_nn (wk_nn wk_nil))))))))), rfl, rfl⟩
        · refine jc_req fun h11 => ?_
          refine jc_pop (E := dP2 D.bl D.bl) 7 nd (nm 3 rfl) (fun _ => .head) h11 (fun v_first v_stack => ?_)
          show JC _ _ _ [some ((eForm ad) v_self), some (dRow v_row), some (dRow v_other), some (.rf q1), some (D.str v_word), some (D.int v_at), some (D.int v_constant), some (dP2 D.bl D.bl v_first), none] _ _ _
          refine jc_req fun h12 => ?_
          refine jc_pop (E := dP2 D.bl D.bl) 8 nd (nm 3 rfl) (fun _ => .head) h12 (fun v_second v_stack => ?_)
          show JC _ _ _ [some ((eForm ad) v_self), some (dRow v_row), some (dRow v_other), some (.rf q1), some (D.str v_word), some (D.int v_at), some (D.int v_constant), some (dP2 D.bl D.bl v_first), some (dP2 D.bl D.bl v_second)] _ _ _
          refine jc_req fun ⟨h13, h14⟩ => ?_
          refine jc_append (E := dP2 D.bl D.bl) (v := (m_joined v_word v_first v_second).val) (nm 3 rfl) (.head _) (ev_call c_joined (hr.mono (by first | decide | omega)) rfl (ea_cons (nm 4 rfl) (ea_cons (nm 7 rfl) (ea_cons (nm 8 rfl) ea_nil))) (by exact ⟨v_word, v_first, v_second, rfl, h13, rfl⟩)) (fun _ => .head) h14 (fun v_stack => ?_)
          exact jc_nil ⟨_, (wk_some rfl (wk_some rfl (wk_some rfl (wk_some rfl (wk_none (wk_none (wk_none (wk_none (wk_none wk_nil))))))))), rfl, rfl⟩
    obtain ⟨rfl, rfl⟩ := hst
    show JC _ _ _ [some ((eForm ad) v_self), some (dRow v_row), some (dRow v_other), some (.rf q1), none, none, none, none, none] _ _ _
    refine jc_req fun h15 => ?_
    exact jc_ret (d := D.bl ((ixL v_stack (0 : Int)).1 : Bool)) (ev_ixT (ev_ixL (nm 3 rfl) ev_int (Vs.vw (vsM (.head _))) (atG (E := dP2 D.bl D.bl) h15)) ev_int (by rfl)) (.refl _)
def ar_Formula_read (ad : Ads) (L : Om) (ds : List D) (d : D) : Prop := ∃ (v_text : Str), ds = [.rf ad.CFormula, D.str v_text] ∧ (m_Formula_read v_text).ok ∧ d = (eForm ad) ((m_Formula_read v_text).val)
abbrev s_Formula_read : Stmt := inClass (top 20) 2
abbrev N_Formula_read : List Str := ["cls", "text"]
theorem sc_Formula_read : FnScope N_Formula_read ["cls", "text"] (defScope s_Formula_read) := ⟨rfl, rfl, rfl, by decide +kernel, rfl, by decide +kernel, by decide +kernel⟩
theorem ok_Formula_read {f : Addr} {fd : FuncData} (F : Fun K "read" "Formula.read" s_Formula_read f fd) (mk_Formula : Mk K ad.CFormula ad.f_Formula___init__) (i_Formula : Fok P w K mg base CX0 3 ad.f_Formula___init__ (spI K ad.CFormula (ar_Formula___init__ ad))) : FnOk P w K mg base CX0 (5) f fd ["cls", "text"] (spP K (ar_Formula_read ad)) := by
  refine fn_pureV F sc_Formula_read (fun L ds d h => ?_) (fun cdv A outer s H E B ds d hr h => ?_)
  · obtain ⟨v_text, rfl, _⟩ := h; rfl
  · obtain ⟨v_text, rfl, hok, rfl⟩ := h
    have nd := sc_Formula_read.nd
    refine (show JC _ B (defBody s_Formula_read) [some (.rf ad.CFormula), some (D.str v_text)] [] (aR (rtP (eForm ad))) (m_Formula_read v_text) from ?_) hok
    unfold m_Formula_read
    refine jc_req fun ⟨h1, h2⟩ => ?_
    exact jc_ret (d := (eForm ad) ((m_Formula___init__ (Txt.split v_text (Str.ofString " "))).val : FormV)) (ev_makeL 0 rfl mk_Formula i_Formula (hr.mono (by first | decide | omega)) (ea_cons (ev_new (en_split (nm 1 rfl) ev_str (by decide +kernel) h1)) ea_nil) (by exact ⟨_, (Txt.split v_text (Str.ofString " ")), rfl, (Vw.vq (Vs.vw vsI)), h2, rfl, rfl⟩)) (.refl _)
def ar_Reader_room_setter_new (ad : Ads) (L O : Om) (ds : List D) (d : D) (O2 : Om) : Prop := ∃ (q_self : Addr) (v_self : Reader0V) (v_value : Int), O = [(q_self, M.ins ad.CReader fFReader0 ((fVReader0 ad) v_self))] ∧ ds = [.rf q_self, D.int v_value] ∧ (m_Reader_room_setter_new v_self v_value).ok ∧ d = dUnit ((m_Reader_room_setter_new v_self v_value).val.1) ∧ O2 = (fun (v_self : ReaderV) => ([(q_self, M.ins ad.CReader fFReader ((fVReader ad) v_self))] : Om)) (m_Reader_room_setter_new v_self v_value).val.2
abbrev s_Reader_room_setter_new : Stmt := inClass (top 8) 3
abbrev N_Reader_room_setter_new : List Str := ["self", "value"]
theorem sc_Reader_room_setter_new : FnScope N_Reader_room_setter_new ["self", "value"] (defScope s_Reader_room_setter_new) := ⟨rfl, rfl, rfl, by decide +kernel, rfl, by decide +kernel, by decide +kernel⟩
theorem ok_Reader_room_setter_new {f : Addr} {fd : FuncData} (F : Fun K "room" "Reader.room" s_Reader_room_setter_new f fd) (rd_Reader : ClX.CRead K ad.CReader mcReader) (cv_Reader_MOST : ClX.CVal K ad.CReader mcReader "MOST" (.int 1000) uReaderMOST) (g_Reader : mg "Reader" = some (.ref ad.CReader)) (k_Reader : Cls K ad.CReader) (na_Reader_space : NoAttr K ad.CReader "space") : FnOk P w K mg base CX0 (1) f fd ["self", "value"] (spE K (ar_Reader_room_setter_new ad)) := by
  refine fn_eff F sc_Reader_room_setter_new (fun L O ds d O2 h => ?_) (fun cdv A outer s H E B O ds d O2 hr h => ?_)
  · obtain ⟨q_self, v_self, v_value, _, rfl, _⟩ := h; rfl
  · obtain ⟨q_self, v_self, v_value, rfl, rfl, hok, rfl, rfl⟩ := h
    have nd := sc_Reader_room_setter_new.nd
    refine (show JC _ B (defBody s_Reader_room_setter_new) [some (.rf q_self), some (D.int v_value)] [(q_self, M.ins ad.CReader fFReader0 ((fVReader0 ad) v_self))] (aR (rtE dUnit (fun (v_self : ReaderV) => ([(q_self, M.ins ad.CReader fFReader ((fVReader ad) v_self))] : Om)))) (m_Reader_room_setter_new v_self v_value) from ?_) hok
    unfold m_Reader_room_setter_new
    refine jc_ifr (et_not (et_chainI op_le op_le ev_int (nm 1 rfl) (ev_cval (ev_glob (v := .ref ad.CReader) rfl g_Reader rfl (fun _ => .rf _)) rd_Reader cv_Reader_MOST (fun _ => .int _)))) (fun hc1 => ?_) (fun hc1 => ?_)
    · exact fun z => z.elim
    · refine jc_fldM (vals := (fVReader0 ad)) (vals' := (fVReader ad)) (s := v_self) (nm 0 rfl) (nm 1 rfl) k_Reader na_Reader_space (.inr ⟨by decide +kernel, rfl, rfl⟩) (by decide) (fun _ => .head) (fun v_self => ?_)
      exact jc_nil ⟨[], rfl, .refl _⟩
def ar_Reader___init__ (ad : Ads) (L : Om) (ds : List D) (ns : List Str) (fs : List D) : Prop := ∃ (v_formula : FormV) (v_room : Int), ds = [(eForm ad) v_formula, D.int v_room] ∧ (m_Reader___init__ v_formula v_room).ok ∧ ns = fFReader ∧ fs = (fVReader ad) (m_Reader___init__ v_formula v_room).val
abbrev s_Reader___init__ : Stmt := inClass (top 8) 1
abbrev N_Reader___init__ : List Str := ["self", "formula", "room"]
theorem sc_Reader___init__ : FnScope N_Reader___init__ ["self", "formula", "room"] (defScope s_Reader___init__) := ⟨rfl, rfl, rfl, by decide +kernel, rfl, by decide +kernel, by decide +kernel⟩
theorem ok_Reader___init__ {f : Addr} {fd : FuncData} (F : Fun K "__init__" "Reader.__init__" s_Reader___init__ f fd) (Fps_Reader_room : Fok P w K mg base CX0 1 ad.f_Reader_room_setter_new (spE K (ar_Reader_room_setter_new ad))) (ps_Reader_room : PSetOf K ad.CReader "room" ad.p_Reader_room ad.f_Reader_room_setter_new) (k_Reader : Cls K ad.CReader) (na_Reader_passes : NoAttr K ad.CReader "passes") (na_Reader_formula : NoAttr K ad.CReader "formula") : FnOk P w K mg base CX0 (4) f fd ["self", "formula", "room"] (spI K ad.CReader (ar_Reader___init__ ad)) := by
  refine fn_init F sc_Reader___init__ (fun L ds d fs h => ?_) (fun cdv A outer s H E B x_self ds d fs hr h => ?_)
  · obtain ⟨v_formula, v_room, rfl, _⟩ := h; rfl
  · obtain ⟨v_formula, v_room, rfl, hok, rfl, rfl⟩ := h
    have nd := sc_Reader___init__.nd
    refine (show JC _ B (defBody s_Reader___init__) [some (.rf x_self), some ((eForm ad) v_formula), some (D.int v_room)] [(x_self, .ins ad.CReader [] [])] (fun r => { nx := fun _ O' => ∃ fs' O1, O' = O1 ++ [(x_self, .ins ad.CReader fFReader fs')] ∧ FrzL O1 fs' ((fVReader ad) r), rt := fun _ _ => False }) (m_Reader___init__ v_formula v_room) from ?_) hok
    unfold m_Reader___init__
    refine jc_fldNew (E := (eForm ad)) (v := (v_formula : FormV)) (nm 0 rfl) (nm 1 rfl) k_Reader na_Reader_formula (fun _ => .head) (by decide +kernel) (by decide) (fun v_self_formula => ?_)
    refine jc_fldNew (E := D.int) (v := ((0 : Int) : Int)) (nm 0 rfl) ev_int k_Reader na_Reader_passes (fun _ => .head) (by decide +kernel) (by decide) (fun v_self_passes => ?_)
    refine jc_pset (vals := (fVReader0 ad)) (vals' := (fVReader ad)) (s := (⟨v_self_formula, v_self_passes⟩ : Reader0V)) (mc := m_Reader_room_setter_new (⟨v_self_formula, v_self_passes⟩ : Reader0V) v_room) (nm 0 rfl) (nm 2 rfl) k_Reader ps_Reader_room Fps_Reader_room (hr.mono (by first | decide | omega)) (fun _ => .head) (fun hok _ _ => by exact ⟨_, ⟨v_self_formula, v_self_passes⟩, v_room, rfl, rfl, hok, rfl, rfl⟩) (fun _ v_self_w => ?_)
    exact jc_nil ⟨_, [], rfl, .refl _⟩
def ar_Reader_room_setter (ad : Ads) (L O : Om) (ds : List D) (d : D) (O2 : Om) : Prop := ∃ (q_self : Addr) (v_self : ReaderV) (v_value : Int), O = [(q_self, M.ins ad.CReader fFReader ((fVReader ad) v_self))] ∧ ds = [.rf q_self, D.int v_value] ∧ (m_Reader_room_setter v_self v_value).ok ∧ d = dUnit ((m_Reader_room_setter v_self v_value).val.1) ∧ O2 = (fun (v_self : ReaderV) => ([(q_self, M.ins ad.CReader fFReader ((fVReader ad) v_self))] : Om)) (m_Reader_room_setter v_self v_value).val.2
abbrev s_Reader_room_setter : Stmt := inClass (top 8) 3
abbrev N_Reader_room_setter : List Str := ["self", "value"]
theorem sc_Reader_room_setter : FnScope N_Reader_room_setter ["self", "value"] (defScope s_Reader_room_setter) := ⟨rfl, rfl, rfl, by decide +kernel, rfl, by decide +kernel, by decide +kernel⟩
theorem ok_Reader_room_setter {f : Addr} {fd : FuncData} (F : Fun K "room" "Reader.room" s_Reader_room_setter f fd) (rd_Reader : ClX.CRead K ad.CReader mcReader) (cv_Reader_MOST : ClX.CVal K ad.CReader mcReader "MOST" (.int 1000) uReaderMOST) (g_Reader : mg "Reader" = some (.ref ad.CReader)) (k_Reader : Cls K ad.CReader) (na_Reader_space : NoAttr K ad.CReader "space") : FnOk P w K mg base CX0 (1) f fd ["self", "value"] (spE K (ar_Reader_room_setter ad)) := by
  refine fn_eff F sc_Reader_room_setter (fun L O ds d O2 h => ?_) (fun cdv A outer s H E B O ds d O2 hr h => ?_)
  · obtain ⟨q_self, v_self, v_value, _, rfl, _⟩ := h; rfl
  · obtain ⟨q_self, v_self, v_value, rfl, rfl, hok, rfl, rfl⟩ := h
    have nd := sc_Reader_room_setter.nd
    refine (show JC _ B (defBody s_Reader_room_setter) [some (.rf q_self), some (D.int v_value)] [(q_self, M.ins ad.CReader fFReader ((fVReader ad) v_self))] (aR (rtE dUnit (fun (v_self : ReaderV) => ([(q_self, M.ins ad.CReader fFReader ((fVReader ad) v_self))] : Om)))) (m_Reader_room_setter v_self v_value) from ?_) hok
    unfold m_Reader_room_setter
    refine jc_ifr (et_not (et_chainI op_le op_le ev_int (nm 1 rfl) (ev_cval (ev_glob (v := .ref ad.CReader) rfl g_Reader rfl (fun _ => .rf _)) rd_Reader cv_Reader_MOST (fun _ => .int _)))) (fun hc1 => ?_) (fun hc1 => ?_)
    · exact fun z => z.elim
    · refine jc_fldM (vals := (fVReader ad)) (vals' := (fVReader ad)) (s := v_self) (nm 0 rfl) (nm 1 rfl) k_Reader na_Reader_space (.inl ⟨2, by decide +kernel, rfl, rfl⟩) (by decide) (fun _ => .head) (fun v_self => ?_)
      exact jc_nil ⟨[], rfl, .refl _⟩
def ar_Reader_resize (ad : Ads) (L O : Om) (ds : List D) (d : D) (O2 : Om) : Prop := ∃ (q_self : Addr) (v_self : ReaderV) (v_room : Int), O = [(q_self, M.ins ad.CReader fFReader ((fVReader ad) v_self))] ∧ ds = [.rf q_self, D.int v_room] ∧ (m_Reader_resize v_self v_room).ok ∧ d = dUnit ((m_Reader_resize v_self v_room).val.1) ∧ O2 = (fun (v_self : ReaderV) => ([(q_self, M.ins ad.CReader fFReader ((fVReader ad) v_self))] : Om)) (m_Reader_resize v_self v_room).val.2
abbrev s_Reader_resize : Stmt := inClass (top 8) 4
abbrev N_Reader_resize : List Str := ["self", "room"]
theorem sc_Reader_resize : FnScope N_Reader_resize ["self", "room"] (defScope s_Reader_resize) := ⟨rfl, rfl, rfl, by decide +kernel, rfl, by decide +kernel, by decide +kernel⟩
theorem ok_Reader_resize {f : Addr} {fd : FuncData} (F : Fun K "resize" "Reader.resize" s_Reader_resize f fd) (Fps_Reader_room_w : Fok P w K mg base CX0 1 ad.f_Reader_room_setter (spE K (ar_Reader_room_setter ad))) (ps_Reader_room_w : PSetOf K ad.CReader "room" ad.p_Reader_room_w ad.f_Reader_room_setter) (k_Reader : Cls K ad.CReader) : FnOk P w K mg base CX0 (4) f fd ["self", "room"] (spE K (ar_Reader_resize ad)) := by
  refine fn_eff F sc_Reader_resize (fun L O ds d O2 h => ?_) (fun cdv A outer s H E B O ds d O2 hr h => ?_)
  · obtain ⟨q_self, v_self, v_room, _, rfl, _⟩ := h; rfl
  · obtain ⟨q_self, v_self, v_room, rfl, rfl, hok, rfl, rfl⟩ := h
    have nd := sc_Reader_resize.nd
    refine (show JC _ B (defBody s_Reader_resize) [some (.rf q_self), some (D.int v_room)] [(q_self, M.ins ad.CReader fFReader ((fVReader ad) v_self))] (aR (rtE dUnit (fun (v_self : ReaderV) => ([(q_self, M.ins ad.CReader fFReader ((fVReader ad) v_self))] : Om)))) (m_Reader_resize v_self v_room) from ?_) hok
    unfold m_Reader_resize
    refine jc_pset (vals := (fVReader ad)) (vals' := (fVReader ad)) (s := v_self) (mc := m_Reader_room_setter v_self v_room) (nm 0 rfl) (nm 1 rfl) k_Reader ps_Reader_room_w Fps_Reader_room_w (hr.mono (by first | decide | omega)) (fun _ => .head) (fun hok _ _ => by exact ⟨_, v_self, v_room, rfl, rfl, hok, rfl, rfl⟩) (fun _ v_self => ?_)
    exact jc_nil ⟨[], rfl, .refl _⟩
def ar_Reader_room (ad : Ads) (L : Om) (ds : List D) (d : D) : Prop := ∃ (d_self : D) (v_self : ReaderV), ds = [d_self] ∧ Vo L d_self ad.CReader fFReader ((fVReader ad) v_self) ∧ (m_Reader_room v_self).ok ∧ d = D.int ((m_Reader_room v_self).val)
abbrev s_Reader_room : Stmt := inClass (top 8) 2
abbrev N_Reader_room : List Str := ["self"]
theorem sc_Reader_room : FnScope N_Reader_room ["self"] (defScope s_Reader_room) := ⟨rfl, rfl, rfl, by decide +kernel, rfl, by decide +kernel, by decide +kernel⟩
theorem ok_Reader_room {f : Addr} {fd : FuncData} (F : Fun K "room" "Reader.room" s_Reader_room f fd) (k_Reader : Cls K ad.CReader) (na_Reader_space : NoAttr K ad.CReader "space") : FnOk P w K mg base CX0 (1) f fd ["self"] (spP K (ar_Reader_room ad)) := by
  refine fn_pureV F sc_Reader_room (fun L ds d h => ?_) (fun cdv A outer s H E B ds d hr h => ?_)
  · obtain ⟨d_self, v_self, rfl, _⟩ := h; rfl
  · obtain ⟨d_self, v_self, rfl, w_self, hok, rfl⟩ := h
    have nd := sc_Reader_room.nd
    refine (show JC _ B (defBody s_Reader_room) [some (d_self)] [] (aR (rtP D.int)) (m_Reader_room v_self) from ?_) hok
    unfold m_Reader_room
    exact jc_ret (d := D.int (v_self.space : Int)) (ev_fld (i := 2) (nm 0 rfl) (voL w_self) k_Reader na_Reader_space (by decide +kernel) rfl) (.refl _)
def ar_Reader_one_pass (ad : Ads) (L : Om) (ds : List D) (d : D) : Prop := ∃ (d_self : D) (v_self : ReaderV) (d_rows : D) (v_rows : List Row), ds = [d_self, d_rows] ∧ Vo L d_self ad.CReader fFReader ((fVReader ad) v_self) ∧ Vs L d_rows (v_rows.map dRow) ∧ (m_Reader_one_pass v_self v_rows).ok ∧ d = dP2 (dL dRow) (dL dRow) ((m_Reader_one_pass v_self v_rows).val)
abbrev s_Reader_one_pass : Stmt := inClass (top 8) 6
abbrev N_Reader_one_pass : List Str := ["self", "rows", "window", "overflow", "row", "stored", "early", "settled"]
theorem sc_Reader_one_pass : FnScope N_Reader_one_pass ["self", "rows"] (defScope s_Reader_one_pass) := ⟨rfl, rfl, rfl, by decide +kernel, rfl, by decide +kernel, by decide +kernel⟩
theorem ok_Reader_one_pass {f : Addr} {fd : FuncData} (F : Fun K "one_pass" "Reader.one_pass" s_Reader_one_pass f fd) (k_Reader : Cls K ad.CReader) (na_Reader_formula : NoAttr K ad.CReader "formula") (Fm_Formula_holds : Fok P w K mg base CX0 3 ad.f_Formula_holds (spP K (ar_Formula_holds ad))) (mt_Formula_holds : Meth K ad.CFormula "holds" ad.f_Formula_holds) (k_Formula : Cls K ad.CFormula) (b_any : mg "any" = none) (b_len : mg "len" = none) (na_Reader_space : NoAttr K ad.CReader "space") : FnOk P w K mg base CX0 (5) f fd ["self", "rows"] (spP K (ar_Reader_one_pass ad)) := by
  refine fn_pureV F sc_Reader_one_pass (fun L ds d h => ?_) (fun cdv A outer s H E B ds d hr h => ?_)
  · obtain ⟨d_self, v_self, d_rows, v_rows, rfl, _⟩ := h; rfl
  · obtain ⟨d_self, v_self, d_rows, v_rows, rfl, w_self, w_rows, hok, rfl⟩ := h
    have nd := sc_Reader_one_pass.nd
    refine (show JC _ B (defBody s_Reader_one_pass) [some (d_self), some (d_rows), none, none, none, none, none, none] [] (aR (rtP (dP2 (dL dRow) (dL dRow)))) (m_Reader_one_pass v_self v_rows) from ?_) hok
    unfold m_Reader_one_pass
    refine jc_setN (E := dP2 dRow D.bl) 2 nd (en_lst ea_nil (by show 0 ≤ sizeLine; decide)) (fun q1 v_window _ => ?_)
    show JC _ _ _ [some (d_self), some (d_rows), some (.rf q1), none, none, none, none, none] _ _ _
    refine jc_setN (E := dRow) 3 nd (en_lst ea_nil (by show 0 ≤ sizeLine; decide)) (fun q2 v_overflow _ => ?_)
    show JC _ _ _ [some (d_self), some (d_rows), some (.rf q1), some (.rf q2), none, none, none, none] _ _ _
    refine jc_perm ((.swap _ _ _)) ?_
    refine jc_seqN (st1 := (fun ((v_window, v_overflow) : (List (Row × Bool)) × (List Row)) (ρ : List (Option D)) (O : Om) => ∃ q3 : Addr, ρ = [some (d_self), some (d_rows), some (.rf q3), some (.rf q2), none, none, none, none] ∧ O = [(q3, M.lst (v_window.map (dP2 dRow D.bl))), (q2, M.lst (v_overflow.map dRow))])) (jc1_for (E := dRow) PassesOwn.never rfl (ei_list (nm 1 rfl) (Vs.vw (vsL w_rows))) (bnm 4 nd) (fun ⟨v_window, v_overflow⟩ _ _ hst => by obtain ⟨q3, rfl, rfl⟩ := hst; exact (Vs.vw (vsL w_rows))) ⟨_, (wk_some rfl (wk_some rfl (wk_some rfl (wk_some rfl (wk_nn (wk_nn (wk_nn (wk_nn wk_nil)))))))), q1, rfl, rfl⟩ (fun v_row ⟨v_window, v_overflow⟩ _ _ hst => ?_)) (fun ⟨v_window, v_overflow⟩ _ _ hst => ?_)
    · obtain ⟨q3, rfl, rfl⟩ := hst
      refine ⟨_, rfl, ?_⟩
      show JC _ _ _ [some (d_self), some (d_rows), some (.rf q3), some (.rf q2), some (dRow v_row), none, none, none] _ _ _
      refine jc_req fun ⟨h6, h7⟩ => ?_
      refine jc_one (jc1_ite (et_not (et_of (ev_callB (cr_any rfl) (rc_any (Vs.vw vsI)) rfl b_any (by decide +kernel) (ea_cons (ev_new (en_lcT  (g := (gTup K 2 (gCons (gName 5) (gCons (gName 6) gNil)))) (F := D.bl) (pr := fun _ => true) (el := fun (x4 : (Row × Bool)) => (m_Formula_holds v_self.formula x4.1 v_row).val) [("stored", 5), ("early", 6)] rfl nd (ei_list (nm 2 rfl) (Vs.vw (vsM (.head _)))) (Vs.vw (vsM (.head _))) (blkOk_by (by rfl)) (by rintro _ ⟨s, H, C, cl, fp, rfl⟩; exact (eb_tup rfl (ebs_cons (bnm 5 nd) (ebs_cons (bnm 6 nd) ebs_nil)) (bcons_len (bcons_len bnil_len)))) (by decide) (fun x4 hx5 => ⟨_, rfl, fun X' B' eL hX' => by obtain ⟨s, H, C, cl, fp, rfl⟩ := hX'; exact ets_nil, fun _ X' B' eL hX' => by obtain ⟨s, H, C, cl, fp, rfl⟩ := hX'; exact (ev_meth (ev_fld (i := 0) (nm 0 rfl) (voL (by rw [eL]; exact w_self)) k_Reader na_Reader_formula (by decide +kernel) rfl) k_Formula mt_Formula_holds Fm_Formula_holds (hr.mono (by first | decide | omega)) (ea_cons (nm 5 rfl) (ea_cons (nm 4 rfl) ea_nil)) (by decide +kernel) (by exact ⟨v_self.formula, x4.1, v_row, rfl, (h6 x4 hx5), rfl⟩) _)⟩) h7)) ea_nil)))) (fun hc8 => ?_) (fun hc8 => ?_))
      · refine jc_req fun h11 => ?_
        refine jc_setLcN  (g := (gTup K 2 (gCons (gName 5) (gCons (gName 6) gNil)))) (F := dP2 dRow D.bl) (pr := fun (x9 : (Row × Bool)) => (!((m_Formula_holds v_self.formula v_row x9.1).val))) (el := fun (x9 : (Row × Bool)) => (x9.1, x9.2)) [("stored", 5), ("early", 6)] rfl nd (ei_list (nm 2 rfl) (Vs.vw (vsM (.head _)))) (Vs.vw (vsM (.head _))) (blkOk_by (by rfl)) (by rintro _ ⟨s, H, C, cl, fp, rfl⟩; exact (eb_tup rfl (ebs_cons (bnm 5 nd) (ebs_cons (bnm 6 nd) ebs_nil)) (bcons_len (bcons_len bnil_len)))) (by decide) (fun x9 hx10 => ⟨_, rfl, fun X' B' eL hX' => by obtain ⟨s, H, C, cl, fp, rfl⟩ := hX'; exact (ets_one (et_not (et_of (ev_meth (ev_fld (i := 0) (nm 0 rfl) (voL (by rw [eL]; exact w_self)) k_Reader na_Reader_formula (by decide +kernel) rfl) k_Formula mt_Formula_holds Fm_Formula_holds (hr.mono (by first | decide | omega)) (ea_cons (nm 4 rfl) (ea_cons (nm 5 rfl) ea_nil)) (by decide +kernel) (by exact ⟨v_self.formula, v_row, x9.1, rfl, (h11 x9 hx10), rfl⟩) _)))), fun hp12 X' B' eL hX' => by obtain ⟨s, H, C, cl, fp, rfl⟩ := hX'; exact (ev_tup (ea_cons (nm 5 rfl) (ea_cons (nm 6 rfl) ea_nil)) (by show 2 ≤ sizeLine; decide))⟩) h7 2 rfl rfl rfl (fun q13 v_window _ => ?_)
        show JC _ _ _ [some (d_self), some (d_rows), some (.rf q13), some (.rf q2), some (dRow v_row), none, none, none] _ _ _
        refine jc_one (jc1_ite (et_cmp op_lt rd_B0 (ev_conv (ev_callB call_len_seq (rc_len (Vw.vq (Vs.vw (vsM (.head _))))) (by rfl) b_len PySem.boot_len (ea_cons (nm 2 rfl) ea_nil)) (by rw [List.length_map])) (ev_fld (i := 2) (nm 0 rfl) (voL w_self) k_Reader na_Reader_space (by decide +kernel) rfl) (nomark _)) (fun hc14 => ?_) (fun hc14 => ?_))
        · refine jc_req fun h15 => ?_
          refine jc_append (E := dP2 dRow D.bl) (v := (v_row, (!(!v_overflow.isEmpty)))) (nm 2 rfl) (.head _) (ev_tup (ea_cons (nm 4 rfl) (ea_cons (ev_notL (E := dRow) (xs := v_overflow) (nm 3 rfl) (Vs.vw (vsM (.tail _ (.tail _ (.head _)))))) ea_nil)) (by show 2 ≤ sizeLine; decide)) (fun _ => .head) h15 (fun v_window => ?_)
          refine jc_drp (.tail (.head)) ?_
          exact jc_nil ⟨_, (wk_some rfl (wk_some rfl (wk_some rfl (wk_some rfl (wk_none (wk_nn (wk_nn (wk_nn wk_nil)))))))), q13, rfl, rfl⟩
        · refine jc_req fun h16 => ?_
          refine jc_append (E := dRow) (v := v_row) (nm 3 rfl) (.tail _ (.tail _ (.head _))) (nm 4 rfl) (fun _ => .tail (.tail (.head))) h16 (fun v_overflow => ?_)
          refine jc_drp (.tail (.head)) ?_
          exact jc_nil ⟨_, (wk_some rfl (wk_some rfl (wk_some rfl (wk_some rfl (wk_none (wk_nn (wk_nn (wk_nn wk_nil)))))))), q13, rfl, rfl⟩
      · exact jc_nil ⟨_, (wk_some rfl (wk_some rfl (wk_some rfl (wk_some rfl (wk_none (wk_nn (wk_nn (wk_nn wk_nil)))))))), q3, rfl, rfl⟩
    obtain ⟨q3, rfl, rfl⟩ := hst
    show JC _ _ _ [some (d_self), some (d_rows), some (.rf q3), some (.rf q2), none, none, none, none] _ _ _
    refine jc_req fun h20 => ?_
    refine jc_setLc  (g := (gTup K 2 (gCons (gName 5) (gCons (gName 6) gNil)))) (F := dRow) (pr := fun (x17 : (Row × Bool)) => x17.2) (el := fun (x17 : (Row × Bool)) => x17.1) [("stored", 5), ("early", 6)] rfl nd (ei_list (nm 2 rfl) (Vs.vw (vsM (.head _)))) (Vs.vw (vsM (.head _))) (blkOk_by (by rfl)) (by rintro _ ⟨s, H, C, cl, fp, rfl⟩; exact (eb_tup rfl (ebs_cons (bnm 5 nd) (ebs_cons (bnm 6 nd) ebs_nil)) (bcons_len (bcons_len bnil_len)))) (by decide) (fun x17 hx18 => ⟨_, rfl, fun X' B' eL hX' => by obtain ⟨s, H, C, cl, fp, rfl⟩ := hX'; exact (ets_one (et_of (nm 6 rfl))), fun hp19 X' B' eL hX' => by obtain ⟨s, H, C, cl, fp, rfl⟩ := hX'; exact (nm 5 rfl)⟩) h20 7 rfl rfl rfl (fun v_settled => ?_)
    show JC _ _ _ [some (d_self), some (d_rows), some (.rf q3), some (.rf q2), none, none, none, some (dL dRow v_settled)] _ _ _
    refine jc_req fun h27 => ?_
    exact jc_ret (d := dP2 (dL dRow) (dL dRow) ((v_settled, (((v_window.filter (fun (x24 : (Row × Bool)) => (!x24.2))).map (fun (x24 : (Row × Bool)) => x24.1)) ++ v_overflow)) : (List Row) × (List Row))) (ev_tup (ea_cons (nm 7 rfl) (ea_cons (ev_new (en_cat (E := dRow) (xs := ((v_window.filter (fun (x24 : (Row × Bool)) => (!x24.2))).map (fun (x24 : (Row × Bool)) => x24.1))) (ys := v_overflow) (ev_new (en_lcT  (g := (gTup K 2 (gCons (gName 5) (gCons (gName 6) gNil)))) (F := dRow) (pr := fun (x24 : (Row × Bool)) => (!x24.2)) (el := fun (x24 : (Row × Bool)) => x24.1) [("stored", 5), ("early", 6)] rfl nd (ei_list (nm 2 rfl) (Vs.vw (vsM (.head _)))) (Vs.vw (vsM (.head _))) (blkOk_by (by rfl)) (by rintro _ ⟨s, H, C, cl, fp, rfl⟩; exact (eb_tup rfl (ebs_cons (bnm 5 nd) (ebs_cons (bnm 6 nd) ebs_nil)) (bcons_len (bcons_len bnil_len)))) (by decide) (fun x24 hx25 => ⟨_, rfl, fun X' B' eL hX' => by obtain ⟨s, H, C, cl, fp, rfl⟩ := hX'; exact (ets_one (et_not (et_of (nm 6 rfl)))), fun hp26 X' B' eL hX' => by obtain ⟨s, H, C, cl, fp, rfl⟩ := hX'; exact (nm 5 rfl)⟩) h20)) (nm 3 rfl) vsI (vsM (.tail _ (.head _))) h27)) ea_nil)) (by show 2 ≤ sizeLine; decide)) (.refl _)
def ar_Reader_scan (ad : Ads) (L O : Om) (ds : List D) (d : D) (O2 : Om) : Prop := ∃ (q_self : Addr) (v_self : ReaderV) (d_rows : D) (v_rows : List Row), O = [(q_self, M.ins ad.CReader fFReader ((fVReader ad) v_self))] ∧ ds = [.rf q_self, d_rows] ∧ Vs L d_rows (v_rows.map dRow) ∧ (m_Reader_scan v_self v_rows).ok ∧ d = dL dRow ((m_Reader_scan v_self v_rows).val.1) ∧ O2 = (fun (v_self : ReaderV) => ([(q_self, M.ins ad.CReader fFReader ((fVReader ad) v_self))] : Om)) (m_Reader_scan v_self v_rows).val.2
abbrev s_Reader_scan : Stmt := inClass (top 8) 5
abbrev N_Reader_scan : List Str := ["self", "rows", "waiting", "result", "passes", "settled"]
theorem sc_Reader_scan : FnScope N_Reader_scan ["self", "rows"] (defScope s_Reader_scan) := ⟨rfl, rfl, rfl, by decide +kernel, rfl, by decide +kernel, by decide +kernel⟩
theorem ok_Reader_scan {f : Addr} {fd : FuncData} (F : Fun K "scan" "Reader.scan" s_Reader_scan f fd) (b_list : mg "list" = none) (Fm_Reader_one_pass : Fok P w K mg base CX0 5 ad.f_Reader_one_pass (spP K (ar_Reader_one_pass ad))) (mt_Reader_one_pass : Meth K ad.CReader "one_pass" ad.f_Reader_one_pass) (k_Reader : Cls K ad.CReader) (na_Reader_passes : NoAttr K ad.CReader "passes") : FnOk P w K mg base CX0 (7) f fd ["self", "rows"] (spE K (ar_Reader_scan ad)) := by
  refine fn_eff F sc_Reader_scan (fun L O ds d O2 h => ?_) (fun cdv A outer s H E B O ds d O2 hr h => ?_)
  · obtain ⟨q_self, v_self, d_rows, v_rows, _, rfl, _⟩ := h; rfl
  · obtain ⟨q_self, v_self, d_rows, v_rows, rfl, rfl, w_rows, hok, rfl, rfl⟩ := h
    have nd := sc_Reader_scan.nd
    refine (show JC _ B (defBody s_Reader_scan) [some (.rf q_self), some (d_rows), none, none, none, none] [(q_self, M.ins ad.CReader fFReader ((fVReader ad) v_self))] (aR (rtE (dL dRow) (fun (v_self : ReaderV) => ([(q_self, M.ins ad.CReader fFReader ((fVReader ad) v_self))] : Om)))) (m_Reader_scan v_self v_rows) from ?_) hok
    unfold m_Reader_scan
    refine jc_set (E := dL dRow) (v := (v_rows : List Row)) 2 nd (ev_new (en_callTy call_list_of (rcn_list (Vw.vq (Vs.vw (vsL w_rows)))) rfl b_list (by decide +kernel) (ea_cons (nm 1 rfl) ea_nil))) (fun v_waiting => ?_)
    show JC _ _ _ [some (.rf q_self), some (d_rows), some (dL dRow v_waiting), none, none, none] _ _ _
    refine jc_setN (E := dRow) 3 nd (en_lst ea_nil (by show 0 ≤ sizeLine; decide)) (fun q1 v_result _ => ?_)
    show JC _ _ _ [some (.rf q_self), some (d_rows), some (dL dRow v_waiting), some (.rf q1), none, none] _ _ _
    refine jc_set (E := D.int) (v := ((0 : Int) : Int)) 4 nd ev_int (fun v_passes => ?_)
    show JC _ _ _ [some (.rf q_self), some (d_rows), some (dL dRow v_waiting), some (.rf q1), some (D.int v_passes), none] _ _ _
    refine jc_perm ((.swap _ _ _)) ?_
    refine jc_seqN (st1 := (fun ((v_waiting, v_result, v_passes) : (List Row) × (List Row) × Int) (ρ : List (Option D)) (O : Om) => ρ = [some (.rf q_self), some (d_rows), some (dL dRow v_waiting), some (.rf q1), some (D.int v_passes), none] ∧ O = [(q_self, M.ins ad.CReader fFReader ((fVReader ad) v_self)), (q1, M.lst (v_result.map dRow))])) (jc1_while PassesOwn.never ⟨_, (wk_some rfl (wk_some rfl (wk_some rfl (wk_some rfl (wk_some rfl (wk_nn wk_nil)))))), rfl, rfl⟩ (fun ⟨v_waiting, v_result, v_passes⟩ _ _ hst hok => ?_)) (fun ⟨v_waiting, v_result, v_passes⟩ _ _ hst => ?_)
    · obtain ⟨rfl, rfl⟩ := hst
      refine ⟨(et_lstT (E := dRow) (xs := v_waiting) (nm 2 rfl) (Vs.vw vsI)), fun _ => ?_⟩
      refine jc_req fun h2 => ?_
      refine jc_asg (E := dP2 (dL dRow) (dL dRow)) (ev_methV (nm 0 rfl) (voM (.head _)) k_Reader mt_Reader_one_pass Fm_Reader_one_pass (hr.mono (by first | decide | omega)) (ea_cons (nm 2 rfl) ea_nil) (by decide +kernel) (by exact ⟨_, v_self, _, v_waiting, rfl, (voM (.head _)), vsI, h2, rfl⟩) _) (eb_tup rfl (ebs_cons (bnm 5 nd) (ebs_cons (bnm 2 nd) ebs_nil)) (bcons_len (bcons_len bnil_len))) (fun ⟨v_settled, v_waiting⟩ => ⟨_, rfl, ?_⟩)
      show JC _ _ _ [some (.rf q_self), some (d_rows), some (dL dRow v_waiting), some (.rf q1), some (D.int v_passes), some (dL dRow v_settled)] _ _ _
      refine jc_req fun h3 => ?_
      refine jc_extend (E := dRow) (ys := v_settled) (nm 3 rfl) (.tail _ (.head _)) (nm 5 rfl) vsI (fun _ => .tail (.head)) h3 (fun v_result => ?_)
      refine jc_aug (E := D.int) 4 nd iop_add rd_I0 rfl ev_int (fun v_passes => ?_)
      show JC _ _ _ [some (.rf q_self), some (d_rows), some (dL dRow v_waiting), some (.rf q1), some (D.int v_passes), some (dL dRow v_settled)] _ _ _
      exact jc_nil ⟨_, (wk_some rfl (wk_some rfl (wk_some rfl (wk_some rfl (wk_some rfl (wk_none wk_nil)))))), rfl, rfl⟩
    obtain ⟨rfl, rfl⟩ := hst
    show JC _ _ _ [some (.rf q_self), some (d_rows), some (dL dRow v_waiting), some (.rf q1), some (D.int v_passes), none] _ _ _
    refine jc_fldM (vals := (fVReader ad)) (vals' := (fVReader ad)) (s := v_self) (nm 0 rfl) (nm 4 rfl) k_Reader na_Reader_passes (.inl ⟨1, by decide +kernel, rfl, rfl⟩) (by decide) (fun _ => .head) (fun v_self => ?_)
    refine jc_frz 3 (.tail (.head)) rfl ?_
    show JC _ _ _ [some (.rf q_self), some (d_rows), some (dL dRow v_waiting), some (dL dRow v_result), some (D.int v_passes), none] _ _ _
    exact jc_ret (d := dL dRow (v_result : List Row)) (nm 3 rfl) ⟨[], rfl, .refl _⟩
def ar_Reader_scan_N (ad : Ads) (L O : Om) (ds : List D) (es : List D) (O2 : Om) : Prop := ∃ (q_self : Addr) (v_self : ReaderV) (d_rows : D) (v_rows : List Row), O = [(q_self, M.ins ad.CReader fFReader ((fVReader ad) v_self))] ∧ ds = [.rf q_self, d_rows] ∧ Vs L d_rows (v_rows.map dRow) ∧ (m_Reader_scan_N v_self v_rows).ok ∧ es = (m_Reader_scan_N v_self v_rows).val.1.map dRow ∧ O2 = (fun (v_self : ReaderV) => ([(q_self, M.ins ad.CReader fFReader ((fVReader ad) v_self))] : Om)) (m_Reader_scan_N v_self v_rows).val.2
abbrev s_Reader_scan_N : Stmt := inClass (top 8) 5
abbrev N_Reader_scan_N : List Str := ["self", "rows", "waiting", "result", "passes", "settled"]
theorem sc_Reader_scan_N : FnScope N_Reader_scan_N ["self", "rows"] (defScope s_Reader_scan_N) := ⟨rfl, rfl, rfl, by decide +kernel, rfl, by decide +kernel, by decide +kernel⟩
theorem ok_Reader_scan_N {f : Addr} {fd : FuncData} (F : Fun K "scan" "Reader.scan" s_Reader_scan_N f fd) (b_list : mg "list" = none) (Fm_Reader_one_pass : Fok P w K mg base CX0 5 ad.f_Reader_one_pass (spP K (ar_Reader_one_pass ad))) (mt_Reader_one_pass : Meth K ad.CReader "one_pass" ad.f_Reader_one_pass) (k_Reader : Cls K ad.CReader) (na_Reader_passes : NoAttr K ad.CReader "passes") : FnOk P w K mg base CX0 (7) f fd ["self", "rows"] (spEN K (ar_Reader_scan_N ad)) := by
  refine fn_effN F sc_Reader_scan_N (fun L O ds d O2 h => ?_) (fun cdv A outer s H E B O ds d O2 hr h => ?_)
  · obtain ⟨q_self, v_self, d_rows, v_rows, _, rfl, _⟩ := h; rfl
  · obtain ⟨q_self, v_self, d_rows, v_rows, rfl, rfl, w_rows, hok, rfl, rfl⟩ := h
    have nd := sc_Reader_scan_N.nd
    refine (show JC _ B (defBody s_Reader_scan_N) [some (.rf q_self), some (d_rows), none, none, none, none] [(q_self, M.ins ad.CReader fFReader ((fVReader ad) v_self))] (aRM (fun r d O => ∃ p, d = .rf p ∧ O = (p, M.lst (r.1.map dRow)) :: (fun (v_self : ReaderV) => ([(q_self, M.ins ad.CReader fFReader ((fVReader ad) v_self))] : Om)) r.2)) (m_Reader_scan_N v_self v_rows) from ?_) hok
    unfold m_Reader_scan_N
    refine jc_set (E := dL dRow) (v := (v_rows : List Row)) 2 nd (ev_new (en_callTy call_list_of (rcn_list (Vw.vq (Vs.vw (vsL w_rows)))) rfl b_list (by decide +kernel) (ea_cons (nm 1 rfl) ea_nil))) (fun v_waiting => ?_)
    show JC _ _ _ [some (.rf q_self), some (d_rows), some (dL dRow v_waiting), none, none, none] _ _ _
    refine jc_setN (E := dRow) 3 nd (en_lst ea_nil (by show 0 ≤ sizeLine; decide)) (fun q1 v_result _ => ?_)
    show JC _ _ _ [some (.rf q_self), some (d_rows), some (dL dRow v_waiting), some (.rf q1), none, none] _ _ _
    refine jc_set (E := D.int) (v := ((0 : Int) : Int)) 4 nd ev_int (fun v_passes => ?_)
    show JC _ _ _ [some (.rf q_self), some (d_rows), some (dL dRow v_waiting), some (.rf q1), some (D.int v_passes), none] _ _ _
    refine jc_perm ((.swap _ _ _)) ?_
    refine jc_seqN (st1 := (fun ((v_waiting, v_result, v_passes) : (List Row) × (List Row) × Int) (ρ : List (Option D)) (O : Om) => ρ = [some (.rf q_self), some (d_rows), some (dL dRow v_waiting), some (.rf q1), some (D.int v_passes), none] ∧ O = [(q_self, M.ins ad.CReader fFReader ((fVReader ad) v_self)), (q1, M.lst (v_result.map dRow))])) (jc1_while PassesOwn.never ⟨_, (wk_some rfl (wk_some rfl (wk_some rfl (wk_some rfl (wk_some rfl (wk_nn wk_nil)))))), rfl, rfl⟩ (fun ⟨v_waiting, v_result, v_passes⟩ _ _ hst hok => ?_)) (fun ⟨v_waiting, v_result, v_passes⟩ _ _ hst => ?_)
    · obtain ⟨rfl, rfl⟩ := hst
      refine ⟨(et_lstT (E := dRow) (xs := v_waiting) (nm 2 rfl) (Vs.vw vsI)), fun _ => ?_⟩
      refine jc_req fun h2 => ?_
      refine jc_asg (E := dP2 (dL dRow) (dL dRow)) (ev_methV (nm 0 rfl) (voM (.head _)) k_Reader mt_Reader_one_pass Fm_Reader_one_pass (hr.mono (by first | decide | omega)) (ea_cons (nm 2 rfl) ea_nil) (by decide +kernel) (by exact ⟨_, v_self, _, v_waiting, rfl, (voM (.head _)), vsI, h2, rfl⟩) _) (eb_tup rfl (ebs_cons (bnm 5 nd) (ebs_cons (bnm 2 nd) ebs_nil)) (bcons_len (bcons_len bnil_len))) (fun ⟨v_settled, v_waiting⟩ => ⟨_, rfl, ?_⟩)
      show JC _ _ _ [some (.rf q_self), some (d_rows), some (dL dRow v_waiting), some (.rf q1), some (D.int v_passes), some (dL dRow v_settled)] _ _ _
      refine jc_req fun h3 => ?_
      refine jc_extend (E := dRow) (ys := v_settled) (nm 3 rfl) (.tail _ (.head _)) (nm 5 rfl) vsI (fun _ => .tail (.head)) h3 (fun v_result => ?_)
      refine jc_aug (E := D.int) 4 nd iop_add rd_I0 rfl ev_int (fun v_passes => ?_)
      show JC _ _ _ [some (.rf q_self), some (d_rows), some (dL dRow v_waiting), some (.rf q1), some (D.int v_passes), some (dL dRow v_settled)] _ _ _
      exact jc_nil ⟨_, (wk_some rfl (wk_some rfl (wk_some rfl (wk_some rfl (wk_some rfl (wk_none wk_nil)))))), rfl, rfl⟩
    obtain ⟨rfl, rfl⟩ := hst
    show JC _ _ _ [some (.rf q_self), some (d_rows), some (dL dRow v_waiting), some (.rf q1), some (D.int v_passes), none] _ _ _
    refine jc_fldM (vals := (fVReader ad)) (vals' := (fVReader ad)) (s := v_self) (nm 0 rfl) (nm 4 rfl) k_Reader na_Reader_passes (.inl ⟨1, by decide +kernel, rfl, rfl⟩) (by decide) (fun _ => .head) (fun v_self => ?_)
    refine jc_perm ((.swap _ _ _)) ?_
    exact jc_ret (d := .rf q1) (nm 3 rfl) ⟨_, rfl, rfl⟩
def ar_law_text (n : Nat) (ad : Ads) (L : Om) (ds : List D) (d : D) : Prop := ∃ (v_tree_here : Tr), ds = [eTr v_tree_here] ∧ (m_law_text n v_tree_here).ok ∧ d = D.str ((m_law_text n v_tree_here).val)
abbrev s_law_text : Stmt := top 29
abbrev N_law_text : List Str := ["_law_tree_here", "_law_piece"]
theorem sc_law_text : FnScope N_law_text ["_law_tree_here"] (defScope s_law_text) := ⟨rfl, rfl, rfl, by decide +kernel, rfl, by decide +kernel, by decide +kernel⟩
theorem ok_law_text {f : Addr} {fd : FuncData} {n : Nat} (F : Fun K "_law_text" "_law_text" s_law_text f fd) (b_isinstance : mg "isinstance" = none) (b_str : mg "str" = none) (c_law_text : Cal P w K mg base CX0 (0 + n) "_law_text" (spP K (ar_law_text n ad))) : FnOk P w K mg base CX0 (0 + n + 1) f fd ["_law_tree_here"] (spP K (ar_law_text (n + 1) ad)) := by
  refine fn_pureV F sc_law_text (fun L ds d h => ?_) (fun cdv A outer s H E B ds d hr h => ?_)
  · obtain ⟨v_tree_here, rfl, _⟩ := h; rfl
  · obtain ⟨v_tree_here, rfl, hok, rfl⟩ := h
    have nd := sc_law_text.nd
    refine (show JC _ B (defBody s_law_text) [some (eTr v_tree_here), none] [] (aR (rtP D.str)) (b_law_text (m_law_text n) v_tree_here) from ?_) hok
    unfold b_law_text
    refine jc_ifr (et_of (ev_callB call_isi rc_isTr rfl b_isinstance (by decide +kernel) (ea_cons (nm 0 rfl) (ea_cons (ev_bltn (v := .ty "str") (u := .type "str") rfl b_str (by decide +kernel) rfl (fun _ => .ty _)) ea_nil)))) (fun hc1 => ?_) (fun hc1 => ?_)
    · refine jc_req fun h2 => ?_
      exact jc_ret (d := D.str (v_tree_here.word : Str)) (ev_trW (nm 0 rfl) h2) (.refl _)
    · refine jc_req fun ⟨h3, h6, h7, h10, h11, h12⟩ => ?_
      exact jc_ret (d := D.str ((Txt.join (Str.ofString " ") ([v_tree_here.head] ++ ((v_tree_here.kids.filter (fun _ => true)).map (fun (x8 : Tr) => (m_law_text n x8).val)))) : Str)) (ev_join (ys := ([v_tree_here.head] ++ ((v_tree_here.kids.filter (fun _ => true)).map (fun (x8 : Tr) => (m_law_text n x8).val)))) ev_str (ev_new (en_cat (E := D.str) (xs := [v_tree_here.head]) (ys := ((v_tree_here.kids.filter (fun _ => true)).map (fun (x8 : Tr) => (m_law_text n x8).val))) (ev_new (en_lst (ea_cons (ev_trH (nm 0 rfl) ev_int h3) ea_nil) (by show 1 ≤ sizeLine; decide))) (ev_new (en_lcT (F := D.str) (pr := fun _ => true) (el := fun (x8 : Tr) => (m_law_text n x8).val) [("_law_piece", 1)] rfl nd (ei_tup (ev_trK (nm 0 rfl) ev_int h3)) trivial (blkOk_by (by rfl)) (by rintro _ ⟨s, H, C, cl, fp, rfl⟩; exact (bnm 1 nd)) (by decide) (fun x8 hx9 => ⟨_, rfl, fun X' B' eL hX' => by obtain ⟨s, H, C, cl, fp, rfl⟩ := hX'; exact ets_nil, fun _ X' B' eL hX' => by obtain ⟨s, H, C, cl, fp, rfl⟩ := hX'; exact (ev_call c_law_text (hr.mono (by first | decide | omega)) rfl (ea_cons (nm 1 rfl) ea_nil) (by exact ⟨x8, rfl, (h10 x8 hx9), rfl⟩))⟩) h7)) vsI vsI h11)) (Vw.vq (Vs.vw vsI)) h12) (.refl _)
def ar_law_atom (ad : Ads) (L : Om) (ds : List D) (d : D) : Prop := ∃ (v_word : Str) (v_row : Row) (v_other : Row), ds = [D.str v_word, dRow v_row, dRow v_other] ∧ (m_law_atom v_word v_row v_other).ok ∧ d = D.bl ((m_law_atom v_word v_row v_other).val)
abbrev s_law_atom : Stmt := top 30
abbrev N_law_atom : List Str := ["_law_word", "_law_row", "_law_other", "_law_one", "_law_two", "_law_sign"]
theorem sc_law_atom : FnScope N_law_atom ["_law_word", "_law_row", "_law_other"] (defScope s_law_atom) := ⟨rfl, rfl, rfl, by decide +kernel, rfl, by decide +kernel, by decide +kernel⟩
theorem ok_law_atom {f : Addr} {fd : FuncData} (F : Fun K "_law_atom" "_law_atom" s_law_atom f fd) (b_int : mg "int" = none) : FnOk P w K mg base CX0 (1) f fd ["_law_word", "_law_row", "_law_other"] (spP K (ar_law_atom ad)) := by
  refine fn_pureV F sc_law_atom (fun L ds d h => ?_) (fun cdv A outer s H E B ds d hr h => ?_)
  · obtain ⟨v_word, v_row, v_other, rfl, _⟩ := h; rfl
  · obtain ⟨v_word, v_row, v_other, rfl, hok, rfl⟩ := h
    have nd := sc_law_atom.nd
    refine (show JC _ B (defBody s_law_atom) [some (D.str v_word), some (dRow v_row), some (dRow v_other), none, none, none] [] (aR (rtP D.bl)) (m_law_atom v_word v_row v_other) from ?_) hok
    unfold m_law_atom
    refine jc_req fun ⟨h1, h2⟩ => ?_
    refine jc_seqN (st1 := (fun ((v_one, v_two, v_sign) : Int × Int × Nat) (ρ : List (Option D)) (O : Om) => ρ = [some (D.str v_word), some (dRow v_row), some (dRow v_other), some (D.int v_one), some (D.int v_two), some (eC v_sign)] ∧ O = [])) (jc1_ite (et_cmp op_in_sign rd_inC (ev_ixS (nm 0 rfl) ev_int h2 (atS2 h1)) ev_str (by rfl)) (fun hc3 => ?_) (fun hc3 => ?_)) (fun ⟨v_one, v_two, v_sign⟩ _ _ hst => ?_)
    · refine jc_req fun ⟨h4, h5⟩ => ?_
      refine jc_set (E := D.int) (v := ((rowAt v_row (Txt.find (Str.ofString "abc") (cS (ixS v_word (1 : Int))))) : Int)) 3 nd (ev_ixT (nm 1 rfl) (ev_find ev_str (ev_ixS (nm 0 rfl) ev_int h2 (atS2 h4))) (atRow h5)) (fun v_one => ?_)
      show JC _ _ _ [some (D.str v_word), some (dRow v_row), some (dRow v_other), some (D.int v_one), none, none] _ _ _
      refine jc_set (E := D.int) (v := ((rowAt v_other (Txt.find (Str.ofString "abc") (cS (ixS v_word (1 : Int))))) : Int)) 4 nd (ev_ixT (nm 2 rfl) (ev_find ev_str (ev_ixS (nm 0 rfl) ev_int h2 (atS2 h4))) (atRow h5)) (fun v_two => ?_)
      show JC _ _ _ [some (D.str v_word), some (dRow v_row), some (dRow v_other), some (D.int v_one), some (D.int v_two), none] _ _ _
      refine jc_set (E := eC) (v := ((ixS v_word (0 : Int)) : Nat)) 5 nd (ev_ixS (nm 0 rfl) ev_int h2 (atS2 h1)) (fun v_sign => ?_)
      show JC _ _ _ [some (D.str v_word), some (dRow v_row), some (dRow v_other), some (D.int v_one), some (D.int v_two), some (eC v_sign)] _ _ _
      exact jc_nil ⟨_, (wk_some rfl (wk_some rfl (wk_some rfl (wk_some rfl (wk_some rfl (wk_some rfl wk_nil)))))), rfl, rfl⟩
    · refine jc_req fun h6 => ?_
      refine jc_set (E := D.int) (v := ((rowAt v_row (Txt.find (Str.ofString "abc") (cS (ixS v_word (0 : Int))))) : Int)) 3 nd (ev_ixT (nm 1 rfl) (ev_find ev_str (ev_ixS (nm 0 rfl) ev_int h2 (atS2 h1))) (atRow h6)) (fun v_one => ?_)
      show JC _ _ _ [some (D.str v_word), some (dRow v_row), some (dRow v_other), some (D.int v_one), none, none] _ _ _
      refine jc_req fun h7 => ?_
      refine jc_set (E := D.int) (v := ((intD (cutS v_word (some (2 : Int)) none)) : Int)) 4 nd (ev_callTy call_int_str (rc_intD h7) rfl b_int (by decide +kernel) (ea_cons (ev_sliceS (nm 0 rfl) (eo_some ev_int) eo_none h2) ea_nil)) (fun v_two => ?_)
      show JC _ _ _ [some (D.str v_word), some (dRow v_row), some (dRow v_other), some (D.int v_one), some (D.int v_two), none] _ _ _
      refine jc_req fun h8 => ?_
      refine jc_set (E := eC) (v := ((ixS v_word (1 : Int)) : Nat)) 5 nd (ev_ixS (nm 0 rfl) ev_int h2 (atS2 h8)) (fun v_sign => ?_)
      show JC _ _ _ [some (D.str v_word), some (dRow v_row), some (dRow v_other), some (D.int v_one), some (D.int v_two), some (eC v_sign)] _ _ _
      exact jc_nil ⟨_, (wk_some rfl (wk_some rfl (wk_some rfl (wk_some rfl (wk_some rfl (wk_some rfl wk_nil)))))), rfl, rfl⟩
    obtain ⟨rfl, rfl⟩ := hst
    show JC _ _ _ [some (D.str v_word), some (dRow v_row), some (dRow v_other), some (D.int v_one), some (D.int v_two), some (eC v_sign)] _ _ _
    refine jc_ifr (et_cmp op_eq rd_eqS (nm 5 rfl) ev_str (nomark _)) (fun hc9 => ?_) (fun hc9 => ?_)
    · exact jc_ret (d := D.bl ((decide (v_one < v_two)) : Bool)) (ev_cmp op_lt rd_B0 (nm 3 rfl) (nm 4 rfl) (nomark _)) (.refl _)
    · refine jc_ifr (et_cmp op_eq rd_eqS (nm 5 rfl) ev_str (nomark _)) (fun hc10 => ?_) (fun hc10 => ?_)
      · exact jc_ret (d := D.bl ((decide (v_one > v_two)) : Bool)) (ev_cmp op_gt rd_B0 (nm 3 rfl) (nm 4 rfl) (nomark _)) (.refl _)
      · exact jc_ret (d := D.bl ((decide (v_one = v_two)) : Bool)) (ev_cmp op_eq rd_eqI (nm 3 rfl) (nm 4 rfl) (nomark _)) (.refl _)
def ar_law_holds (n : Nat) (ad : Ads) (L : Om) (ds : List D) (d : D) : Prop := ∃ (v_tree_here : Tr) (v_row : Row) (v_other : Row), ds = [eTr v_tree_here, dRow v_row, dRow v_other] ∧ (m_law_holds n v_tree_here v_row v_other).ok ∧ d = D.bl ((m_law_holds n v_tree_here v_row v_other).val)
abbrev s_law_holds : Stmt := top 31
abbrev N_law_holds : List Str := ["_law_tree_here", "_law_row", "_law_other", "_law_one", "_law_two", "_law_back"]
theorem sc_law_holds : FnScope N_law_holds ["_law_tree_here", "_law_row", "_law_other"] (defScope s_law_holds) := ⟨rfl, rfl, rfl, by decide +kernel, rfl, by decide +kernel, by decide +kernel⟩
theorem ok_law_holds {f : Addr} {fd : FuncData} {n : Nat} (F : Fun K "_law_holds" "_law_holds" s_law_holds f fd) (b_isinstance : mg "isinstance" = none) (b_str : mg "str" = none) (c_law_atom : Cal P w K mg base CX0 1 "_law_atom" (spP K (ar_law_atom ad))) (c_law_holds : Cal P w K mg base CX0 (1 + n) "_law_holds" (spP K (ar_law_holds n ad))) : FnOk P w K mg base CX0 (1 + n + 1) f fd ["_law_tree_here", "_law_row", "_law_other"] (spP K (ar_law_holds (n + 1) ad)) := by
  refine fn_pureV F sc_law_holds (fun L ds d h => ?_) (fun cdv A outer s H E B ds d hr h => ?_)
  · obtain ⟨v_tree_here, v_row, v_other, rfl, _⟩ := h; rfl
  · obtain ⟨v_tree_here, v_row, v_other, rfl, hok, rfl⟩ := h
    have nd := sc_law_holds.nd
    refine (show JC _ B (defBody s_law_holds) [some (eTr v_tree_here), some (dRow v_row), some (dRow v_other), none, none, none] [] (aR (rtP D.bl)) (b_law_holds (m_law_holds n) v_tree_here v_row v_other) from ?_) hok
    unfold b_law_holds
    refine jc_ifr (et_of (ev_callB call_isi rc_isTr rfl b_isinstance (by decide +kernel) (ea_cons (nm 0 rfl) (ea_cons (ev_bltn (v := .ty "str") (u := .type "str") rfl b_str (by decide +kernel) rfl (fun _ => .ty _)) ea_nil)))) (fun hc1 => ?_) (fun hc1 => ?_)
    · refine jc_req fun ⟨h2, h3⟩ => ?_
      exact jc_ret (d := D.bl ((m_law_atom v_tree_here.word v_row v_other).val : Bool)) (ev_call c_law_atom (hr.mono (by first | decide | omega)) rfl (ea_cons (ev_trW (nm 0 rfl) h2) (ea_cons (nm 1 rfl) (ea_cons (nm 2 rfl) ea_nil))) (by exact ⟨v_tree_here.word, v_row, v_other, rfl, h3, rfl⟩)) (.refl _)
    · refine jc_req fun h4 => ?_
      refine jc_ifr (et_cmp op_eq rd_eqS (ev_trH (nm 0 rfl) ev_int h4) ev_str (nomark _)) (fun hc5 => ?_) (fun hc5 => ?_)
      · refine jc_req fun h6 => ?_
        exact jc_ret (d := D.bl ((!((m_law_holds n v_tree_here.c1 v_row v_other).val)) : Bool)) (ev_not (ev_call c_law_holds (hr.mono (by first | decide | omega)) rfl (ea_cons (ev_tr1 (nm 0 rfl) ev_int h4) (ea_cons (nm 1 rfl) (ea_cons (nm 2 rfl) ea_nil))) (by exact ⟨v_tree_here.c1, v_row, v_other, rfl, h6, rfl⟩))) (.refl _)
      · refine jc_ifr (et_cmp op_eq rd_eqS (ev_trH (nm 0 rfl) ev_int h4) ev_str (nomark _)) (fun hc7 => ?_) (fun hc7 => ?_)
        · refine jc_req fun h8 => ?_
          exact jc_ret (d := D.bl ((m_law_holds n v_tree_here.c1 v_other v_row).val : Bool)) (ev_call c_law_holds (hr.mono (by first | decide | omega)) rfl (ea_cons (ev_tr1 (nm 0 rfl) ev_int h4) (ea_cons (nm 2 rfl) (ea_cons (nm 1 rfl) ea_nil))) (by exact ⟨v_tree_here.c1, v_other, v_row, rfl, h8, rfl⟩)) (.refl _)
        · refine jc_req fun h9 => ?_
          refine jc_set (E := D.bl) (v := ((m_law_holds n v_tree_here.c1 v_row v_other).val : Bool)) 3 nd (ev_call c_law_holds (hr.mono (by first | decide | omega)) rfl (ea_cons (ev_tr1 (nm 0 rfl) ev_int h4) (ea_cons (nm 1 rfl) (ea_cons (nm 2 rfl) ea_nil))) (by exact ⟨v_tree_here.c1, v_row, v_other, rfl, h9, rfl⟩)) (fun v_one => ?_)
          show JC _ _ _ [some (eTr v_tree_here), some (dRow v_row), some (dRow v_other), some (D.bl v_one), none, none] _ _ _
          refine jc_req fun ⟨h10, h11⟩ => ?_
          refine jc_set (E := D.bl) (v := ((m_law_holds n v_tree_here.c2 v_row v_other).val : Bool)) 4 nd (ev_call c_law_holds (hr.mono (by first | decide | omega)) rfl (ea_cons (ev_tr2 (nm 0 rfl) ev_int h10) (ea_cons (nm 1 rfl) (ea_cons (nm 2 rfl) ea_nil))) (by exact ⟨v_tree_here.c2, v_row, v_other, rfl, h11, rfl⟩)) (fun v_two => ?_)
          show JC _ _ _ [some (eTr v_tree_here), some (dRow v_row), some (dRow v_other), some (D.bl v_one), some (D.bl v_two), none] _ _ _
          refine jc_ifr (et_cmp op_eq rd_eqS (ev_trH (nm 0 rfl) ev_int h4) ev_str (nomark _)) (fun hc12 => ?_) (fun hc12 => ?_)
          · exact jc_ret (d := D.bl ((v_one && v_two) : Bool)) (ev_and (nm 3 rfl) (fun hb13 => (ev_one (nm 4 rfl)))) (.refl _)
          · refine jc_ifr (et_cmp op_eq rd_eqS (ev_trH (nm 0 rfl) ev_int h4) ev_str (nomark _)) (fun hc14 => ?_) (fun hc14 => ?_)
            · exact jc_ret (d := D.bl ((v_one || v_two) : Bool)) (ev_or (nm 3 rfl) (fun hb15 => (ev_one (nm 4 rfl)))) (.refl _)
            · refine jc_req fun h16 => ?_
              refine jc_set (E := D.bl) (v := ((m_law_holds n v_tree_here.c1 v_other v_row).val : Bool)) 5 nd (ev_call c_law_holds (hr.mono (by first | decide | omega)) rfl (ea_cons (ev_tr1 (nm 0 rfl) ev_int h4) (ea_cons (nm 2 rfl) (ea_cons (nm 1 rfl) ea_nil))) (by exact ⟨v_tree_here.c1, v_other, v_row, rfl, h16, rfl⟩)) (fun v_back => ?_)
              show JC _ _ _ [some (eTr v_tree_here), some (dRow v_row), some (dRow v_other), some (D.bl v_one), some (D.bl v_two), some (D.bl v_back)] _ _ _
              refine jc_ifr (et_cmp op_eq rd_eqS (ev_trH (nm 0 rfl) ev_int h4) ev_str (nomark _)) (fun hc17 => ?_) (fun hc17 => ?_)
              · exact jc_ret (d := D.bl ((v_one || ((!v_back) && v_two)) : Bool)) (ev_or (nm 3 rfl) (fun hb18 => (ev_one (ev_and (ev_not (nm 5 rfl)) (fun hb19 => (ev_one (nm 4 rfl))))))) (.refl _)
              · refine jc_req fun h23 => ?_
                exact jc_ret (d := D.bl (((v_one || v_two) && ((!v_back) && (!((m_law_holds n v_tree_here.c2 v_other v_row).val)))) : Bool)) (ev_and (ev_or (nm 3 rfl) (fun hb20 => (ev_one (nm 4 rfl)))) (fun hb21 => (ev_and (ev_not (nm 5 rfl)) (fun hb22 => (ev_one (ev_not (ev_call c_law_holds (hr.mono (by first | decide | omega)) rfl (ea_cons (ev_tr2 (nm 0 rfl) ev_int h10) (ea_cons (nm 2 rfl) (ea_cons (nm 1 rfl) ea_nil))) (by exact ⟨v_tree_here.c2, v_other, v_row, rfl, (h23 hb21 hb22), rfl⟩)))))))) (.refl _)
def ar_law_frame (ad : Ads) (L : Om) (ds : List D) (d : D) : Prop := ∃ (d_pool_here : D) (v_pool_here : List Int) (v_shapes : Int), ds = [d_pool_here, D.int v_shapes] ∧ Vs L d_pool_here (v_pool_here.map D.int) ∧ (m_law_frame v_pool_here v_shapes).ok ∧ d = dP3 D.str (dL (dP2 D.str D.int)) D.int ((m_law_frame v_pool_here v_shapes).val)
abbrev s_law_frame : Stmt := top 32
abbrev N_law_frame : List Str := ["_law_pool_here", "_law_shapes", "_law_shape", "_law_many", "_law_count", "_law_letters", "_law_base", "_law_far", "_law_marks", "_law_k", "_law_constant"]
theorem sc_law_frame : FnScope N_law_frame ["_law_pool_here", "_law_shapes"] (defScope s_law_frame) := ⟨rfl, rfl, rfl, by decide +kernel, rfl, by decide +kernel, by decide +kernel⟩
theorem ok_law_frame {f : Addr} {fd : FuncData} (F : Fun K "_law_frame" "_law_frame" s_law_frame f fd) (b_int : mg "int" = none) (b_range : mg "range" = none) : FnOk P w K mg base CX0 (1) f fd ["_law_pool_here", "_law_shapes"] (spP K (ar_law_frame ad)) := by
  refine fn_pureV F sc_law_frame (fun L ds d h => ?_) (fun cdv A outer s H E B ds d hr h => ?_)
  · obtain ⟨d_pool_here, v_pool_here, v_shapes, rfl, _⟩ := h; rfl
  · obtain ⟨d_pool_here, v_pool_here, v_shapes, rfl, w_pool_here, hok, rfl⟩ := h
    have nd := sc_law_frame.nd
    refine (show JC _ B (defBody s_law_frame) [some (d_pool_here), some (D.int v_shapes), none, none, none, none, none, none, none, none, none] [] (aR (rtP (dP3 D.str (dL (dP2 D.str D.int)) D.int))) (m_law_frame v_pool_here v_shapes) from ?_) hok
    unfold m_law_frame
    refine jc_req fun ⟨h1, h2⟩ => ?_
    refine jc_set (E := D.int) (v := (((ixL v_pool_here (0 : Int)) % v_shapes) : Int)) 2 nd (ev_op op_mod (rd_I h2) (ev_callTy call_int1 rc_int (by rfl) b_int (by decide +kernel) (ea_cons (ev_ixL (nm 0 rfl) ev_int (Vs.vw (vsL w_pool_here)) (atG (E := D.int) h1)) ea_nil)) (nm 1 rfl)) (fun v_shape => ?_)
    show JC _ _ _ [some (d_pool_here), some (D.int v_shapes), some (D.int v_shape), none, none, none, none, none, none, none, none] _ _ _
    refine jc_req fun h3 => ?_
    refine jc_set (E := D.int) (v := ((ixL ([(2 : Int), (1 : Int), (2 : Int), (1 : Int), (3 : Int), (2 : Int), (2 : Int), (3 : Int), (1 : Int)] : List Int) v_shape) : Int)) 3 nd (ev_ixL (ev_new (en_lst (ea_cons ev_int (ea_cons ev_int (ea_cons ev_int (ea_cons ev_int (ea_cons ev_int (ea_cons ev_int (ea_cons ev_int (ea_cons ev_int (ea_cons ev_int ea_nil))))))))) (by show 9 ≤ sizeLine; decide))) (nm 2 rfl) (Vs.vw vsI) (atG (xs := ([(2 : Int), (1 : Int), (2 : Int), (1 : Int), (3 : Int), (2 : Int), (2 : Int), (3 : Int), (1 : Int)] : List Int)) (E := D.int) h3)) (fun v_many => ?_)
    show JC _ _ _ [some (d_pool_here), some (D.int v_shapes), some (D.int v_shape), some (D.int v_many), none, none, none, none, none, none, none] _ _ _
    refine jc_set (E := D.int) (v := ((ixL ([(1 : Int), (1 : Int), (0 : Int), (2 : Int), (0 : Int), (2 : Int), (1 : Int), (1 : Int), (3 : Int)] : List Int) v_shape) : Int)) 4 nd (ev_ixL (ev_new (en_lst (ea_cons ev_int (ea_cons ev_int (ea_cons ev_int (ea_cons ev_int (ea_cons ev_int (ea_cons ev_int (ea_cons ev_int (ea_cons ev_int (ea_cons ev_int ea_nil))))))))) (by show 9 ≤ sizeLine; decide))) (nm 2 rfl) (Vs.vw vsI) (atG (xs := ([(1 : Int), (1 : Int), (0 : Int), (2 : Int), (0 : Int), (2 : Int), (1 : Int), (1 : Int), (3 : Int)] : List Int)) (E := D.int) h3)) (fun v_count => ?_)
    show JC _ _ _ [some (d_pool_here), some (D.int v_shapes), some (D.int v_shape), some (D.int v_many), some (D.int v_count), none, none, none, none, none, none] _ _ _
    refine jc_req fun ⟨h4, h5⟩ => ?_
    refine jc_set (E := D.str) (v := ((cutS (ixL ([(Str.ofString "abc"), (Str.ofString "acb"), (Str.ofString "bac"), (Str.ofString "bca"), (Str.ofString "cab"), (Str.ofString "cba")] : List Str) ((ixL v_pool_here (1 : Int)) % (6 : Int))) none (some v_many)) : Str)) 5 nd (ev_sliceS (ev_ixL (ev_new (en_lst (ea_cons ev_str (ea_cons ev_str (ea_cons ev_str (ea_cons ev_str (ea_cons ev_str (ea_cons ev_str ea_nil)))))) (by show 6 ≤ sizeLine; decide))) (ev_op op_mod (rd_I (by decide)) (ev_callTy call_int1 rc_int (by rfl) b_int (by decide +kernel) (ea_cons (ev_ixL (nm 0 rfl) ev_int (Vs.vw (vsL w_pool_here)) (atG (E := D.int) h4)) ea_nil)) ev_int) (Vs.vw vsI) (atG (xs := ([(Str.ofString "abc"), (Str.ofString "acb"), (Str.ofString "bac"), (Str.ofString "bca"), (Str.ofString "cab"), (Str.ofString "cba")] : List Str)) (E := D.str) (mod_ix (k := 6) (by decide) (by decide)))) eo_none (eo_some (nm 3 rfl)) h5) (fun v_letters => ?_)
    show JC _ _ _ [some (d_pool_here), some (D.int v_shapes), some (D.int v_shape), some (D.int v_many), some (D.int v_count), some (D.str v_letters), none, none, none, none, none] _ _ _
    refine jc_req fun h6 => ?_
    refine jc_set (E := D.int) (v := ((ixL ([(0 : Int), (0 : Int), (1000 : Int), (-(((10 : Int) : Int) ^ ((15 : Int) : Int).toNat))] : List Int) ((ixL v_pool_here (2 : Int)) % (4 : Int))) : Int)) 6 nd (ev_ixL (ev_new (en_lst (ea_cons ev_int (ea_cons ev_int (ea_cons ev_int (ea_cons (ev_neg (ev_op op_pow (rd_I ⟨by decide, by decide, by decide⟩) ev_int ev_int)) ea_nil)))) (by show 4 ≤ sizeLine; decide))) (ev_op op_mod (rd_I (by decide)) (ev_callTy call_int1 rc_int (by rfl) b_int (by decide +kernel) (ea_cons (ev_ixL (nm 0 rfl) ev_int (Vs.vw (vsL w_pool_here)) (atG (E := D.int) h6)) ea_nil)) ev_int) (Vs.vw vsI) (atG (xs := ([(0 : Int), (0 : Int), (1000 : Int), (-(((10 : Int) : Int) ^ ((15 : Int) : Int).toNat))] : List Int)) (E := D.int) (mod_ix (k := 4) (by decide) (by decide)))) (fun v_base => ?_)
    show JC _ _ _ [some (d_pool_here), some (D.int v_shapes), some (D.int v_shape), some (D.int v_many), some (D.int v_count), some (D.str v_letters), some (D.int v_base), none, none, none, none] _ _ _
    refine jc_set (E := D.int) (v := ((ixL ([(0 : Int), (0 : Int), (0 : Int), (20 : Int), (((10 : Int) : Int) ^ ((16 : Int) : Int).toNat)] : List Int) (((ixL v_pool_here (2 : Int)) / (4 : Int)) % (5 : Int))) : Int)) 7 nd (ev_ixL (ev_new (en_lst (ea_cons ev_int (ea_cons ev_int (ea_cons ev_int (ea_cons ev_int (ea_cons (ev_op op_pow (rd_I ⟨by decide, by decide, by decide⟩) ev_int ev_int) ea_nil))))) (by show 5 ≤ sizeLine; decide))) (ev_op op_mod (rd_I (by decide)) (ev_op op_fdiv (rd_I ⟨by decide, by decide⟩) (ev_ixL (nm 0 rfl) ev_int (Vs.vw (vsL w_pool_here)) (atG (E := D.int) h6)) ev_int) ev_int) (Vs.vw vsI) (atG (xs := ([(0 : Int), (0 : Int), (0 : Int), (20 : Int), (((10 : Int) : Int) ^ ((16 : Int) : Int).toNat)] : List Int)) (E := D.int) (mod_ix (k := 5) (by decide) (by decide)))) (fun v_far => ?_)
    show JC _ _ _ [some (d_pool_here), some (D.int v_shapes), some (D.int v_shape), some (D.int v_many), some (D.int v_count), some (D.str v_letters), some (D.int v_base), some (D.int v_far), none, none, none] _ _ _
    refine jc_setN (E := dP2 D.str D.int) 8 nd (en_lst ea_nil (by show 0 ≤ sizeLine; decide)) (fun q7 v_marks _ => ?_)
    show JC _ _ _ [some (d_pool_here), some (D.int v_shapes), some (D.int v_shape), some (D.int v_many), some (D.int v_count), some (D.str v_letters), some (D.int v_base), some (D.int v_far), some (.rf q7), none, none] _ _ _
    refine jc_req fun h8 => ?_
    refine jc_seqN (st1 := (fun (v_marks : (List (Str × Int))) (ρ : List (Option D)) (O : Om) => ρ = [some (d_pool_here), some (D.int v_shapes), some (D.int v_shape), some (D.int v_many), some (D.int v_count), some (D.str v_letters), some (D.int v_base), some (D.int v_far), some (.rf q7), none, none] ∧ O = [(q7, M.lst (v_marks.map (dP2 D.str D.int)))])) (jc1_for (E := D.int) PassesOwn.never rfl (ei_rng1 (by rfl) b_range (ea_cons (nm 4 rfl) ea_nil) h8) (bnm 9 nd) (fun v_marks _ _ hst => by obtain ⟨rfl, rfl⟩ := hst; exact trivial) ⟨_, (wk_some rfl (wk_some rfl (wk_some rfl (wk_some rfl (wk_some rfl (wk_some rfl (wk_some rfl (wk_some rfl (wk_some rfl (wk_nn (wk_nn wk_nil))))))))))), rfl, rfl⟩ (fun v_k v_marks _ _ hst => ?_)) (fun v_marks _ _ hst => ?_)
    · obtain ⟨rfl, rfl⟩ := hst
      refine ⟨_, rfl, ?_⟩
      show JC _ _ _ [some (d_pool_here), some (D.int v_shapes), some (D.int v_shape), some (D.int v_many), some (D.int v_count), some (D.str v_letters), some (D.int v_base), some (D.int v_far), some (.rf q7), some (D.int v_k), none] _ _ _
      refine jc_req fun ⟨h9, h10⟩ => ?_
      refine jc_set (E := D.int) (v := ((((v_base + ((ixL v_pool_here ((4 : Int) + ((2 : Int) * v_k))) % (7 : Int))) - (3 : Int)) + (v_k * v_far)) : Int)) 10 nd (ev_op op_add rd_I0 (ev_op op_sub rd_I0 (ev_op op_add rd_I0 (nm 6 rfl) (ev_op op_mod (rd_I (by decide)) (ev_callTy call_int1 rc_int (by rfl) b_int (by decide +kernel) (ea_cons (ev_ixL (nm 0 rfl) (ev_op op_add rd_I0 ev_int (ev_op op_mul (rd_I (.inl ⟨by decide, by decide⟩)) ev_int (nm 9 rfl))) (Vs.vw (vsL w_pool_here)) (atG (E := D.int) h9)) ea_nil)) ev_int)) ev_int) (ev_op op_mul (rd_I h10) (nm 9 rfl) (nm 7 rfl))) (fun v_constant => ?_)
      show JC _ _ _ [some (d_pool_here), some (D.int v_shapes), some (D.int v_shape), some (D.int v_many), some (D.int v_count), some (D.str v_letters), some (D.int v_base), some (D.int v_far), some (.rf q7), some (D.int v_k), some (D.int v_constant)] _ _ _
      refine jc_req fun ⟨h11, h12, h13, h14, h15⟩ => ?_
      refine jc_append (E := dP2 D.str D.int) (v := ((cS (ixS v_letters ((ixL v_pool_here ((3 : Int) + ((2 : Int) * v_k))) % v_many))), v_constant)) (nm 8 rfl) (.head _) (ev_tup (ea_cons (ev_ixS (nm 5 rfl) (ev_op op_mod (rd_I h12) (ev_callTy call_int1 rc_int (by rfl) b_int (by decide +kernel) (ea_cons (ev_ixL (nm 0 rfl) (ev_op op_add rd_I0 ev_int (ev_op op_mul (rd_I (.inl ⟨by decide, by decide⟩)) ev_int (nm 9 rfl))) (Vs.vw (vsL w_pool_here)) (atG (E := D.int) h11)) ea_nil)) (nm 3 rfl)) h14 (atS2 h13)) (ea_cons (nm 10 rfl) ea_nil)) (by show 2 ≤ sizeLine; decide)) (fun _ => .head) h15 (fun v_marks => ?_)
      exact jc_nil ⟨_, (wk_some rfl (wk_some rfl (wk_some rfl (wk_some rfl (wk_some rfl (wk_some rfl (wk_some rfl (wk_some rfl (wk_some rfl (wk_none (wk_none wk_nil))))))))))), rfl, rfl⟩
    obtain ⟨rfl, rfl⟩ := hst
    show JC _ _ _ [some (d_pool_here), some (D.int v_shapes), some (D.int v_shape), some (D.int v_many), some (D.int v_count), some (D.str v_letters), some (D.int v_base), some (D.int v_far), some (.rf q7), none, none] _ _ _
    refine jc_frz 8 (.head) rfl ?_
    show JC _ _ _ [some (d_pool_here), some (D.int v_shapes), some (D.int v_shape), some (D.int v_many), some (D.int v_count), some (D.str v_letters), some (D.int v_base), some (D.int v_far), some (dL (dP2 D.str D.int) v_marks), none, none] _ _ _
    exact jc_ret (d := dP3 D.str (dL (dP2 D.str D.int)) D.int ((v_letters, v_marks, v_base) : Str × (List (Str × Int)) × Int)) (ev_tup (ea_cons (nm 5 rfl) (ea_cons (nm 8 rfl) (ea_cons (nm 6 rfl) ea_nil))) (by show 3 ≤ sizeLine; decide)) (.refl _)
def ar_law_ranking (ad : Ads) (L : Om) (ds : List D) (d : D) : Prop := ∃ (v_one : Int) (v_two : Int) (v_letters : Str) (d_marks : D) (v_marks : List (Str × Int)), ds = [D.int v_one, D.int v_two, D.str v_letters, d_marks] ∧ Vs L d_marks (v_marks.map (dP2 D.str D.int)) ∧ (m_law_ranking v_one v_two v_letters v_marks).ok ∧ d = eTr ((m_law_ranking v_one v_two v_letters v_marks).val)
abbrev s_law_ranking : Stmt := top 33
abbrev N_law_ranking : List Str := ["_law_one", "_law_two", "_law_letters", "_law_marks", "_law_mark", "_law_atom_here"]
theorem sc_law_ranking : FnScope N_law_ranking ["_law_one", "_law_two", "_law_letters", "_law_marks"] (defScope s_law_ranking) := ⟨rfl, rfl, rfl, by decide +kernel, rfl, by decide +kernel, by decide +kernel⟩
theorem ok_law_ranking {f : Addr} {fd : FuncData} (F : Fun K "_law_ranking" "_law_ranking" s_law_ranking f fd) (b_len : mg "len" = none) (b_int : mg "int" = none) (b_str : mg "str" = none) : FnOk P w K mg base CX0 (1) f fd ["_law_one", "_law_two", "_law_letters", "_law_marks"] (spP K (ar_law_ranking ad)) := by
  refine fn_pureV F sc_law_ranking (fun L ds d h => ?_) (fun cdv A outer s H E B ds d hr h => ?_)
  · obtain ⟨v_one, v_two, v_letters, d_marks, v_marks, rfl, _⟩ := h; rfl
  · obtain ⟨v_one, v_two, v_letters, d_marks, v_marks, rfl, w_marks, hok, rfl⟩ := h
    have nd := sc_law_ranking.nd
    refine (show JC _ B (defBody s_law_ranking) [some (D.int v_one), some (D.int v_two), some (D.str v_letters), some (d_marks), none, none] [] (aR (rtP eTr)) (m_law_ranking v_one v_two v_letters v_marks) from ?_) hok
    unfold m_law_ranking
    refine jc_ifr (et_w (ew_and (et_cmp op_gt rd_B0 (ev_conv (ev_callB call_len_seq (rc_len (Vw.vq (Vs.vw (vsL w_marks)))) (by rfl) b_len PySem.boot_len (ea_cons (nm 3 rfl) ea_nil)) (by rw [List.length_map])) ev_int (nomark _)) (fun hb1 => (ew_and1 (et_cmp op_eq rd_eqI (ev_op op_mod (rd_I (by decide)) (ev_callTy call_int1 rc_int (by rfl) b_int (by decide +kernel) (ea_cons (nm 0 rfl) ea_nil)) ev_int) ev_int (nomark _)))))) (fun hc2 => ?_) (fun hc2 => ?_)
    · refine jc_req fun ⟨h3, h4⟩ => ?_
      refine jc_set (E := dP2 D.str D.int) (v := ((ixL v_marks (v_two % (v_marks.length : Int))) : Str × Int)) 4 nd (ev_ixL (nm 3 rfl) (ev_op op_mod (rd_I h3) (ev_callTy call_int1 rc_int (by rfl) b_int (by decide +kernel) (ea_cons (nm 1 rfl) ea_nil)) (ev_conv (ev_callB call_len_seq (rc_len (Vw.vq (Vs.vw (vsL w_marks)))) (by rfl) b_len PySem.boot_len (ea_cons (nm 3 rfl) ea_nil)) (by rw [List.length_map]))) (Vs.vw (vsL w_marks)) (atG (E := dP2 D.str D.int) h4)) (fun v_mark => ?_)
      show JC _ _ _ [some (D.int v_one), some (D.int v_two), some (D.str v_letters), some (d_marks), some (dP2 D.str D.int v_mark), none] _ _ _
      refine jc_req fun ⟨h5, h6, h7⟩ => ?_
      refine jc_set (E := D.str) (v := (((v_mark.1 ++ (cS (ixS (Str.ofString "<>=") ((v_one / (4 : Int)) % (3 : Int))))) ++ (Str.ofString (toString v_mark.2))) : Str)) 5 nd (ev_op op_add_str (rd_addS h7) (ev_op op_add_str (rd_addS h5) (ev_ixT (nm 4 rfl) ev_int (by rfl)) (ev_ixS ev_str (ev_op op_mod (rd_I (by decide)) (ev_op op_fdiv (rd_I ⟨by decide, by decide⟩) (nm 0 rfl) ev_int) ev_int) (by decide) (atS2 (mod_ix (k := 3) (by decide) (by decide))))) (ev_callTy call_str_int (rc_strI h6) rfl b_str (by decide +kernel) (ea_cons (ev_ixT (nm 4 rfl) ev_int (by rfl)) ea_nil))) (fun v_atom_here => ?_)
      show JC _ _ _ [some (D.int v_one), some (D.int v_two), some (D.str v_letters), some (d_marks), some (dP2 D.str D.int v_mark), some (D.str v_atom_here)] _ _ _
      exact jc_ret (d := eTr ((Tr.bin (Str.ofString "and") (Tr.leaf v_atom_here) (Tr.un (Str.ofString "flip") (Tr.un (Str.ofString "not") (Tr.leaf v_atom_here)))) : Tr)) (ev_tup (ea_cons ev_str (ea_cons (nm 5 rfl) (ea_cons (ev_tup (ea_cons ev_str (ea_cons (ev_tup (ea_cons ev_str (ea_cons (nm 5 rfl) ea_nil)) (by show 2 ≤ sizeLine; decide)) ea_nil)) (by show 2 ≤ sizeLine; decide)) ea_nil))) (by show 3 ≤ sizeLine; decide)) (.refl _)
    · refine jc_req fun ⟨h8, h9, h10⟩ => ?_
      exact jc_ret (d := eTr ((Tr.leaf ((cS (ixS (Str.ofString "<>") (v_one % (2 : Int)))) ++ (cS (ixS v_letters (v_two % (v_letters.length : Int)))))) : Tr)) (ev_op op_add_str (rd_addS (by show 1 + 1 ≤ sizeLine; decide)) (ev_ixS ev_str (ev_op op_mod (rd_I (by decide)) (ev_callTy call_int1 rc_int (by rfl) b_int (by decide +kernel) (ea_cons (nm 0 rfl) ea_nil)) ev_int) (by decide) (atS2 (mod_ix (k := 2) (by decide) (by decide)))) (ev_ixS (nm 2 rfl) (ev_op op_mod (rd_I h9) (ev_callTy call_int1 rc_int (by rfl) b_int (by decide +kernel) (ea_cons (nm 1 rfl) ea_nil)) (ev_callB call_len_str (rc_lenS h8) rfl b_len PySem.boot_len (ea_cons (nm 2 rfl) ea_nil))) h8 (atS2 h10))) (.refl _)
def ar_law_order (ad : Ads) (L : Om) (ds : List D) (d : D) : Prop := ∃ (d_pool_here : D) (v_pool_here : List Int) (v_at : Int) (v_letters : Str) (d_marks : D) (v_marks : List (Str × Int)), ds = [d_pool_here, D.int v_at, D.str v_letters, d_marks] ∧ Vs L d_pool_here (v_pool_here.map D.int) ∧ Vs L d_marks (v_marks.map (dP2 D.str D.int)) ∧ (m_law_order v_pool_here v_at v_letters v_marks).ok ∧ d = eTr ((m_law_order v_pool_here v_at v_letters v_marks).val)
abbrev s_law_order : Stmt := top 34
abbrev N_law_order : List Str := ["_law_pool_here", "_law_at", "_law_letters", "_law_marks", "_law_one", "_law_two", "_law_three", "_law_shape"]
theorem sc_law_order : FnScope N_law_order ["_law_pool_here", "_law_at", "_law_letters", "_law_marks"] (defScope s_law_order) := ⟨rfl, rfl, rfl, by decide +kernel, rfl, by decide +kernel, by decide +kernel⟩
theorem ok_law_order {f : Addr} {fd : FuncData} (F : Fun K "_law_order" "_law_order" s_law_order f fd) (c_law_ranking : Cal P w K mg base CX0 1 "_law_ranking" (spP K (ar_law_ranking ad))) (b_int : mg "int" = none) : FnOk P w K mg base CX0 (2) f fd ["_law_pool_here", "_law_at", "_law_letters", "_law_marks"] (spP K (ar_law_order ad)) := by
  refine fn_pureV F sc_law_order (fun L ds d h => ?_) (fun cdv A outer s H E B ds d hr h => ?_)
  · obtain ⟨d_pool_here, v_pool_here, v_at, v_letters, d_marks, v_marks, rfl, _⟩ := h; rfl
  · obtain ⟨d_pool_here, v_pool_here, v_at, v_letters, d_marks, v_marks, rfl, w_pool_here, w_marks, hok, rfl⟩ := h
    have nd := sc_law_order.nd
    refine (show JC _ B (defBody s_law_order) [some (d_pool_here), some (D.int v_at), some (D.str v_letters), some (d_marks), none, none, none, none] [] (aR (rtP eTr)) (m_law_order v_pool_here v_at v_letters v_marks) from ?_) hok
    unfold m_law_order
    refine jc_req fun ⟨h1, h2, h3⟩ => ?_
    refine jc_set (E := eTr) (v := ((m_law_ranking (ixL v_pool_here (v_at + (1 : Int))) (ixL v_pool_here (v_at + (2 : Int))) v_letters v_marks).val : Tr)) 4 nd (ev_call c_law_ranking (hr.mono (by first | decide | omega)) rfl (ea_cons (ev_ixL (nm 0 rfl) (ev_op op_add rd_I0 (nm 1 rfl) ev_int) (Vs.vw (vsL w_pool_here)) (atG (E := D.int) h1)) (ea_cons (ev_ixL (nm 0 rfl) (ev_op op_add rd_I0 (nm 1 rfl) ev_int) (Vs.vw (vsL w_pool_here)) (atG (E := D.int) h2)) (ea_cons (nm 2 rfl) (ea_cons (nm 3 rfl) ea_nil)))) (by exact ⟨(ixL v_pool_here (v_at + (1 : Int))), (ixL v_pool_here (v_at + (2 : Int))), v_letters, _, v_marks, rfl, (vsL w_marks), h3, rfl⟩)) (fun v_one => ?_)
    show JC _ _ _ [some (d_pool_here), some (D.int v_at), some (D.str v_letters), some (d_marks), some (eTr v_one), none, none, none] _ _ _
    refine jc_req fun ⟨h4, h5, h6⟩ => ?_
    refine jc_set (E := eTr) (v := ((m_law_ranking (ixL v_pool_here (v_at + (3 : Int))) (ixL v_pool_here (v_at + (4 : Int))) v_letters v_marks).val : Tr)) 5 nd (ev_call c_law_ranking (hr.mono (by first | decide | omega)) rfl (ea_cons (ev_ixL (nm 0 rfl) (ev_op op_add rd_I0 (nm 1 rfl) ev_int) (Vs.vw (vsL w_pool_here)) (atG (E := D.int) h4)) (ea_cons (ev_ixL (nm 0 rfl) (ev_op op_add rd_I0 (nm 1 rfl) ev_int) (Vs.vw (vsL w_pool_here)) (atG (E := D.int) h5)) (ea_cons (nm 2 rfl) (ea_cons (nm 3 rfl) ea_nil)))) (by exact ⟨(ixL v_pool_here (v_at + (3 : Int))), (ixL v_pool_here (v_at + (4 : Int))), v_letters, _, v_marks, rfl, (vsL w_marks), h6, rfl⟩)) (fun v_two => ?_)
    show JC _ _ _ [some (d_pool_here), some (D.int v_at), some (D.str v_letters), some (d_marks), some (eTr v_one), some (eTr v_two), none, none] _ _ _
    refine jc_req fun ⟨h7, h8, h9⟩ => ?_
    refine jc_set (E := eTr) (v := ((m_law_ranking (ixL v_pool_here (v_at + (5 : Int))) (ixL v_pool_here (v_at + (6 : Int))) v_letters v_marks).val : Tr)) 6 nd (ev_call c_law_ranking (hr.mono (by first | decide | omega)) rfl (ea_cons (ev_ixL (nm 0 rfl) (ev_op op_add rd_I0 (nm 1 rfl) ev_int) (Vs.vw (vsL w_pool_here)) (atG (E := D.int) h7)) (ea_cons (ev_ixL (nm 0 rfl) (ev_op op_add rd_I0 (nm 1 rfl) ev_int) (Vs.vw (vsL w_pool_here)) (atG (E := D.int) h8)) (ea_cons (nm 2 rfl) (ea_cons (nm 3 rfl) ea_nil)))) (by exact ⟨(ixL v_pool_here (v_at + (5 : Int))), (ixL v_pool_here (v_at + (6 : Int))), v_letters, _, v_marks, rfl, (vsL w_marks), h9, rfl⟩)) (fun v_three => ?_)
    show JC _ _ _ [some (d_pool_here), some (D.int v_at), some (D.str v_letters), some (d_marks), some (eTr v_one), some (eTr v_two), some (eTr v_three), none] _ _ _
    refine jc_req fun h10 => ?_
    refine jc_set (E := D.int) (v := (((ixL v_pool_here v_at) % (8 : Int)) : Int)) 7 nd (ev_op op_mod (rd_I (by decide)) (ev_callTy call_int1 rc_int (by rfl) b_int (by decide +kernel) (ea_cons (ev_ixL (nm 0 rfl) (nm 1 rfl) (Vs.vw (vsL w_pool_here)) (atG (E := D.int) h10)) ea_nil)) ev_int) (fun v_shape => ?_)
    show JC _ _ _ [some (d_pool_here), some (D.int v_at), some (D.str v_letters), some (d_marks), some (eTr v_one), some (eTr v_two), some (eTr v_three), some (D.int v_shape)] _ _ _
    refine jc_ifr (et_cmp op_eq rd_eqI (nm 7 rfl) ev_int (nomark _)) (fun hc11 => ?_) (fun hc11 => ?_)
    · exact jc_ret (d := eTr (v_one : Tr)) (nm 4 rfl) (.refl _)
    · refine jc_ifr (et_cmp op_eq rd_eqI (nm 7 rfl) ev_int (nomark _)) (fun hc12 => ?_) (fun hc12 => ?_)
      · exact jc_ret (d := eTr ((Tr.bin (Str.ofString "else") v_one v_two) : Tr)) (ev_tup (ea_cons ev_str (ea_cons (nm 4 rfl) (ea_cons (nm 5 rfl) ea_nil))) (by show 3 ≤ sizeLine; decide)) (.refl _)
      · refine jc_ifr (et_cmp op_eq rd_eqI (nm 7 rfl) ev_int (nomark _)) (fun hc13 => ?_) (fun hc13 => ?_)
        · exact jc_ret (d := eTr ((Tr.bin (Str.ofString "pareto") v_one v_two) : Tr)) (ev_tup (ea_cons ev_str (ea_cons (nm 4 rfl) (ea_cons (nm 5 rfl) ea_nil))) (by show 3 ≤ sizeLine; decide)) (.refl _)
        · refine jc_ifr (et_cmp op_eq rd_eqI (nm 7 rfl) ev_int (nomark _)) (fun hc14 => ?_) (fun hc14 => ?_)
          · exact jc_ret (d := eTr ((Tr.bin (Str.ofString "and") v_one v_two) : Tr)) (ev_tup (ea_cons ev_str (ea_cons (nm 4 rfl) (ea_cons (nm 5 rfl) ea_nil))) (by show 3 ≤ sizeLine; decide)) (.refl _)
          · refine jc_ifr (et_cmp op_eq rd_eqI (nm 7 rfl) ev_int (nomark _)) (fun hc15 => ?_) (fun hc15 => ?_)
            · exact jc_ret (d := eTr ((Tr.bin (Str.ofString "else") v_one (Tr.bin (Str.ofString "pareto") v_two v_three)) : Tr)) (ev_tup (ea_cons ev_str (ea_cons (nm 4 rfl) (ea_cons (ev_tup (ea_cons ev_str (ea_cons (nm 5 rfl) (ea_cons (nm 6 rfl) ea_nil))) (by show 3 ≤ sizeLine; decide)) ea_nil))) (by show 3 ≤ sizeLine; decide)) (.refl _)
            · refine jc_ifr (et_cmp op_eq rd_eqI (nm 7 rfl) ev_int (nomark _)) (fun hc16 => ?_) (fun hc16 => ?_)
              · exact jc_ret (d := eTr ((Tr.bin (Str.ofString "pareto") v_one (Tr.bin (Str.ofString "else") v_two v_three)) : Tr)) (ev_tup (ea_cons ev_str (ea_cons (nm 4 rfl) (ea_cons (ev_tup (ea_cons ev_str (ea_cons (nm 5 rfl) (ea_cons (nm 6 rfl) ea_nil))) (by show 3 ≤ sizeLine; decide)) ea_nil))) (by show 3 ≤ sizeLine; decide)) (.refl _)
              · refine jc_ifr (et_cmp op_eq rd_eqI (nm 7 rfl) ev_int (nomark _)) (fun hc17 => ?_) (fun hc17 => ?_)
                · exact jc_ret (d := eTr ((Tr.un (Str.ofString "flip") (Tr.bin (Str.ofString "pareto") v_one v_two)) : Tr)) (ev_tup (ea_cons ev_str (ea_cons (ev_tup (ea_cons ev_str (ea_cons (nm 4 rfl) (ea_cons (nm 5 rfl) ea_nil))) (by show 3 ≤ sizeLine; decide)) ea_nil)) (by show 2 ≤ sizeLine; decide)) (.refl _)
                · exact jc_ret (d := eTr ((Tr.bin (Str.ofString "and") (Tr.bin (Str.ofString "else") v_one v_two) v_three) : Tr)) (ev_tup (ea_cons ev_str (ea_cons (ev_tup (ea_cons ev_str (ea_cons (nm 4 rfl) (ea_cons (nm 5 rfl) ea_nil))) (by show 3 ≤ sizeLine; decide)) (ea_cons (nm 6 rfl) ea_nil))) (by show 3 ≤ sizeLine; decide)) (.refl _)
def ar_law_leaf (ad : Ads) (L : Om) (ds : List D) (d : D) : Prop := ∃ (v_one : Int) (v_two : Int) (v_letters : Str) (d_marks : D) (v_marks : List (Str × Int)), ds = [D.int v_one, D.int v_two, D.str v_letters, d_marks] ∧ Vs L d_marks (v_marks.map (dP2 D.str D.int)) ∧ (m_law_leaf v_one v_two v_letters v_marks).ok ∧ d = D.str ((m_law_leaf v_one v_two v_letters v_marks).val)
abbrev s_law_leaf : Stmt := top 35
abbrev N_law_leaf : List Str := ["_law_one", "_law_two", "_law_letters", "_law_marks", "_law_mark"]
theorem sc_law_leaf : FnScope N_law_leaf ["_law_one", "_law_two", "_law_letters", "_law_marks"] (defScope s_law_leaf) := ⟨rfl, rfl, rfl, by decide +kernel, rfl, by decide +kernel, by decide +kernel⟩
theorem ok_law_leaf {f : Addr} {fd : FuncData} (F : Fun K "_law_leaf" "_law_leaf" s_law_leaf f fd) (b_len : mg "len" = none) (b_int : mg "int" = none) (b_str : mg "str" = none) : FnOk P w K mg base CX0 (1) f fd ["_law_one", "_law_two", "_law_letters", "_law_marks"] (spP K (ar_law_leaf ad)) := by
  refine fn_pureV F sc_law_leaf (fun L ds d h => ?_) (fun cdv A outer s H E B ds d hr h => ?_)
  · obtain ⟨v_one, v_two, v_letters, d_marks, v_marks, rfl, _⟩ := h; rfl
  · obtain ⟨v_one, v_two, v_letters, d_marks, v_marks, rfl, w_marks, hok, rfl⟩ := h
    have nd := sc_law_leaf.nd
    refine (show JC _ B (defBody s_law_leaf) [some (D.int v_one), some (D.int v_two), some (D.str v_letters), some (d_marks), none] [] (aR (rtP D.str)) (m_law_leaf v_one v_two v_letters v_marks) from ?_) hok
    unfold m_law_leaf
    refine jc_ifr (et_w (ew_and (et_cmp op_gt rd_B0 (ev_conv (ev_callB call_len_seq (rc_len (Vw.vq (Vs.vw (vsL w_marks)))) (by rfl) b_len PySem.boot_len (ea_cons (nm 3 rfl) ea_nil)) (by rw [List.length_map])) ev_int (nomark _)) (fun hb1 => (ew_and1 (et_cmp op_eq rd_eqI (ev_op op_mod (rd_I (by decide)) (ev_callTy call_int1 rc_int (by rfl) b_int (by decide +kernel) (ea_cons (nm 0 rfl) ea_nil)) ev_int) ev_int (nomark _)))))) (fun hc2 => ?_) (fun hc2 => ?_)
    · refine jc_req fun ⟨h3, h4⟩ => ?_
      refine jc_set (E := dP2 D.str D.int) (v := ((ixL v_marks (v_two % (v_marks.length : Int))) : Str × Int)) 4 nd (ev_ixL (nm 3 rfl) (ev_op op_mod (rd_I h3) (ev_callTy call_int1 rc_int (by rfl) b_int (by decide +kernel) (ea_cons (nm 1 rfl) ea_nil)) (ev_conv (ev_callB call_len_seq (rc_len (Vw.vq (Vs.vw (vsL w_marks)))) (by rfl) b_len PySem.boot_len (ea_cons (nm 3 rfl) ea_nil)) (by rw [List.length_map]))) (Vs.vw (vsL w_marks)) (atG (E := dP2 D.str D.int) h4)) (fun v_mark => ?_)
      show JC _ _ _ [some (D.int v_one), some (D.int v_two), some (D.str v_letters), some (d_marks), some (dP2 D.str D.int v_mark)] _ _ _
      refine jc_req fun ⟨h5, h6, h7⟩ => ?_
      exact jc_ret (d := D.str (((v_mark.1 ++ (cS (ixS (Str.ofString "<>=") ((v_two / (8 : Int)) % (3 : Int))))) ++ (Str.ofString (toString v_mark.2))) : Str)) (ev_op op_add_str (rd_addS h7) (ev_op op_add_str (rd_addS h5) (ev_ixT (nm 4 rfl) ev_int (by rfl)) (ev_ixS ev_str (ev_op op_mod (rd_I (by decide)) (ev_op op_fdiv (rd_I ⟨by decide, by decide⟩) (nm 1 rfl) ev_int) ev_int) (by decide) (atS2 (mod_ix (k := 3) (by decide) (by decide))))) (ev_callTy call_str_int (rc_strI h6) rfl b_str (by decide +kernel) (ea_cons (ev_ixT (nm 4 rfl) ev_int (by rfl)) ea_nil))) (.refl _)
    · refine jc_req fun ⟨h8, h9, h10⟩ => ?_
      exact jc_ret (d := D.str (((cS (ixS (Str.ofString "<>=") ((v_one / (3 : Int)) % (3 : Int)))) ++ (cS (ixS v_letters (v_two % (v_letters.length : Int))))) : Str)) (ev_op op_add_str (rd_addS (by show 1 + 1 ≤ sizeLine; decide)) (ev_ixS ev_str (ev_op op_mod (rd_I (by decide)) (ev_op op_fdiv (rd_I ⟨by decide, by decide⟩) (nm 0 rfl) ev_int) ev_int) (by decide) (atS2 (mod_ix (k := 3) (by decide) (by decide)))) (ev_ixS (nm 2 rfl) (ev_op op_mod (rd_I h9) (ev_callTy call_int1 rc_int (by rfl) b_int (by decide +kernel) (ea_cons (nm 1 rfl) ea_nil)) (ev_callB call_len_str (rc_lenS h8) rfl b_len PySem.boot_len (ea_cons (nm 2 rfl) ea_nil))) h8 (atS2 h10))) (.refl _)
def ar_law_under (ad : Ads) (L : Om) (ds : List D) (d : D) : Prop := ∃ (v_tree_here : Tr) (v_one : Int), ds = [eTr v_tree_here, D.int v_one] ∧ (m_law_under v_tree_here v_one).ok ∧ d = eTr ((m_law_under v_tree_here v_one).val)
abbrev s_law_under : Stmt := top 36
abbrev N_law_under : List Str := ["_law_tree_here", "_law_one"]
theorem sc_law_under : FnScope N_law_under ["_law_tree_here", "_law_one"] (defScope s_law_under) := ⟨rfl, rfl, rfl, by decide +kernel, rfl, by decide +kernel, by decide +kernel⟩
theorem ok_law_under {f : Addr} {fd : FuncData} (F : Fun K "_law_under" "_law_under" s_law_under f fd) (b_int : mg "int" = none) : FnOk P w K mg base CX0 (1) f fd ["_law_tree_here", "_law_one"] (spP K (ar_law_under ad)) := by
  refine fn_pureV F sc_law_under (fun L ds d h => ?_) (fun cdv A outer s H E B ds d hr h => ?_)
  · obtain ⟨v_tree_here, v_one, rfl, _⟩ := h; rfl
  · obtain ⟨v_tree_here, v_one, rfl, hok, rfl⟩ := h
    have nd := sc_law_under.nd
    refine (show JC _ B (defBody s_law_under) [some (eTr v_tree_here), some (D.int v_one)] [] (aR (rtP eTr)) (m_law_under v_tree_here v_one) from ?_) hok
    unfold m_law_under
    refine jc_ifr (et_cmp op_eq rd_eqI (ev_op op_mod (rd_I (by decide)) (ev_callTy call_int1 rc_int (by rfl) b_int (by decide +kernel) (ea_cons (nm 1 rfl) ea_nil)) ev_int) ev_int (nomark _)) (fun hc1 => ?_) (fun hc1 => ?_)
    · exact jc_ret (d := eTr ((Tr.un (Str.ofString "not") v_tree_here) : Tr)) (ev_tup (ea_cons ev_str (ea_cons (nm 0 rfl) ea_nil)) (by show 2 ≤ sizeLine; decide)) (.refl _)
    · refine jc_ifr (et_cmp op_eq rd_eqI (ev_op op_mod (rd_I (by decide)) (ev_callTy call_int1 rc_int (by rfl) b_int (by decide +kernel) (ea_cons (nm 1 rfl) ea_nil)) ev_int) ev_int (nomark _)) (fun hc2 => ?_) (fun hc2 => ?_)
      · exact jc_ret (d := eTr ((Tr.un (Str.ofString "flip") v_tree_here) : Tr)) (ev_tup (ea_cons ev_str (ea_cons (nm 0 rfl) ea_nil)) (by show 2 ≤ sizeLine; decide)) (.refl _)
      · exact jc_ret (d := eTr (v_tree_here : Tr)) (nm 0 rfl) (.refl _)
def ar_law_tree (ad : Ads) (L : Om) (ds : List D) (d : D) : Prop := ∃ (d_pool_here : D) (v_pool_here : List Int) (v_at : Int) (v_letters : Str) (d_marks : D) (v_marks : List (Str × Int)), ds = [d_pool_here, D.int v_at, D.str v_letters, d_marks] ∧ Vs L d_pool_here (v_pool_here.map D.int) ∧ Vs L d_marks (v_marks.map (dP2 D.str D.int)) ∧ (m_law_tree v_pool_here v_at v_letters v_marks).ok ∧ d = eTr ((m_law_tree v_pool_here v_at v_letters v_marks).val)
abbrev s_law_tree : Stmt := top 37
abbrev N_law_tree : List Str := ["_law_pool_here", "_law_at", "_law_letters", "_law_marks", "_law_words", "_law_one", "_law_two", "_law_three", "_law_first", "_law_second"]
theorem sc_law_tree : FnScope N_law_tree ["_law_pool_here", "_law_at", "_law_letters", "_law_marks"] (defScope s_law_tree) := ⟨rfl, rfl, rfl, by decide +kernel, rfl, by decide +kernel, by decide +kernel⟩
theorem ok_law_tree {f : Addr} {fd : FuncData} (F : Fun K "_law_tree" "_law_tree" s_law_tree f fd) (c_law_leaf : Cal P w K mg base CX0 1 "_law_leaf" (spP K (ar_law_leaf ad))) (c_law_under : Cal P w K mg base CX0 1 "_law_under" (spP K (ar_law_under ad))) (b_int : mg "int" = none) : FnOk P w K mg base CX0 (2) f fd ["_law_pool_here", "_law_at", "_law_letters", "_law_marks"] (spP K (ar_law_tree ad)) := by
  refine fn_pureV F sc_law_tree (fun L ds d h => ?_) (fun cdv A outer s H E B ds d hr h => ?_)
  · obtain ⟨d_pool_here, v_pool_here, v_at, v_letters, d_marks, v_marks, rfl, _⟩ := h; rfl
  · obtain ⟨d_pool_here, v_pool_here, v_at, v_letters, d_marks, v_marks, rfl, w_pool_here, w_marks, hok, rfl⟩ := h
    have nd := sc_law_tree.nd
    refine (show JC _ B (defBody s_law_tree) [some (d_pool_here), some (D.int v_at), some (D.str v_letters), some (d_marks), none, none, none, none, none, none] [] (aR (rtP eTr)) (m_law_tree v_pool_here v_at v_letters v_marks) from ?_) hok
    unfold m_law_tree
    refine jc_set (E := dL D.str) (v := ([(Str.ofString "and"), (Str.ofString "or"), (Str.ofString "else"), (Str.ofString "pareto")] : List Str)) 4 nd (ev_new (en_lst (ea_cons ev_str (ea_cons ev_str (ea_cons ev_str (ea_cons ev_str ea_nil)))) (by show 4 ≤ sizeLine; decide))) (fun v_words => ?_)
    show JC _ _ _ [some (d_pool_here), some (D.int v_at), some (D.str v_letters), some (d_marks), some (dL D.str v_words), none, none, none, none, none] _ _ _
    refine jc_req fun ⟨h1, h2, h3⟩ => ?_
    refine jc_set (E := D.str) (v := ((m_law_leaf (ixL v_pool_here v_at) (ixL v_pool_here (v_at + (1 : Int))) v_letters v_marks).val : Str)) 5 nd (ev_call c_law_leaf (hr.mono (by first | decide | omega)) rfl (ea_cons (ev_ixL (nm 0 rfl) (nm 1 rfl) (Vs.vw (vsL w_pool_here)) (atG (E := D.int) h1)) (ea_cons (ev_ixL (nm 0 rfl) (ev_op op_add rd_I0 (nm 1 rfl) ev_int) (Vs.vw (vsL w_pool_here)) (atG (E := D.int) h2)) (ea_cons (nm 2 rfl) (ea_cons (nm 3 rfl) ea_nil)))) (by exact ⟨(ixL v_pool_here v_at), (ixL v_pool_here (v_at + (1 : Int))), v_letters, _, v_marks, rfl, (vsL w_marks), h3, rfl⟩)) (fun v_one => ?_)
    show JC _ _ _ [some (d_pool_here), some (D.int v_at), some (D.str v_letters), some (d_marks), some (dL D.str v_words), some (D.str v_one), none, none, none, none] _ _ _
    refine jc_req fun ⟨h4, h5⟩ => ?_
    refine jc_set (E := eTr) (v := ((m_law_under (Tr.leaf v_one) (ixL v_pool_here (v_at + (2 : Int)))).val : Tr)) 5 nd (ev_call c_law_under (hr.mono (by first | decide | omega)) rfl (ea_cons (nm 5 rfl) (ea_cons (ev_ixL (nm 0 rfl) (ev_op op_add rd_I0 (nm 1 rfl) ev_int) (Vs.vw (vsL w_pool_here)) (atG (E := D.int) h4)) ea_nil)) (by exact ⟨(Tr.leaf v_one), (ixL v_pool_here (v_at + (2 : Int))), rfl, h5, rfl⟩)) (fun v_one => ?_)
    show JC _ _ _ [some (d_pool_here), some (D.int v_at), some (D.str v_letters), some (d_marks), some (dL D.str v_words), some (eTr v_one), none, none, none, none] _ _ _
    refine jc_req fun ⟨h6, h7, h8⟩ => ?_
    refine jc_set (E := D.str) (v := ((m_law_leaf (ixL v_pool_here (v_at + (3 : Int))) (ixL v_pool_here (v_at + (4 : Int))) v_letters v_marks).val : Str)) 6 nd (ev_call c_law_leaf (hr.mono (by first | decide | omega)) rfl (ea_cons (ev_ixL (nm 0 rfl) (ev_op op_add rd_I0 (nm 1 rfl) ev_int) (Vs.vw (vsL w_pool_here)) (atG (E := D.int) h6)) (ea_cons (ev_ixL (nm 0 rfl) (ev_op op_add rd_I0 (nm 1 rfl) ev_int) (Vs.vw (vsL w_pool_here)) (atG (E := D.int) h7)) (ea_cons (nm 2 rfl) (ea_cons (nm 3 rfl) ea_nil)))) (by exact ⟨(ixL v_pool_here (v_at + (3 : Int))), (ixL v_pool_here (v_at + (4 : Int))), v_letters, _, v_marks, rfl, (vsL w_marks), h8, rfl⟩)) (fun v_two => ?_)
    show JC _ _ _ [some (d_pool_here), some (D.int v_at), some (D.str v_letters), some (d_marks), some (dL D.str v_words), some (eTr v_one), some (D.str v_two), none, none, none] _ _ _
    refine jc_req fun ⟨h9, h10⟩ => ?_
    refine jc_set (E := eTr) (v := ((m_law_under (Tr.leaf v_two) (ixL v_pool_here (v_at + (5 : Int)))).val : Tr)) 6 nd (ev_call c_law_under (hr.mono (by first | decide | omega)) rfl (ea_cons (nm 6 rfl) (ea_cons (ev_ixL (nm 0 rfl) (ev_op op_add rd_I0 (nm 1 rfl) ev_int) (Vs.vw (vsL w_pool_here)) (atG (E := D.int) h9)) ea_nil)) (by exact ⟨(Tr.leaf v_two), (ixL v_pool_here (v_at + (5 : Int))), rfl, h10, rfl⟩)) (fun v_two => ?_)
    show JC _ _ _ [some (d_pool_here), some (D.int v_at), some (D.str v_letters), some (d_marks), some (dL D.str v_words), some (eTr v_one), some (eTr v_two), none, none, none] _ _ _
    refine jc_req fun ⟨h11, h12, h13⟩ => ?_
    refine jc_set (E := D.str) (v := ((m_law_leaf (ixL v_pool_here (v_at + (6 : Int))) (ixL v_pool_here (v_at + (7 : Int))) v_letters v_marks).val : Str)) 7 nd (ev_call c_law_leaf (hr.mono (by first | decide | omega)) rfl (ea_cons (ev_ixL (nm 0 rfl) (ev_op op_add rd_I0 (nm 1 rfl) ev_int) (Vs.vw (vsL w_pool_here)) (atG (E := D.int) h11)) (ea_cons (ev_ixL (nm 0 rfl) (ev_op op_add rd_I0 (nm 1 rfl) ev_int) (Vs.vw (vsL w_pool_here)) (atG (E := D.int) h12)) (ea_cons (nm 2 rfl) (ea_cons (nm 3 rfl) ea_nil)))) (by exact ⟨(ixL v_pool_here (v_at + (6 : Int))), (ixL v_pool_here (v_at + (7 : Int))), v_letters, _, v_marks, rfl, (vsL w_marks), h13, rfl⟩)) (fun v_three => ?_)
    show JC _ _ _ [some (d_pool_here), some (D.int v_at), some (D.str v_letters), some (d_marks), some (dL D.str v_words), some (eTr v_one), some (eTr v_two), some (D.str v_three), none, none] _ _ _
    refine jc_req fun ⟨h14, h15⟩ => ?_
    refine jc_set (E := eTr) (v := ((m_law_under (Tr.leaf v_three) (ixL v_pool_here (v_at + (8 : Int)))).val : Tr)) 7 nd (ev_call c_law_under (hr.mono (by first | decide | omega)) rfl (ea_cons (nm 7 rfl) (ea_cons (ev_ixL (nm 0 rfl) (ev_op op_add rd_I0 (nm 1 rfl) ev_int) (Vs.vw (vsL w_pool_here)) (atG (E := D.int) h14)) ea_nil)) (by exact ⟨(Tr.leaf v_three), (ixL v_pool_here (v_at + (8 : Int))), rfl, h15, rfl⟩)) (fun v_three => ?_)
    show JC _ _ _ [some (d_pool_here), some (D.int v_at), some (D.str v_letters), some (d_marks), some (dL D.str v_words), some (eTr v_one), some (eTr v_two), some (eTr v_three), none, none] _ _ _
    refine jc_req fun ⟨h16, h17⟩ => ?_
    refine jc_set (E := D.str) (v := ((ixL v_words ((ixL v_pool_here (v_at + (9 : Int))) % (4 : Int))) : Str)) 8 nd (ev_ixL (nm 4 rfl) (ev_op op_mod (rd_I (by decide)) (ev_callTy call_int1 rc_int (by rfl) b_int (by decide +kernel) (ea_cons (ev_ixL (nm 0 rfl) (ev_op op_add rd_I0 (nm 1 rfl) ev_int) (Vs.vw (vsL w_pool_here)) (atG (E := D.int) h16)) ea_nil)) ev_int) (Vs.vw vsI) (atG (E := D.str) h17)) (fun v_first => ?_)
    show JC _ _ _ [some (d_pool_here), some (D.int v_at), some (D.str v_letters), some (d_marks), some (dL D.str v_words), some (eTr v_one), some (eTr v_two), some (eTr v_three), some (D.str v_first), none] _ _ _
    refine jc_req fun ⟨h18, h19⟩ => ?_
    refine jc_set (E := D.str) (v := ((ixL v_words ((ixL v_pool_here (v_at + (10 : Int))) % (4 : Int))) : Str)) 9 nd (ev_ixL (nm 4 rfl) (ev_op op_mod (rd_I (by decide)) (ev_callTy call_int1 rc_int (by rfl) b_int (by decide +kernel) (ea_cons (ev_ixL (nm 0 rfl) (ev_op op_add rd_I0 (nm 1 rfl) ev_int) (Vs.vw (vsL w_pool_here)) (atG (E := D.int) h18)) ea_nil)) ev_int) (Vs.vw vsI) (atG (E := D.str) h19)) (fun v_second => ?_)
    show JC _ _ _ [some (d_pool_here), some (D.int v_at), some (D.str v_letters), some (d_marks), some (dL D.str v_words), some (eTr v_one), some (eTr v_two), some (eTr v_three), some (D.str v_first), some (D.str v_second)] _ _ _
    refine jc_req fun h20 => ?_
    refine jc_ifr (et_cmp op_eq rd_eqI (ev_op op_mod (rd_I (by decide)) (ev_callTy call_int1 rc_int (by rfl) b_int (by decide +kernel) (ea_cons (ev_ixL (nm 0 rfl) (ev_op op_add rd_I0 (nm 1 rfl) ev_int) (Vs.vw (vsL w_pool_here)) (atG (E := D.int) h20)) ea_nil)) ev_int) ev_int (nomark _)) (fun hc21 => ?_) (fun hc21 => ?_)
    · exact jc_ret (d := eTr (v_one : Tr)) (nm 5 rfl) (.refl _)
    · refine jc_ifr (et_cmp op_eq rd_eqI (ev_op op_mod (rd_I (by decide)) (ev_callTy call_int1 rc_int (by rfl) b_int (by decide +kernel) (ea_cons (ev_ixL (nm 0 rfl) (ev_op op_add rd_I0 (nm 1 rfl) ev_int) (Vs.vw (vsL w_pool_here)) (atG (E := D.int) h20)) ea_nil)) ev_int) ev_int (nomark _)) (fun hc22 => ?_) (fun hc22 => ?_)
      · exact jc_ret (d := eTr ((Tr.bin v_first v_one v_two) : Tr)) (ev_tup (ea_cons (nm 8 rfl) (ea_cons (nm 5 rfl) (ea_cons (nm 6 rfl) ea_nil))) (by show 3 ≤ sizeLine; decide)) (.refl _)
      · refine jc_ifr (et_cmp op_eq rd_eqI (ev_op op_mod (rd_I (by decide)) (ev_callTy call_int1 rc_int (by rfl) b_int (by decide +kernel) (ea_cons (ev_ixL (nm 0 rfl) (ev_op op_add rd_I0 (nm 1 rfl) ev_int) (Vs.vw (vsL w_pool_here)) (atG (E := D.int) h20)) ea_nil)) ev_int) ev_int (nomark _)) (fun hc23 => ?_) (fun hc23 => ?_)
        · refine jc_req fun h24 => ?_
          exact jc_ret (d := eTr ((m_law_under (Tr.bin v_first v_one (Tr.bin v_second v_two v_three)) ((ixL v_pool_here (v_at + (11 : Int))) / (4 : Int))).val : Tr)) (ev_call c_law_under (hr.mono (by first | decide | omega)) rfl (ea_cons (ev_tup (ea_cons (nm 8 rfl) (ea_cons (nm 5 rfl) (ea_cons (ev_tup (ea_cons (nm 9 rfl) (ea_cons (nm 6 rfl) (ea_cons (nm 7 rfl) ea_nil))) (by show 3 ≤ sizeLine; decide)) ea_nil))) (by show 3 ≤ sizeLine; decide)) (ea_cons (ev_op op_fdiv (rd_I ⟨by decide, by decide⟩) (ev_ixL (nm 0 rfl) (ev_op op_add rd_I0 (nm 1 rfl) ev_int) (Vs.vw (vsL w_pool_here)) (atG (E := D.int) h20)) ev_int) ea_nil)) (by exact ⟨(Tr.bin v_first v_one (Tr.bin v_second v_two v_three)), ((ixL v_pool_here (v_at + (11 : Int))) / (4 : Int)), rfl, h24, rfl⟩)) (.refl _)
        · refine jc_req fun h25 => ?_
          exact jc_ret (d := eTr ((m_law_under (Tr.bin v_first (Tr.bin v_second v_one v_two) v_three) ((ixL v_pool_here (v_at + (11 : Int))) / (4 : Int))).val : Tr)) (ev_call c_law_under (hr.mono (by first | decide | omega)) rfl (ea_cons (ev_tup (ea_cons (nm 8 rfl) (ea_cons (ev_tup (ea_cons (nm 9 rfl) (ea_cons (nm 5 rfl) (ea_cons (nm 6 rfl) ea_nil))) (by show 3 ≤ sizeLine; decide)) (ea_cons (nm 7 rfl) ea_nil))) (by show 3 ≤ sizeLine; decide)) (ea_cons (ev_op op_fdiv (rd_I ⟨by decide, by decide⟩) (ev_ixL (nm 0 rfl) (ev_op op_add rd_I0 (nm 1 rfl) ev_int) (Vs.vw (vsL w_pool_here)) (atG (E := D.int) h20)) ev_int) ea_nil)) (by exact ⟨(Tr.bin v_first (Tr.bin v_second v_one v_two) v_three), ((ixL v_pool_here (v_at + (11 : Int))) / (4 : Int)), rfl, h25, rfl⟩)) (.refl _)
def ar_law_any (ad : Ads) (L : Om) (ds : List D) (d : D) : Prop := ∃ (d_pool_here : D) (v_pool_here : List Int) (v_at : Int) (v_letters : Str) (d_marks : D) (v_marks : List (Str × Int)), ds = [d_pool_here, D.int v_at, D.str v_letters, d_marks] ∧ Vs L d_pool_here (v_pool_here.map D.int) ∧ Vs L d_marks (v_marks.map (dP2 D.str D.int)) ∧ (m_law_any v_pool_here v_at v_letters v_marks).ok ∧ d = eTr ((m_law_any v_pool_here v_at v_letters v_marks).val)
abbrev s_law_any : Stmt := top 38
abbrev N_law_any : List Str := ["_law_pool_here", "_law_at", "_law_letters", "_law_marks"]
theorem sc_law_any : FnScope N_law_any ["_law_pool_here", "_law_at", "_law_letters", "_law_marks"] (defScope s_law_any) := ⟨rfl, rfl, rfl, by decide +kernel, rfl, by decide +kernel, by decide +kernel⟩
theorem ok_law_any {f : Addr} {fd : FuncData} (F : Fun K "_law_any" "_law_any" s_law_any f fd) (b_int : mg "int" = none) (c_law_order : Cal P w K mg base CX0 2 "_law_order" (spP K (ar_law_order ad))) (c_law_tree : Cal P w K mg base CX0 2 "_law_tree" (spP K (ar_law_tree ad))) : FnOk P w K mg base CX0 (3) f fd ["_law_pool_here", "_law_at", "_law_letters", "_law_marks"] (spP K (ar_law_any ad)) := by
  refine fn_pureV F sc_law_any (fun L ds d h => ?_) (fun cdv A outer s H E B ds d hr h => ?_)
  · obtain ⟨d_pool_here, v_pool_here, v_at, v_letters, d_marks, v_marks, rfl, _⟩ := h; rfl
  · obtain ⟨d_pool_here, v_pool_here, v_at, v_letters, d_marks, v_marks, rfl, w_pool_here, w_marks, hok, rfl⟩ := h
    have nd := sc_law_any.nd
    refine (show JC _ B (defBody s_law_any) [some (d_pool_here), some (D.int v_at), some (D.str v_letters), some (d_marks)] [] (aR (rtP eTr)) (m_law_any v_pool_here v_at v_letters v_marks) from ?_) hok
    unfold m_law_any
    refine jc_req fun h1 => ?_
    refine jc_ifr (et_cmp op_eq rd_eqI (ev_op op_mod (rd_I (by decide)) (ev_callTy call_int1 rc_int (by rfl) b_int (by decide +kernel) (ea_cons (ev_ixL (nm 0 rfl) (nm 1 rfl) (Vs.vw (vsL w_pool_here)) (atG (E := D.int) h1)) ea_nil)) ev_int) ev_int (nomark _)) (fun hc2 => ?_) (fun hc2 => ?_)
    · refine jc_req fun h3 => ?_
      exact jc_ret (d := eTr ((m_law_order v_pool_here (v_at + (1 : Int)) v_letters v_marks).val : Tr)) (ev_call c_law_order (hr.mono (by first | decide | omega)) rfl (ea_cons (nm 0 rfl) (ea_cons (ev_op op_add rd_I0 (nm 1 rfl) ev_int) (ea_cons (nm 2 rfl) (ea_cons (nm 3 rfl) ea_nil)))) (by exact ⟨_, v_pool_here, (v_at + (1 : Int)), v_letters, _, v_marks, rfl, (vsL w_pool_here), (vsL w_marks), h3, rfl⟩)) (.refl _)
    · refine jc_req fun h4 => ?_
      exact jc_ret (d := eTr ((m_law_tree v_pool_here (v_at + (1 : Int)) v_letters v_marks).val : Tr)) (ev_call c_law_tree (hr.mono (by first | decide | omega)) rfl (ea_cons (nm 0 rfl) (ea_cons (ev_op op_add rd_I0 (nm 1 rfl) ev_int) (ea_cons (nm 2 rfl) (ea_cons (nm 3 rfl) ea_nil)))) (by exact ⟨_, v_pool_here, (v_at + (1 : Int)), v_letters, _, v_marks, rfl, (vsL w_pool_here), (vsL w_marks), h4, rfl⟩)) (.refl _)
def ar_law_value (ad : Ads) (L : Om) (ds : List D) (d : D) : Prop := ∃ (v_draw : Int) (v_base : Int), ds = [D.int v_draw, D.int v_base] ∧ (m_law_value v_draw v_base).ok ∧ d = D.int ((m_law_value v_draw v_base).val)
abbrev s_law_value : Stmt := top 39
abbrev N_law_value : List Str := ["_law_draw", "_law_base"]
theorem sc_law_value : FnScope N_law_value ["_law_draw", "_law_base"] (defScope s_law_value) := ⟨rfl, rfl, rfl, by decide +kernel, rfl, by decide +kernel, by decide +kernel⟩
theorem ok_law_value {f : Addr} {fd : FuncData} (F : Fun K "_law_value" "_law_value" s_law_value f fd) (b_int : mg "int" = none) : FnOk P w K mg base CX0 (1) f fd ["_law_draw", "_law_base"] (spP K (ar_law_value ad)) := by
  refine fn_pureV F sc_law_value (fun L ds d h => ?_) (fun cdv A outer s H E B ds d hr h => ?_)
  · obtain ⟨v_draw, v_base, rfl, _⟩ := h; rfl
  · obtain ⟨v_draw, v_base, rfl, hok, rfl⟩ := h
    have nd := sc_law_value.nd
    refine (show JC _ B (defBody s_law_value) [some (D.int v_draw), some (D.int v_base)] [] (aR (rtP D.int)) (m_law_value v_draw v_base) from ?_) hok
    unfold m_law_value
    refine jc_ifr (et_cmp op_eq rd_eqI (ev_op op_mod (rd_I (by decide)) (ev_callTy call_int1 rc_int (by rfl) b_int (by decide +kernel) (ea_cons (nm 0 rfl) ea_nil)) ev_int) ev_int (nomark _)) (fun hc1 => ?_) (fun hc1 => ?_)
    · exact jc_ret (d := D.int ((-(((10 : Int) : Int) ^ ((30 : Int) : Int).toNat)) : Int)) (ev_neg (ev_op op_pow (rd_I ⟨by decide, by decide, by decide⟩) ev_int ev_int)) (.refl _)
    · refine jc_ifr (et_cmp op_eq rd_eqI (ev_op op_mod (rd_I (by decide)) (ev_callTy call_int1 rc_int (by rfl) b_int (by decide +kernel) (ea_cons (nm 0 rfl) ea_nil)) ev_int) ev_int (nomark _)) (fun hc2 => ?_) (fun hc2 => ?_)
      · exact jc_ret (d := D.int ((((10 : Int) : Int) ^ ((30 : Int) : Int).toNat) : Int)) (ev_op op_pow (rd_I ⟨by decide, by decide, by decide⟩) ev_int ev_int) (.refl _)
      · exact jc_ret (d := D.int (((v_base + (v_draw % (11 : Int))) - (4 : Int)) : Int)) (ev_op op_sub rd_I0 (ev_op op_add rd_I0 (nm 1 rfl) (ev_op op_mod (rd_I (by decide)) (ev_callTy call_int1 rc_int (by rfl) b_int (by decide +kernel) (ea_cons (nm 0 rfl) ea_nil)) ev_int)) ev_int) (.refl _)
def ar_law_rows (ad : Ads) (L : Om) (ds : List D) (es : List D) : Prop := ∃ (d_script : D) (v_script : List Int) (v_start : Int) (v_many : Int) (v_base : Int), ds = [d_script, D.int v_start, D.int v_many, D.int v_base] ∧ Vw L d_script (v_script.map D.int) ∧ (m_law_rows v_script v_start v_many v_base).ok ∧ es = (m_law_rows v_script v_start v_many v_base).val.map dRow
abbrev s_law_rows : Stmt := top 40
abbrev N_law_rows : List Str := ["_law_script", "_law_start", "_law_many", "_law_base", "_law_rows_here", "_law_k", "_law_pool_here"]
theorem sc_law_rows : FnScope N_law_rows ["_law_script", "_law_start", "_law_many", "_law_base"] (defScope s_law_rows) := ⟨rfl, rfl, rfl, by decide +kernel, rfl, by decide +kernel, by decide +kernel⟩
theorem ok_law_rows {f : Addr} {fd : FuncData} (F : Fun K "_law_rows" "_law_rows" s_law_rows f fd) (b_range : mg "range" = none) (c_law_pool : Cal P w K mg base CX0 1 "_law_pool" (spN K (ar_law_pool ad))) (b_int : mg "int" = none) (c_law_value : Cal P w K mg base CX0 1 "_law_value" (spP K (ar_law_value ad))) : FnOk P w K mg base CX0 (2) f fd ["_law_script", "_law_start", "_law_many", "_law_base"] (spN K (ar_law_rows ad)) := by
  refine fn_newV F sc_law_rows (fun L ds d h => ?_) (fun cdv A outer s H E B ds d hr h => ?_)
  · obtain ⟨d_script, v_script, v_start, v_many, v_base, rfl, _⟩ := h; rfl
  · obtain ⟨d_script, v_script, v_start, v_many, v_base, rfl, w_script, hok, rfl⟩ := h
    have nd := sc_law_rows.nd
    refine (show JC _ B (defBody s_law_rows) [some (d_script), some (D.int v_start), some (D.int v_many), some (D.int v_base), none, none, none] [] (aR (rtN dRow)) (m_law_rows v_script v_start v_many v_base) from ?_) hok
    unfold m_law_rows
    refine jc_setN (E := dRow) 4 nd (en_lst ea_nil (by show 0 ≤ sizeLine; decide)) (fun q1 v_rows_here _ => ?_)
    show JC _ _ _ [some (d_script), some (D.int v_start), some (D.int v_many), some (D.int v_base), some (.rf q1), none, none] _ _ _
    refine jc_req fun h2 => ?_
    refine jc_seqN (st1 := (fun (v_rows_here : (List Row)) (ρ : List (Option D)) (O : Om) => ρ = [some (d_script), some (D.int v_start), some (D.int v_many), some (D.int v_base), some (.rf q1), none, none] ∧ O = [(q1, M.lst (v_rows_here.map dRow))])) (jc1_for (E := D.int) PassesOwn.never rfl (ei_rng1 (by rfl) b_range (ea_cons (nm 2 rfl) ea_nil) h2) (bnm 5 nd) (fun v_rows_here _ _ hst => by obtain ⟨rfl, rfl⟩ := hst; exact trivial) ⟨_, (wk_some rfl (wk_some rfl (wk_some rfl (wk_some rfl (wk_some rfl (wk_nn (wk_nn wk_nil))))))), rfl, rfl⟩ (fun v_k v_rows_here _ _ hst => ?_)) (fun v_rows_here _ _ hst => ?_)
    · obtain ⟨rfl, rfl⟩ := hst
      refine ⟨_, rfl, ?_⟩
      show JC _ _ _ [some (d_script), some (D.int v_start), some (D.int v_many), some (D.int v_base), some (.rf q1), some (D.int v_k), none] _ _ _
      refine jc_req fun h3 => ?_
      refine jc_set (E := dL D.int) (v := ((m_law_pool v_script (v_start + v_k) (4 : Int)).val : List Int)) 6 nd (ev_new (en_call c_law_pool (hr.mono (by first | decide | omega)) rfl (ea_cons (nm 0 rfl) (ea_cons (ev_op op_add rd_I0 (nm 1 rfl) (nm 5 rfl)) (ea_cons ev_int ea_nil))) (by exact ⟨_, v_script, (v_start + v_k), (4 : Int), rfl, (vwL w_script), h3, rfl⟩))) (fun v_pool_here => ?_)
      show JC _ _ _ [some (d_script), some (D.int v_start), some (D.int v_many), some (D.int v_base), some (.rf q1), some (D.int v_k), some (dL D.int v_pool_here)] _ _ _
      refine jc_req fun h5 => ?_
      refine jc_one (jc1_ite (et_w (ew_and (et_cmp op_gt rd_B0 (nm 5 rfl) ev_int (nomark _)) (fun hb4 => (ew_and1 (et_cmp op_eq rd_eqI (ev_op op_mod (rd_I (by decide)) (ev_callTy call_int1 rc_int (by rfl) b_int (by decide +kernel) (ea_cons (ev_ixL (nm 6 rfl) ev_int (Vs.vw vsI) (atG (E := D.int) (h5 hb4))) ea_nil)) ev_int) ev_int (nomark _)))))) (fun hc6 => ?_) (fun hc6 => ?_))
      · refine jc_req fun ⟨h7, h8, h9, h10⟩ => ?_
        refine jc_append (E := dRow) (v := (ixL v_rows_here ((ixL v_pool_here (0 : Int)) % v_k))) (nm 4 rfl) (.head _) (ev_ixL (nm 4 rfl) (ev_op op_mod (rd_I h8) (ev_callTy call_int1 rc_int (by rfl) b_int (by decide +kernel) (ea_cons (ev_ixL (nm 6 rfl) ev_int (Vs.vw vsI) (atG (E := D.int) h7)) ea_nil)) (nm 5 rfl)) (Vs.vw (vsM (.head _))) (atG (E := dRow) h9)) (fun _ => .head) h10 (fun v_rows_here => ?_)
        exact jc_nil ⟨_, (wk_some rfl (wk_some rfl (wk_some rfl (wk_some rfl (wk_some rfl (wk_none (wk_none wk_nil))))))), rfl, rfl⟩
      · refine jc_req fun ⟨h11, h12, h13, h14, h15, h16, h17⟩ => ?_
        refine jc_append (E := dRow) (v := ((m_law_value (ixL v_pool_here (0 : Int)) v_base).val, (m_law_value (ixL v_pool_here (1 : Int)) v_base).val, (m_law_value (ixL v_pool_here (2 : Int)) v_base).val)) (nm 4 rfl) (.head _) (ev_tup (ea_cons (ev_call c_law_value (hr.mono (by first | decide | omega)) rfl (ea_cons (ev_ixL (nm 6 rfl) ev_int (Vs.vw vsI) (atG (E := D.int) h11)) (ea_cons (nm 3 rfl) ea_nil)) (by exact ⟨(ixL v_pool_here (0 : Int)), v_base, rfl, h12, rfl⟩)) (ea_cons (ev_call c_law_value (hr.mono (by first | decide | omega)) rfl (ea_cons (ev_ixL (nm 6 rfl) ev_int (Vs.vw vsI) (atG (E := D.int) h13)) (ea_cons (nm 3 rfl) ea_nil)) (by exact ⟨(ixL v_pool_here (1 : Int)), v_base, rfl, h14, rfl⟩)) (ea_cons (ev_call c_law_value (hr.mono (by first | decide | omega)) rfl (ea_cons (ev_ixL (nm 6 rfl) ev_int (Vs.vw vsI) (atG (E := D.int) h15)) (ea_cons (nm 3 rfl) ea_nil)) (by exact ⟨(ixL v_pool_here (2 : Int)), v_base, rfl, h16, rfl⟩)) ea_nil))) (by show 3 ≤ sizeLine; decide)) (fun _ => .head) h17 (fun v_rows_here => ?_)
        exact jc_nil ⟨_, (wk_some rfl (wk_some rfl (wk_some rfl (wk_some rfl (wk_some rfl (wk_none (wk_none wk_nil))))))), rfl, rfl⟩
    obtain ⟨rfl, rfl⟩ := hst
    show JC _ _ _ [some (d_script), some (D.int v_start), some (D.int v_many), some (D.int v_base), some (.rf q1), none, none] _ _ _
    exact jc_ret (nm 4 rfl) ⟨_, rfl, rfl⟩
def ar_law_is_row (ad : Ads) (L : Om) (ds : List D) (d : D) : Prop := ∃ (v_row : Row), ds = [dRow v_row] ∧ (m_law_is_row v_row).ok ∧ d = D.bl ((m_law_is_row v_row).val)
abbrev s_law_is_row : Stmt := top 41
abbrev N_law_is_row : List Str := ["_law_row", "_law_value_here"]
theorem sc_law_is_row : FnScope N_law_is_row ["_law_row"] (defScope s_law_is_row) := ⟨rfl, rfl, rfl, by decide +kernel, rfl, by decide +kernel, by decide +kernel⟩
theorem ok_law_is_row {f : Addr} {fd : FuncData} (F : Fun K "_law_is_row" "_law_is_row" s_law_is_row f fd) (b_isinstance : mg "isinstance" = none) (b_tuple : mg "tuple" = none) (b_len : mg "len" = none) (b_int : mg "int" = none) (b_bool : mg "bool" = none) : FnOk P w K mg base CX0 (1) f fd ["_law_row"] (spP K (ar_law_is_row ad)) := by
  refine fn_pureV F sc_law_is_row (fun L ds d h => ?_) (fun cdv A outer s H E B ds d hr h => ?_)
  · obtain ⟨v_row, rfl, _⟩ := h; rfl
  · obtain ⟨v_row, rfl, hok, rfl⟩ := h
    have nd := sc_law_is_row.nd
    refine (show JC _ B (defBody s_law_is_row) [some (dRow v_row), none] [] (aR (rtP D.bl)) (m_law_is_row v_row) from ?_) hok
    unfold m_law_is_row
    refine jc_ifr (et_w (ew_or (et_not (et_of (ev_callB call_isi (rc_isi (c := "tuple") .tup (by rfl)) rfl b_isinstance (by decide +kernel) (ea_cons (nm 0 rfl) (ea_cons (ev_bltn (v := .ty "tuple") (u := .type "tuple") rfl b_tuple (by decide +kernel) rfl (fun _ => .ty _)) ea_nil))))) (fun hb1 => (ew_or1 (et_cmp op_ne rd_neI (ev_callB call_len_seq (rc_len (.inr rfl)) rfl b_len PySem.boot_len (ea_cons (nm 0 rfl) ea_nil)) ev_int (nomark _)))))) (fun hc2 => ?_) (fun hc2 => ?_)
    · exact jc_ret (d := D.bl (false : Bool)) ev_bl (.refl _)
    · refine jc_seqR (st1 := (fun (_ : Unit) (ρ : List (Option D)) (O : Om) => ρ = [some (dRow v_row), none] ∧ O = [])) (sl := fun (_ : Unit) _ _ => False) (ex := fun _ _ _ _ _ _ => False) (jc1_forC (E := D.int) PassesOwn.never rfl (ei_row (nm 0 rfl)) (bnm 1 nd) (fun _ _ _ hst => by obtain ⟨rfl, rfl⟩ := hst; exact trivial) ⟨_, (wk_some rfl (wk_nn wk_nil)), rfl, rfl⟩ (fun v_value_here _ _ _ hst => ?_)) (fun _ _ _ hst => ?_)
      · obtain ⟨rfl, rfl⟩ := hst
        refine ⟨_, rfl, ?_⟩
        show JC _ _ _ [some (dRow v_row), some (D.int v_value_here)] _ _ _
        refine jc_one (jc1_ite (et_w (ew_or (et_not (et_of (ev_callB call_isi (rc_isi (c := "int") .int (by rfl)) rfl b_isinstance (by decide +kernel) (ea_cons (nm 1 rfl) (ea_cons (ev_bltn (v := .ty "int") (u := .type "int") rfl b_int (by decide +kernel) rfl (fun _ => .ty _)) ea_nil))))) (fun hb3 => (ew_or1 (et_of (ev_callB call_isi (rc_isi (c := "bool") .int (by rfl)) rfl b_isinstance (by decide +kernel) (ea_cons (nm 1 rfl) (ea_cons (ev_bltn (v := .ty "bool") (u := .type "bool") rfl b_bool (by decide +kernel) rfl (fun _ => .ty _)) ea_nil)))))))) (fun hc4 => ?_) (fun hc4 => ?_))
        · exact jc_ret (d := D.bl (false : Bool)) ev_bl (.refl _)
        · exact jc_nil ⟨_, (wk_some rfl (wk_none wk_nil)), rfl, rfl⟩
      obtain ⟨rfl, rfl⟩ := hst
      show JC _ _ _ [some (dRow v_row), none] _ _ _
      exact jc_ret (d := D.bl (true : Bool)) ev_bl (.refl _)
def ar_law_is_rows (ad : Ads) (L : Om) (ds : List D) (d : D) : Prop := ∃ (d_answer : D) (v_answer : List Row) (d_rows_here : D) (v_rows_here : List Row), ds = [d_answer, d_rows_here] ∧ Vs L d_answer (v_answer.map dRow) ∧ Vs L d_rows_here (v_rows_here.map dRow) ∧ (m_law_is_rows v_answer v_rows_here).ok ∧ d = D.bl ((m_law_is_rows v_answer v_rows_here).val)
abbrev s_law_is_rows : Stmt := top 42
abbrev N_law_is_rows : List Str := ["_law_answer", "_law_rows_here", "_law_k"]
theorem sc_law_is_rows : FnScope N_law_is_rows ["_law_answer", "_law_rows_here"] (defScope s_law_is_rows) := ⟨rfl, rfl, rfl, by decide +kernel, rfl, by decide +kernel, by decide +kernel⟩
theorem ok_law_is_rows {f : Addr} {fd : FuncData} (F : Fun K "_law_is_rows" "_law_is_rows" s_law_is_rows f fd) (b_isinstance : mg "isinstance" = none) (b_list : mg "list" = none) (b_len : mg "len" = none) (b_range : mg "range" = none) (c_law_is_row : Cal P w K mg base CX0 1 "_law_is_row" (spP K (ar_law_is_row ad))) : FnOk P w K mg base CX0 (2) f fd ["_law_answer", "_law_rows_here"] (spP K (ar_law_is_rows ad)) := by
  refine fn_pureV F sc_law_is_rows (fun L ds d h => ?_) (fun cdv A outer s H E B ds d hr h => ?_)
  · obtain ⟨d_answer, v_answer, d_rows_here, v_rows_here, rfl, _⟩ := h; rfl
  · obtain ⟨d_answer, v_answer, d_rows_here, v_rows_here, rfl, w_answer, w_rows_here, hok, rfl⟩ := h
    have nd := sc_law_is_rows.nd
    refine (show JC _ B (defBody s_law_is_rows) [some (d_answer), some (d_rows_here), none] [] (aR (rtP D.bl)) (m_law_is_rows v_answer v_rows_here) from ?_) hok
    unfold m_law_is_rows
    refine jc_ifr (et_w (ew_or (et_not (et_of (ev_callB call_isi (rc_isi (c := "list") (dt_vs (vsL w_answer)) (by rfl)) rfl b_isinstance (by decide +kernel) (ea_cons (nm 0 rfl) (ea_cons (ev_bltn (v := .ty "list") (u := .type "list") rfl b_list (by decide +kernel) rfl (fun _ => .ty _)) ea_nil))))) (fun hb1 => (ew_or1 (et_cmp op_ne rd_neI (ev_conv (ev_callB call_len_seq (rc_len (Vw.vq (Vs.vw (vsL w_answer)))) (by rfl) b_len PySem.boot_len (ea_cons (nm 0 rfl) ea_nil)) (by rw [List.length_map])) (ev_conv (ev_callB call_len_seq (rc_len (Vw.vq (Vs.vw (vsL w_rows_here)))) (by rfl) b_len PySem.boot_len (ea_cons (nm 1 rfl) ea_nil)) (by rw [List.length_map])) (nomark _)))))) (fun hc2 => ?_) (fun hc2 => ?_)
    · exact jc_ret (d := D.bl (false : Bool)) ev_bl (.refl _)
    · refine jc_req fun h3 => ?_
      refine jc_seqR (st1 := (fun (_ : Unit) (ρ : List (Option D)) (O : Om) => ρ = [some (d_answer), some (d_rows_here), none] ∧ O = [])) (sl := fun (_ : Unit) _ _ => False) (ex := fun _ _ _ _ _ _ => False) (jc1_forC (E := D.int) PassesOwn.never rfl (ei_rng1 (by rfl) b_range (ea_cons (ev_conv (ev_callB call_len_seq (rc_len (Vw.vq (Vs.vw (vsL w_rows_here)))) (by rfl) b_len PySem.boot_len (ea_cons (nm 1 rfl) ea_nil)) (by rw [List.length_map])) ea_nil) h3) (bnm 2 nd) (fun _ _ _ hst => by obtain ⟨rfl, rfl⟩ := hst; exact trivial) ⟨_, (wk_some rfl (wk_some rfl (wk_nn wk_nil))), rfl, rfl⟩ (fun v_k _ _ _ hst => ?_)) (fun _ _ _ hst => ?_)
      · obtain ⟨rfl, rfl⟩ := hst
        refine ⟨_, rfl, ?_⟩
        show JC _ _ _ [some (d_answer), some (d_rows_here), some (D.int v_k)] _ _ _
        refine jc_req fun ⟨h4, h5, h7, h8⟩ => ?_
        refine jc_one (jc1_ite (et_w (ew_or (et_not (et_of (ev_call c_law_is_row (hr.mono (by first | decide | omega)) rfl (ea_cons (ev_ixL (nm 0 rfl) (nm 2 rfl) (Vs.vw (vsL w_answer)) (atG (E := dRow) h4)) ea_nil) (by exact ⟨(ixL v_answer v_k), rfl, h5, rfl⟩)))) (fun hb6 => (ew_or1 (et_cmp (op_neD hr.units) (rd_neD (x := (ixL v_answer v_k)) (y := (ixL v_rows_here v_k)) EqOk.row (by decide) vdI vdI (okR _) (okR _)) (ev_ixL (nm 0 rfl) (nm 2 rfl) (Vs.vw (vsL w_answer)) (atG (E := dRow) (h7 hb6))) (ev_ixL (nm 1 rfl) (nm 2 rfl) (Vs.vw (vsL w_rows_here)) (atG (E := dRow) (h8 hb6))) (nomark _)))))) (fun hc9 => ?_) (fun hc9 => ?_))
        · exact jc_ret (d := D.bl (false : Bool)) ev_bl (.refl _)
        · exact jc_nil ⟨_, (wk_some rfl (wk_some rfl (wk_none wk_nil))), rfl, rfl⟩
      obtain ⟨rfl, rfl⟩ := hst
      show JC _ _ _ [some (d_answer), some (d_rows_here), none] _ _ _
      exact jc_ret (d := D.bl (true : Bool)) ev_bl (.refl _)
def ar_law_pass (ad : Ads) (L : Om) (ds : List D) (d : D) : Prop := ∃ (v_tree_here : Tr) (d_rows_here : D) (v_rows_here : List Row) (v_room_here : Int), ds = [eTr v_tree_here, d_rows_here, D.int v_room_here] ∧ Vs L d_rows_here (v_rows_here.map dRow) ∧ (m_law_pass v_tree_here v_rows_here v_room_here).ok ∧ d = dL (dL dRow) ((m_law_pass v_tree_here v_rows_here v_room_here).val)
abbrev s_law_pass : Stmt := top 43
abbrev N_law_pass : List Str := ["_law_tree_here", "_law_rows_here", "_law_room_here", "_law_window", "_law_early", "_law_aside", "_law_row", "_law_left", "_law_k", "_law_one", "_law_settled"]
theorem sc_law_pass : FnScope N_law_pass ["_law_tree_here", "_law_rows_here", "_law_room_here"] (defScope s_law_pass) := ⟨rfl, rfl, rfl, by decide +kernel, rfl, by decide +kernel, by decide +kernel⟩
theorem ok_law_pass {f : Addr} {fd : FuncData} (F : Fun K "_law_pass" "_law_pass" s_law_pass f fd) (c_law_holds : Cal P w K mg base CX0 10 "_law_holds" (spP K (ar_law_holds 9 ad))) (b_len : mg "len" = none) (b_range : mg "range" = none) : FnOk P w K mg base CX0 (11) f fd ["_law_tree_here", "_law_rows_here", "_law_room_here"] (spP K (ar_law_pass ad)) := by
  refine fn_pureV F sc_law_pass (fun L ds d h => ?_) (fun cdv A outer s H E B ds d hr h => ?_)
  · obtain ⟨v_tree_here, d_rows_here, v_rows_here, v_room_here, rfl, _⟩ := h; rfl
  · obtain ⟨v_tree_here, d_rows_here, v_rows_here, v_room_here, rfl, w_rows_here, hok, rfl⟩ := h
    have nd := sc_law_pass.nd
    refine (show JC _ B (defBody s_law_pass) [some (eTr v_tree_here), some (d_rows_here), some (D.int v_room_here), none, none, none, none, none, none, none, none] [] (aR (rtP (dL (dL dRow)))) (m_law_pass v_tree_here v_rows_here v_room_here) from ?_) hok
    unfold m_law_pass
    refine jc_setN (E := dRow) 3 nd (en_lst ea_nil (by show 0 ≤ sizeLine; decide)) (fun q1 v_window _ => ?_)
    show JC _ _ _ [some (eTr v_tree_here), some (d_rows_here), some (D.int v_room_here), some (.rf q1), none, none, none, none, none, none, none] _ _ _
    refine jc_setN (E := D.bl) 4 nd (en_lst ea_nil (by show 0 ≤ sizeLine; decide)) (fun q2 v_early _ => ?_)
    show JC _ _ _ [some (eTr v_tree_here), some (d_rows_here), some (D.int v_room_here), some (.rf q1), some (.rf q2), none, none, none, none, none, none] _ _ _
    refine jc_setN (E := dRow) 5 nd (en_lst ea_nil (by show 0 ≤ sizeLine; decide)) (fun q3 v_aside _ => ?_)
    show JC _ _ _ [some (eTr v_tree_here), some (d_rows_here), some (D.int v_room_here), some (.rf q1), some (.rf q2), some (.rf q3), none, none, none, none, none] _ _ _
    refine jc_perm (.cons _ ((.swap _ _ _))) ?_
    refine jc_perm ((.swap _ _ _)) ?_
    refine jc_perm (.cons _ ((.swap _ _ _))) ?_
    refine jc_seqN (st1 := (fun ((v_window, v_early, v_aside) : (List Row) × (List Bool) × (List Row)) (ρ : List (Option D)) (O : Om) => ∃ q4 : Addr, ∃ q5 : Addr, ρ = [some (eTr v_tree_here), some (d_rows_here), some (D.int v_room_here), some (.rf q4), some (.rf q5), some (.rf q3), none, none, none, none, none] ∧ O = [(q4, M.lst (v_window.map dRow)), (q5, M.lst (v_early.map D.bl)), (q3, M.lst (v_aside.map dRow))])) (jc1_for (E := dRow) PassesOwn.never rfl (ei_list (nm 1 rfl) (Vs.vw (vsL w_rows_here))) (bnm 6 nd) (fun ⟨v_window, v_early, v_aside⟩ _ _ hst => by obtain ⟨q4, q5, rfl, rfl⟩ := hst; exact (Vs.vw (vsL w_rows_here))) ⟨_, (wk_some rfl (wk_some rfl (wk_some rfl (wk_some rfl (wk_some rfl (wk_some rfl (wk_nn (wk_nn (wk_nn (wk_nn (wk_nn wk_nil))))))))))), q1, q2, rfl, rfl⟩ (fun v_row ⟨v_window, v_early, v_aside⟩ _ _ hst => ?_)) (fun ⟨v_window, v_early, v_aside⟩ _ _ hst => ?_)
    · obtain ⟨q4, q5, rfl, rfl⟩ := hst
      refine ⟨_, rfl, ?_⟩
      show JC _ _ _ [some (eTr v_tree_here), some (d_rows_here), some (D.int v_room_here), some (.rf q4), some (.rf q5), some (.rf q3), some (dRow v_row), none, none, none, none] _ _ _
      refine jc_req fun ⟨h8, h10⟩ => ?_
      refine jc_one (jc1_ite (et_cmp op_eq rd_eqI (ev_conv (ev_callB call_len_seq (rc_len (Vw.vq (Vs.vw vsI))) (by rfl) b_len PySem.boot_len (ea_cons (ev_new (en_lcT (F := dRow) (pr := fun (x6 : Row) => (m_law_holds 9 v_tree_here x6 v_row).val) (el := fun (x6 : Row) => x6) [("_law_one", 9)] rfl nd (ei_list (nm 3 rfl) (Vs.vw (vsM (.head _)))) (Vs.vw (vsM (.head _))) (blkOk_by (by rfl)) (by rintro _ ⟨s, H, C, cl, fp, rfl⟩; exact (bnm 9 nd)) (by decide) (fun x6 hx7 => ⟨_, rfl, fun X' B' eL hX' => by obtain ⟨s, H, C, cl, fp, rfl⟩ := hX'; exact (ets_one (et_of (ev_call c_law_holds (hr.mono (by first | decide | omega)) rfl (ea_cons (nm 0 rfl) (ea_cons (nm 9 rfl) (ea_cons (nm 6 rfl) ea_nil))) (by exact ⟨v_tree_here, x6, v_row, rfl, (h8 x6 hx7), rfl⟩)))), fun hp9 X' B' eL hX' => by obtain ⟨s, H, C, cl, fp, rfl⟩ := hX'; exact (nm 9 rfl)⟩) h10)) ea_nil)) (by rw [List.length_map])) ev_int (nomark _)) (fun hc11 => ?_) (fun hc11 => ?_))
      · refine jc_req fun ⟨h12, h15, h16, h18⟩ => ?_
        refine jc_setLc (F := D.int) (pr := fun (x13 : Int) => (!((m_law_holds 9 v_tree_here v_row (ixL v_window x13)).val))) (el := fun (x13 : Int) => x13) [("_law_k", 8)] rfl nd (ei_rng1 (by rfl) b_range (ea_cons (ev_conv (ev_callB call_len_seq (rc_len (Vw.vq (Vs.vw (vsM (.head _))))) (by rfl) b_len PySem.boot_len (ea_cons (nm 3 rfl) ea_nil)) (by rw [List.length_map])) ea_nil) h12) trivial (blkOk_by (by rfl)) (by rintro _ ⟨s, H, C, cl, fp, rfl⟩; exact (bnm 8 nd)) (by decide) (fun x13 hx14 => ⟨_, rfl, fun X' B' eL hX' => by obtain ⟨s, H, C, cl, fp, rfl⟩ := hX'; exact (ets_one (et_not (et_of (ev_call c_law_holds (hr.mono (by first | decide | omega)) rfl (ea_cons (nm 0 rfl) (ea_cons (nm 6 rfl) (ea_cons (ev_ixL (nm 3 rfl) (nm 8 rfl) (Vs.vw (vsM (.head _))) (atG (E := dRow) (h15 x13 hx14))) ea_nil))) (by exact ⟨v_tree_here, v_row, (ixL v_window x13), rfl, (h16 x13 hx14), rfl⟩))))), fun hp17 X' B' eL hX' => by obtain ⟨s, H, C, cl, fp, rfl⟩ := hX'; exact (nm 8 rfl)⟩) h18 7 rfl rfl rfl (fun v_left => ?_)
        show JC _ _ _ [some (eTr v_tree_here), some (d_rows_here), some (D.int v_room_here), some (.rf q4), some (.rf q5), some (.rf q3), some (dRow v_row), some (dL D.int v_left), none, none, none] _ _ _
        refine jc_req fun ⟨h21, h22⟩ => ?_
        refine jc_setN (E := dRow) 3 nd (en_lcT (F := dRow) (pr := fun _ => true) (el := fun (x19 : Int) => (ixL v_window x19)) [("_law_k", 8)] rfl nd (ei_list (nm 7 rfl) (Vs.vw vsI)) (Vs.vw vsI) (blkOk_by (by rfl)) (by rintro _ ⟨s, H, C, cl, fp, rfl⟩; exact (bnm 8 nd)) (by decide) (fun x19 hx20 => ⟨_, rfl, fun X' B' eL hX' => by obtain ⟨s, H, C, cl, fp, rfl⟩ := hX'; exact ets_nil, fun _ X' B' eL hX' => by obtain ⟨s, H, C, cl, fp, rfl⟩ := hX'; exact (ev_ixL (nm 3 rfl) (nm 8 rfl) (Vs.vw (vsM (.head _))) (atG (E := dRow) (h21 x19 hx20)))⟩) h22) (fun q23 v_window _ => ?_)
        show JC _ _ _ [some (eTr v_tree_here), some (d_rows_here), some (D.int v_room_here), some (.rf q23), some (.rf q5), some (.rf q3), some (dRow v_row), some (dL D.int v_left), none, none, none] _ _ _
        refine jc_req fun h26 => ?_
        refine jc_setN (E := D.bl) 4 nd (en_lcT (F := D.bl) (pr := fun _ => true) (el := fun (x24 : Int) => (ixL v_early x24)) [("_law_k", 8)] rfl nd (ei_list (nm 7 rfl) (Vs.vw vsI)) (Vs.vw vsI) (blkOk_by (by rfl)) (by rintro _ ⟨s, H, C, cl, fp, rfl⟩; exact (bnm 8 nd)) (by decide) (fun x24 hx25 => ⟨_, rfl, fun X' B' eL hX' => by obtain ⟨s, H, C, cl, fp, rfl⟩ := hX'; exact ets_nil, fun _ X' B' eL hX' => by obtain ⟨s, H, C, cl, fp, rfl⟩ := hX'; exact (ev_ixL (nm 4 rfl) (nm 8 rfl) (Vs.vw (vsM (.tail _ (.tail _ (.head _))))) (atG (E := D.bl) (h26 x24 hx25)))⟩) h22) (fun q27 v_early _ => ?_)
        show JC _ _ _ [some (eTr v_tree_here), some (d_rows_here), some (D.int v_room_here), some (.rf q23), some (.rf q27), some (.rf q3), some (dRow v_row), some (dL D.int v_left), none, none, none] _ _ _
        refine jc_one (jc1_ite (et_cmp op_lt rd_B0 (ev_conv (ev_callB call_len_seq (rc_len (Vw.vq (Vs.vw (vsM (.tail _ (.head _)))))) (by rfl) b_len PySem.boot_len (ea_cons (nm 3 rfl) ea_nil)) (by rw [List.length_map])) (nm 2 rfl) (nomark _)) (fun hc28 => ?_) (fun hc28 => ?_))
        · refine jc_req fun h29 => ?_
          refine jc_append (E := dRow) (v := v_row) (nm 3 rfl) (.tail _ (.head _)) (nm 6 rfl) (fun _ => .tail (.head)) h29 (fun v_window => ?_)
          refine jc_req fun h30 => ?_
          refine jc_append (E := D.bl) (v := (decide ((v_aside.length : Int) = (0 : Int)))) (nm 4 rfl) (.head _) (ev_cmp op_eq rd_eqI (ev_conv (ev_callB call_len_seq (rc_len (Vw.vq (Vs.vw (vsM (.tail _ (.tail _ (.tail _ (.tail _ (.head _))))))))) (by rfl) b_len PySem.boot_len (ea_cons (nm 5 rfl) ea_nil)) (by rw [List.length_map])) ev_int (nomark _)) (fun _ => .head) h30 (fun v_early => ?_)
          refine jc_drp (.tail (.tail (.head))) ?_
          refine jc_drp (.tail (.tail (.head))) ?_
          refine jc_perm ((.swap _ _ _)) ?_
          exact jc_nil ⟨_, (wk_some rfl (wk_some rfl (wk_some rfl (wk_some rfl (wk_some rfl (wk_some rfl (wk_none (wk_none (wk_nn (wk_nn (wk_nn wk_nil))))))))))), q23, q27, rfl, rfl⟩
        · refine jc_req fun h31 => ?_
          refine jc_append (E := dRow) (v := v_row) (nm 5 rfl) (.tail _ (.tail _ (.tail _ (.tail _ (.head _))))) (nm 6 rfl) (fun _ => .tail (.tail (.tail (.tail (.head))))) h31 (fun v_aside => ?_)
          refine jc_drp (.tail (.tail (.head))) ?_
          refine jc_drp (.tail (.tail (.head))) ?_
          refine jc_perm ((.swap _ _ _)) ?_
          exact jc_nil ⟨_, (wk_some rfl (wk_some rfl (wk_some rfl (wk_some rfl (wk_some rfl (wk_some rfl (wk_none (wk_none (wk_nn (wk_nn (wk_nn wk_nil))))))))))), q23, q27, rfl, rfl⟩
      · exact jc_nil ⟨_, (wk_some rfl (wk_some rfl (wk_some rfl (wk_some rfl (wk_some rfl (wk_some rfl (wk_none (wk_nn (wk_nn (wk_nn (wk_nn wk_nil))))))))))), q4, q5, rfl, rfl⟩
    obtain ⟨q4, q5, rfl, rfl⟩ := hst
    show JC _ _ _ [some (eTr v_tree_here), some (d_rows_here), some (D.int v_room_here), some (.rf q4), some (.rf q5), some (.rf q3), none, none, none, none, none] _ _ _
    refine jc_req fun ⟨h32, h35, h37, h38⟩ => ?_
    refine jc_setLc (F := dRow) (pr := fun (x33 : Int) => (ixL v_early x33)) (el := fun (x33 : Int) => (ixL v_window x33)) [("_law_k", 8)] rfl nd (ei_rng1 (by rfl) b_range (ea_cons (ev_conv (ev_callB call_len_seq (rc_len (Vw.vq (Vs.vw (vsM (.head _))))) (by rfl) b_len PySem.boot_len (ea_cons (nm 3 rfl) ea_nil)) (by rw [List.length_map])) ea_nil) h32) trivial (blkOk_by (by rfl)) (by rintro _ ⟨s, H, C, cl, fp, rfl⟩; exact (bnm 8 nd)) (by decide) (fun x33 hx34 => ⟨_, rfl, fun X' B' eL hX' => by obtain ⟨s, H, C, cl, fp, rfl⟩ := hX'; exact (ets_one (et_of (ev_ixL (nm 4 rfl) (nm 8 rfl) (Vs.vw (vsM (.tail _ (.head _)))) (atG (E := D.bl) (h35 x33 hx34))))), fun hp36 X' B' eL hX' => by obtain ⟨s, H, C, cl, fp, rfl⟩ := hX'; exact (ev_ixL (nm 3 rfl) (nm 8 rfl) (Vs.vw (vsM (.head _))) (atG (E := dRow) (h37 x33 hx34 hp36)))⟩) h38 10 rfl rfl rfl (fun v_settled => ?_)
    show JC _ _ _ [some (eTr v_tree_here), some (d_rows_here), some (D.int v_room_here), some (.rf q4), some (.rf q5), some (.rf q3), none, none, none, none, some (dL dRow v_settled)] _ _ _
    refine jc_req fun ⟨h41, h43, h46, h48, h49⟩ => ?_
    exact jc_ret (d := dL (dL dRow) ([v_settled, ((((rangeL 0 (v_window.length : Int)).filter (fun (x44 : Int) => (!(ixL v_early x44)))).map (fun (x44 : Int) => (ixL v_window x44))) ++ v_aside)] : List (List Row))) (ev_new (en_lst (ea_cons (nm 10 rfl) (ea_cons (ev_new (en_cat (E := dRow) (xs := (((rangeL 0 (v_window.length : Int)).filter (fun (x44 : Int) => (!(ixL v_early x44)))).map (fun (x44 : Int) => (ixL v_window x44)))) (ys := v_aside) (ev_new (en_lcT (F := dRow) (pr := fun (x44 : Int) => (!(ixL v_early x44))) (el := fun (x44 : Int) => (ixL v_window x44)) [("_law_k", 8)] rfl nd (ei_rng1 (by rfl) b_range (ea_cons (ev_conv (ev_callB call_len_seq (rc_len (Vw.vq (Vs.vw (vsM (.head _))))) (by rfl) b_len PySem.boot_len (ea_cons (nm 3 rfl) ea_nil)) (by rw [List.length_map])) ea_nil) h32) trivial (blkOk_by (by rfl)) (by rintro _ ⟨s, H, C, cl, fp, rfl⟩; exact (bnm 8 nd)) (by decide) (fun x44 hx45 => ⟨_, rfl, fun X' B' eL hX' => by obtain ⟨s, H, C, cl, fp, rfl⟩ := hX'; exact (ets_one (et_not (et_of (ev_ixL (nm 4 rfl) (nm 8 rfl) (Vs.vw (vsM (.tail _ (.head _)))) (atG (E := D.bl) (h46 x44 hx45)))))), fun hp47 X' B' eL hX' => by obtain ⟨s, H, C, cl, fp, rfl⟩ := hX'; exact (ev_ixL (nm 3 rfl) (nm 8 rfl) (Vs.vw (vsM (.head _))) (atG (E := dRow) (h48 x44 hx45 hp47)))⟩) h38)) (nm 5 rfl) vsI (vsM (.tail _ (.tail _ (.head _)))) h49)) ea_nil)) (by show 2 ≤ sizeLine; decide))) (.refl _)
def ar_law_scanned (ad : Ads) (L : Om) (ds : List D) (d : D) : Prop := ∃ (v_tree_here : Tr) (d_rows_here : D) (v_rows_here : List Row) (v_room_here : Int), ds = [eTr v_tree_here, d_rows_here, D.int v_room_here] ∧ Vs L d_rows_here (v_rows_here.map dRow) ∧ (m_law_scanned v_tree_here v_rows_here v_room_here).ok ∧ d = dF2 (dL dRow) D.int ((m_law_scanned v_tree_here v_rows_here v_room_here).val)
abbrev s_law_scanned : Stmt := top 44
abbrev N_law_scanned : List Str := ["_law_tree_here", "_law_rows_here", "_law_room_here", "_law_result", "_law_passes", "_law_waiting", "_law_k", "_law_both"]
theorem sc_law_scanned : FnScope N_law_scanned ["_law_tree_here", "_law_rows_here", "_law_room_here"] (defScope s_law_scanned) := ⟨rfl, rfl, rfl, by decide +kernel, rfl, by decide +kernel, by decide +kernel⟩
theorem ok_law_scanned {f : Addr} {fd : FuncData} (F : Fun K "_law_scanned" "_law_scanned" s_law_scanned f fd) (b_list : mg "list" = none) (b_len : mg "len" = none) (b_range : mg "range" = none) (c_law_pass : Cal P w K mg base CX0 11 "_law_pass" (spP K (ar_law_pass ad))) : FnOk P w K mg base CX0 (12) f fd ["_law_tree_here", "_law_rows_here", "_law_room_here"] (spP K (ar_law_scanned ad)) := by
  refine fn_pureV F sc_law_scanned (fun L ds d h => ?_) (fun cdv A outer s H E B ds d hr h => ?_)
  · obtain ⟨v_tree_here, d_rows_here, v_rows_here, v_room_here, rfl, _⟩ := h; rfl
  · obtain ⟨v_tree_here, d_rows_here, v_rows_here, v_room_here, rfl, w_rows_here, hok, rfl⟩ := h
    have nd := sc_law_scanned.nd
    refine (show JC _ B (defBody s_law_scanned) [some (eTr v_tree_here), some (d_rows_here), some (D.int v_room_here), none, none, none, none, none] [] (aR (rtP (dF2 (dL dRow) D.int))) (m_law_scanned v_tree_here v_rows_here v_room_here) from ?_) hok
    unfold m_law_scanned
    refine jc_set (E := dL dRow) (v := ([] : List Row)) 3 nd (ev_new (en_lst ea_nil (by show 0 ≤ sizeLine; decide))) (fun v_result => ?_)
    show JC _ _ _ [some (eTr v_tree_here), some (d_rows_here), some (D.int v_room_here), some (dL dRow v_result), none, none, none, none] _ _ _
    refine jc_set (E := D.int) (v := ((0 : Int) : Int)) 4 nd ev_int (fun v_passes => ?_)
    show JC _ _ _ [some (eTr v_tree_here), some (d_rows_here), some (D.int v_room_here), some (dL dRow v_result), some (D.int v_passes), none, none, none] _ _ _
    refine jc_set (E := dL dRow) (v := (v_rows_here : List Row)) 5 nd (ev_new (en_callTy call_list_of (rcn_list (Vw.vq (Vs.vw (vsL w_rows_here)))) rfl b_list (by decide +kernel) (ea_cons (nm 1 rfl) ea_nil))) (fun v_waiting => ?_)
    show JC _ _ _ [some (eTr v_tree_here), some (d_rows_here), some (D.int v_room_here), some (dL dRow v_result), some (D.int v_passes), some (dL dRow v_waiting), none, none] _ _ _
    refine jc_req fun h1 => ?_
    refine jc_seqN (st1 := (fun ((v_result, v_passes, v_waiting) : (List Row) × Int × (List Row)) (ρ : List (Option D)) (O : Om) => ρ = [some (eTr v_tree_here), some (d_rows_here), some (D.int v_room_here), some (dL dRow v_result), some (D.int v_passes), some (dL dRow v_waiting), none, none] ∧ O = [])) (jc1_for (E := D.int) PassesOwn.never rfl (ei_rng1 (by rfl) b_range (ea_cons (ev_conv (ev_callB call_len_seq (rc_len (Vw.vq (Vs.vw (vsL w_rows_here)))) (by rfl) b_len PySem.boot_len (ea_cons (nm 1 rfl) ea_nil)) (by rw [List.length_map])) ea_nil) h1) (bnm 6 nd) (fun ⟨v_result, v_passes, v_waiting⟩ _ _ hst => by obtain ⟨rfl, rfl⟩ := hst; exact trivial) ⟨_, (wk_some rfl (wk_some rfl (wk_some rfl (wk_some rfl (wk_some rfl (wk_some rfl (wk_nn (wk_nn wk_nil)))))))), rfl, rfl⟩ (fun v_k ⟨v_result, v_passes, v_waiting⟩ _ _ hst => ?_)) (fun ⟨v_result, v_passes, v_waiting⟩ _ _ hst => ?_)
    · obtain ⟨rfl, rfl⟩ := hst
      refine ⟨_, rfl, ?_⟩
      show JC _ _ _ [some (eTr v_tree_here), some (d_rows_here), some (D.int v_room_here), some (dL dRow v_result), some (D.int v_passes), some (dL dRow v_waiting), some (D.int v_k), none] _ _ _
      refine jc_one (jc1_ite (et_cmp op_gt rd_B0 (ev_conv (ev_callB call_len_seq (rc_len (Vw.vq (Vs.vw vsI))) (by rfl) b_len PySem.boot_len (ea_cons (nm 5 rfl) ea_nil)) (by rw [List.length_map])) ev_int (nomark _)) (fun hc2 => ?_) (fun hc2 => ?_))
      · refine jc_req fun h3 => ?_
        refine jc_set (E := dL (dL dRow)) (v := ((m_law_pass v_tree_here v_waiting v_room_here).val : List (List Row))) 7 nd (ev_call c_law_pass (hr.mono (by first | decide | omega)) rfl (ea_cons (nm 0 rfl) (ea_cons (nm 5 rfl) (ea_cons (nm 2 rfl) ea_nil))) (by exact ⟨v_tree_here, _, v_waiting, v_room_here, rfl, vsI, h3, rfl⟩)) (fun v_both => ?_)
        show JC _ _ _ [some (eTr v_tree_here), some (d_rows_here), some (D.int v_room_here), some (dL dRow v_result), some (D.int v_passes), some (dL dRow v_waiting), some (D.int v_k), some (dL (dL dRow) v_both)] _ _ _
        refine jc_req fun ⟨h4, h5⟩ => ?_
        refine jc_set (E := dL dRow) (v := ((v_result ++ (ixL v_both (0 : Int))) : List Row)) 3 nd (ev_new (en_cat (E := dRow) (xs := v_result) (ys := (ixL v_both (0 : Int))) (nm 3 rfl) (ev_ixL (nm 7 rfl) ev_int (Vs.vw vsI) (atG (E := dL dRow) h4)) vsI vsI h5)) (fun v_result => ?_)
        show JC _ _ _ [some (eTr v_tree_here), some (d_rows_here), some (D.int v_room_here), some (dL dRow v_result), some (D.int v_passes), some (dL dRow v_waiting), some (D.int v_k), some (dL (dL dRow) v_both)] _ _ _
        refine jc_req fun h6 => ?_
        refine jc_set (E := dL dRow) (v := ((ixL v_both (1 : Int)) : List Row)) 5 nd (ev_ixL (nm 7 rfl) ev_int (Vs.vw vsI) (atG (E := dL dRow) h6)) (fun v_waiting => ?_)
        show JC _ _ _ [some (eTr v_tree_here), some (d_rows_here), some (D.int v_room_here), some (dL dRow v_result), some (D.int v_passes), some (dL dRow v_waiting), some (D.int v_k), some (dL (dL dRow) v_both)] _ _ _
        refine jc_set (E := D.int) (v := ((v_passes + (1 : Int)) : Int)) 4 nd (ev_op op_add rd_I0 (nm 4 rfl) ev_int) (fun v_passes => ?_)
        show JC _ _ _ [some (eTr v_tree_here), some (d_rows_here), some (D.int v_room_here), some (dL dRow v_result), some (D.int v_passes), some (dL dRow v_waiting), some (D.int v_k), some (dL (dL dRow) v_both)] _ _ _
        exact jc_nil ⟨_, (wk_some rfl (wk_some rfl (wk_some rfl (wk_some rfl (wk_some rfl (wk_some rfl (wk_none (wk_none wk_nil)))))))), rfl, rfl⟩
      · exact jc_nil ⟨_, (wk_some rfl (wk_some rfl (wk_some rfl (wk_some rfl (wk_some rfl (wk_some rfl (wk_none (wk_nn wk_nil)))))))), rfl, rfl⟩
    obtain ⟨rfl, rfl⟩ := hst
    show JC _ _ _ [some (eTr v_tree_here), some (d_rows_here), some (D.int v_room_here), some (dL dRow v_result), some (D.int v_passes), some (dL dRow v_waiting), none, none] _ _ _
    exact jc_ret (d := dF2 (dL dRow) D.int ((v_result, v_passes) : (List Row) × Int)) (ev_new (en_lst (ea_cons (nm 3 rfl) (ea_cons (nm 4 rfl) ea_nil)) (by show 2 ≤ sizeLine; decide))) (.refl _)
def ar_law_fine (ad : Ads) (L O : Om) (ds : List D) (d : D) (O2 : Om) : Prop := ∃ (q_reader : Addr) (v_reader : ReaderV) (v_tree_here : Tr) (d_rows_here : D) (v_rows_here : List Row) (v_room_here : Int), O = [(q_reader, M.ins ad.CReader fFReader ((fVReader ad) v_reader))] ∧ ds = [.rf q_reader, eTr v_tree_here, d_rows_here, D.int v_room_here] ∧ Vs L d_rows_here (v_rows_here.map dRow) ∧ (m_law_fine v_reader v_tree_here v_rows_here v_room_here).ok ∧ d = D.bl ((m_law_fine v_reader v_tree_here v_rows_here v_room_here).val.1) ∧ O2 = (fun (v_reader : ReaderV) => ([(q_reader, M.ins ad.CReader fFReader ((fVReader ad) v_reader))] : Om)) (m_law_fine v_reader v_tree_here v_rows_here v_room_here).val.2
abbrev s_law_fine : Stmt := top 45
abbrev N_law_fine : List Str := ["_law_reader", "_law_tree_here", "_law_rows_here", "_law_room_here", "_law_due", "_law_table", "_law_answer", "_law_passes"]
theorem sc_law_fine : FnScope N_law_fine ["_law_reader", "_law_tree_here", "_law_rows_here", "_law_room_here"] (defScope s_law_fine) := ⟨rfl, rfl, rfl, by decide +kernel, rfl, by decide +kernel, by decide +kernel⟩
theorem ok_law_fine {f : Addr} {fd : FuncData} (F : Fun K "_law_fine" "_law_fine" s_law_fine f fd) (c_law_scanned : Cal P w K mg base CX0 12 "_law_scanned" (spP K (ar_law_scanned ad))) (b_list : mg "list" = none) (Fm_Reader_scan_N : Fok P w K mg base CX0 7 ad.f_Reader_scan_N (spEN K (ar_Reader_scan_N ad))) (mt_Reader_scan_N : Meth K ad.CReader "scan" ad.f_Reader_scan_N) (k_Reader : Cls K ad.CReader) (c_law_is_rows : Cal P w K mg base CX0 2 "_law_is_rows" (spP K (ar_law_is_rows ad))) (na_Reader_passes : NoAttr K ad.CReader "passes") (b_isinstance : mg "isinstance" = none) (b_int : mg "int" = none) (b_bool : mg "bool" = none) : FnOk P w K mg base CX0 (13) f fd ["_law_reader", "_law_tree_here", "_law_rows_here", "_law_room_here"] (spE K (ar_law_fine ad)) := by
  refine fn_eff F sc_law_fine (fun L O ds d O2 h => ?_) (fun cdv A outer s H E B O ds d O2 hr h => ?_)
  · obtain ⟨q_reader, v_reader, v_tree_here, d_rows_here, v_rows_here, v_room_here, _, rfl, _⟩ := h; rfl
  · obtain ⟨q_reader, v_reader, v_tree_here, d_rows_here, v_rows_here, v_room_here, rfl, rfl, w_rows_here, hok, rfl, rfl⟩ := h
    have nd := sc_law_fine.nd
    refine (show JC _ B (defBody s_law_fine) [some (.rf q_reader), some (eTr v_tree_here), some (d_rows_here), some (D.int v_room_here), none, none, none, none] [(q_reader, M.ins ad.CReader fFReader ((fVReader ad) v_reader))] (aR (rtE D.bl (fun (v_reader : ReaderV) => ([(q_reader, M.ins ad.CReader fFReader ((fVReader ad) v_reader))] : Om)))) (m_law_fine v_reader v_tree_here v_rows_here v_room_here) from ?_) hok
    unfold m_law_fine
    refine jc_req fun h1 => ?_
    refine jc_set (E := dF2 (dL dRow) D.int) (v := ((m_law_scanned v_tree_here v_rows_here v_room_here).val : (List Row) × Int)) 4 nd (ev_call c_law_scanned (hr.mono (by first | decide | omega)) rfl (ea_cons (nm 1 rfl) (ea_cons (nm 2 rfl) (ea_cons (nm 3 rfl) ea_nil))) (by exact ⟨v_tree_here, _, v_rows_here, v_room_here, rfl, (vsL w_rows_here), h1, rfl⟩)) (fun v_due => ?_)
    show JC _ _ _ [some (.rf q_reader), some (eTr v_tree_here), some (d_rows_here), some (D.int v_room_here), some (dF2 (dL dRow) D.int v_due), none, none, none] _ _ _
    refine jc_set (E := dL dRow) (v := (v_rows_here : List Row)) 5 nd (ev_new (en_callTy call_list_of (rcn_list (Vw.vq (Vs.vw (vsL w_rows_here)))) rfl b_list (by decide +kernel) (ea_cons (nm 2 rfl) ea_nil))) (fun v_table => ?_)
    show JC _ _ _ [some (.rf q_reader), some (eTr v_tree_here), some (d_rows_here), some (D.int v_room_here), some (dF2 (dL dRow) D.int v_due), some (dL dRow v_table), none, none] _ _ _
    refine jc_setEN (E := dRow) (vals := (fVReader ad)) (v0 := v_reader) 6 nd (nm 0 rfl) k_Reader mt_Reader_scan_N Fm_Reader_scan_N (hr.mono (by first | decide | omega)) (ea_cons (nm 5 rfl) ea_nil) (by decide +kernel) (fun _ => .head) (fun hok _ _ => by exact ⟨_, v_reader, _, v_table, rfl, rfl, vsI, hok, rfl, rfl⟩) _ (fun q2 v_answer v_reader => ?_)
    show JC _ _ _ [some (.rf q_reader), some (eTr v_tree_here), some (d_rows_here), some (D.int v_room_here), some (dF2 (dL dRow) D.int v_due), some (dL dRow v_table), some (.rf q2), none] _ _ _
    refine jc_req fun h3 => ?_
    refine jc_ifr (et_w (ew_or (et_not (et_of (ev_call c_law_is_rows (hr.mono (by first | decide | omega)) rfl (ea_cons (nm 6 rfl) (ea_cons (ev_f1 (nm 4 rfl) ev_int) ea_nil)) (by exact ⟨_, v_answer, _, v_due.1, rfl, (vsM (.head _)), vsI, h3, rfl⟩)))) (fun hb4 => (ew_or1 (et_cmp (op_neD hr.units) (rd_neD (x := v_table) (y := v_rows_here) (EqOk.lst EqOk.row) (by decide) vdI (vdL w_rows_here) (okRs _) (okRs _)) (nm 5 rfl) (nm 2 rfl) (nomark _)))))) (fun hc5 => ?_) (fun hc5 => ?_)
    · refine jc_drp (.head) ?_
      exact jc_ret (d := D.bl (false : Bool)) ev_bl ⟨[], rfl, .refl _⟩
    · refine jc_req fun h6 => ?_
      refine jc_append (E := dRow) (v := ((7 : Int), (7 : Int), (7 : Int))) (nm 6 rfl) (.head _) (ev_tup (ea_cons ev_int (ea_cons ev_int (ea_cons ev_int ea_nil))) (by show 3 ≤ sizeLine; decide)) (fun _ => .head) h6 (fun v_answer => ?_)
      refine jc_ifr (et_cmp (op_neD hr.units) (rd_neD (x := v_table) (y := v_rows_here) (EqOk.lst EqOk.row) (by decide) vdI (vdL w_rows_here) (okRs _) (okRs _)) (nm 5 rfl) (nm 2 rfl) (nomark _)) (fun hc7 => ?_) (fun hc7 => ?_)
      · refine jc_drp (.head) ?_
        exact jc_ret (d := D.bl (false : Bool)) ev_bl ⟨[], rfl, .refl _⟩
      · refine jc_set (E := D.int) (v := (v_reader.passes : Int)) 7 nd (ev_fld (i := 1) (nm 0 rfl) (voM (.tail _ (.head _))) k_Reader na_Reader_passes (by decide +kernel) rfl) (fun v_passes => ?_)
        show JC _ _ _ [some (.rf q_reader), some (eTr v_tree_here), some (d_rows_here), some (D.int v_room_here), some (dF2 (dL dRow) D.int v_due), some (dL dRow v_table), some (.rf q2), some (D.int v_passes)] _ _ _
        refine jc_drp (.head) ?_
        exact jc_ret (d := D.bl ((true && ((!false) && (decide (v_passes = v_due.2)))) : Bool)) (ev_and (ev_callB call_isi (rc_isi (c := "int") .int (by rfl)) rfl b_isinstance (by decide +kernel) (ea_cons (nm 7 rfl) (ea_cons (ev_bltn (v := .ty "int") (u := .type "int") rfl b_int (by decide +kernel) rfl (fun _ => .ty _)) ea_nil))) (fun hb8 => (ev_and (ev_not (ev_callB call_isi (rc_isi (c := "bool") .int (by rfl)) rfl b_isinstance (by decide +kernel) (ea_cons (nm 7 rfl) (ea_cons (ev_bltn (v := .ty "bool") (u := .type "bool") rfl b_bool (by decide +kernel) rfl (fun _ => .ty _)) ea_nil)))) (fun hb9 => (ev_one (ev_cmp op_eq rd_eqI (nm 7 rfl) (ev_f2 (nm 4 rfl) ev_int) (nomark _))))))) ⟨[], rfl, .refl _⟩
def ar_law_room (ad : Ads) (L : Om) (ds : List D) (d : D) : Prop := ∃ (v_one : Int) (v_two : Int), ds = [D.int v_one, D.int v_two] ∧ (m_law_room v_one v_two).ok ∧ d = D.int ((m_law_room v_one v_two).val)
abbrev s_law_room : Stmt := top 46
abbrev N_law_room : List Str := ["_law_one", "_law_two"]
theorem sc_law_room : FnScope N_law_room ["_law_one", "_law_two"] (defScope s_law_room) := ⟨rfl, rfl, rfl, by decide +kernel, rfl, by decide +kernel, by decide +kernel⟩
theorem ok_law_room {f : Addr} {fd : FuncData} (F : Fun K "_law_room" "_law_room" s_law_room f fd) (b_int : mg "int" = none) : FnOk P w K mg base CX0 (1) f fd ["_law_one", "_law_two"] (spP K (ar_law_room ad)) := by
  refine fn_pureV F sc_law_room (fun L ds d h => ?_) (fun cdv A outer s H E B ds d hr h => ?_)
  · obtain ⟨v_one, v_two, rfl, _⟩ := h; rfl
  · obtain ⟨v_one, v_two, rfl, hok, rfl⟩ := h
    have nd := sc_law_room.nd
    refine (show JC _ B (defBody s_law_room) [some (D.int v_one), some (D.int v_two)] [] (aR (rtP D.int)) (m_law_room v_one v_two) from ?_) hok
    unfold m_law_room
    refine jc_ifr (et_cmp op_eq rd_eqI (ev_op op_mod (rd_I (by decide)) (ev_callTy call_int1 rc_int (by rfl) b_int (by decide +kernel) (ea_cons (nm 0 rfl) ea_nil)) ev_int) ev_int (nomark _)) (fun hc1 => ?_) (fun hc1 => ?_)
    · exact jc_ret (d := D.int (((6 : Int) + ((v_two * (2 : Int)) % (995 : Int))) : Int)) (ev_op op_add rd_I0 ev_int (ev_op op_mod (rd_I (by decide)) (ev_callTy call_int1 rc_int (by rfl) b_int (by decide +kernel) (ea_cons (ev_op op_mul (rd_I (.inr ⟨by decide, by decide⟩)) (nm 1 rfl) ev_int) ea_nil)) ev_int)) (.refl _)
    · exact jc_ret (d := D.int (((1 : Int) + (v_two % (5 : Int))) : Int)) (ev_op op_add rd_I0 ev_int (ev_op op_mod (rd_I (by decide)) (ev_callTy call_int1 rc_int (by rfl) b_int (by decide +kernel) (ea_cons (nm 1 rfl) ea_nil)) ev_int)) (.refl _)
def ar_law_steep (ad : Ads) (L : Om) (ds : List D) (d : D) : Prop := ∃ (v_many : Int) (v_spare : Int), ds = [D.int v_many, D.int v_spare] ∧ (m_law_steep v_many v_spare).ok ∧ d = D.bl ((m_law_steep v_many v_spare).val)
abbrev s_law_steep : Stmt := top 47
abbrev N_law_steep : List Str := ["_law_many", "_law_spare", "_law_rows_here", "_law_k", "_law_reader"]
theorem sc_law_steep : FnScope N_law_steep ["_law_many", "_law_spare"] (defScope s_law_steep) := ⟨rfl, rfl, rfl, by decide +kernel, rfl, by decide +kernel, by decide +kernel⟩
theorem ok_law_steep {f : Addr} {fd : FuncData} (F : Fun K "_law_steep" "_law_steep" s_law_steep f fd) (b_range : mg "range" = none) (g_Formula : mg "Formula" = some (.ref ad.CFormula)) (Fcm_Formula_read : Fok P w K mg base CX0 5 ad.f_Formula_read (spP K (ar_Formula_read ad))) (cm_Formula_read : ClX.CMet K ad.CFormula mcFormula "read" ad.p_Formula_read ad.f_Formula_read) (rd_Formula : ClX.CRead K ad.CFormula mcFormula) (mk_Reader : Mk K ad.CReader ad.f_Reader___init__) (kwi_Reader : KwInit P w K mg base 4 ad.f_Reader___init__ 1 ["room"] (spI K ad.CReader (ar_Reader___init__ ad))) (g_Reader : mg "Reader" = some (.ref ad.CReader)) (b_list : mg "list" = none) (Fm_Reader_scan : Fok P w K mg base CX0 7 ad.f_Reader_scan (spE K (ar_Reader_scan ad))) (mt_Reader_scan : Meth K ad.CReader "scan" ad.f_Reader_scan) (k_Reader : Cls K ad.CReader) (c_law_is_rows : Cal P w K mg base CX0 2 "_law_is_rows" (spP K (ar_law_is_rows ad))) (na_Reader_passes : NoAttr K ad.CReader "passes") (b_int : mg "int" = none) : FnOk P w K mg base CX0 (9) f fd ["_law_many", "_law_spare"] (spP K (ar_law_steep ad)) := by
  refine fn_pureV F sc_law_steep (fun L ds d h => ?_) (fun cdv A outer s H E B ds d hr h => ?_)
  · obtain ⟨v_many, v_spare, rfl, _⟩ := h; rfl
  · obtain ⟨v_many, v_spare, rfl, hok, rfl⟩ := h
    have nd := sc_law_steep.nd
    refine (show JC _ B (defBody s_law_steep) [some (D.int v_many), some (D.int v_spare), none, none, none] [] (aR (rtP D.bl)) (m_law_steep v_many v_spare) from ?_) hok
    unfold m_law_steep
    refine jc_req fun ⟨h1, h4⟩ => ?_
    refine jc_setLc (F := dP3 D.int D.int D.int) (pr := fun _ => true) (el := fun (x2 : Int) => (x2, (v_many - x2), (0 : Int))) [("_law_k", 3)] rfl nd (ei_rng1 (by rfl) b_range (ea_cons (nm 0 rfl) ea_nil) h1) trivial (blkOk_by (by rfl)) (by rintro _ ⟨s, H, C, cl, fp, rfl⟩; exact (bnm 3 nd)) (by decide) (fun x2 hx3 => ⟨_, rfl, fun X' B' eL hX' => by obtain ⟨s, H, C, cl, fp, rfl⟩ := hX'; exact ets_nil, fun _ X' B' eL hX' => by obtain ⟨s, H, C, cl, fp, rfl⟩ := hX'; exact (ev_tup (ea_cons (nm 3 rfl) (ea_cons (ev_op op_sub rd_I0 (nm 0 rfl) (nm 3 rfl)) (ea_cons ev_int ea_nil))) (by show 3 ≤ sizeLine; decide))⟩) h4 2 rfl rfl rfl (fun v_rows_here => ?_)
    show JC _ _ _ [some (D.int v_many), some (D.int v_spare), some (dL (dP3 D.int D.int D.int) v_rows_here), none, none] _ _ _
    refine jc_req fun ⟨h5, h6⟩ => ?_
    refine jc_setM (vals := (fVReader ad)) 4 nd (em_makeA mk_Reader kwi_Reader (hr.mono (by first | decide | omega)) rfl g_Reader (ea_cons (ev_cmeth (ev_glob (v := .ref ad.CFormula) rfl g_Formula rfl (fun _ => .rf _)) rd_Formula cm_Formula_read Fcm_Formula_read (hr.mono (by first | decide | omega)) (ea_cons ev_str ea_nil) (by exact ⟨(Str.ofString "pareto <a <b"), rfl, h5, rfl⟩) _) ea_nil) (ek_cons (ev_op op_sub rd_I0 (nm 0 rfl) (nm 1 rfl)) ek_nil) rfl (by exact ⟨(m_Formula_read (Str.ofString "pareto <a <b")).val, (v_many - v_spare), rfl, h6, rfl, rfl⟩)) (fun q7 v_reader _ => ?_)
    show JC _ _ _ [some (D.int v_many), some (D.int v_spare), some (dL (dP3 D.int D.int D.int) v_rows_here), none, some (.rf q7)] _ _ _
    refine jc_ifrG (st := (fun (v_reader : ReaderV) => ([(q7, M.ins ad.CReader fFReader ((fVReader ad) v_reader))] : Om))) ?_ (fun v_reader => ?_) (fun v_reader => ?_)
    · exact (etm_not (etm_of (egm_call (Eγ := dL dRow) (dsr := fun (y_ : List Row) _ => [dL (dP3 D.int D.int D.int) v_rows_here]) c_law_is_rows (hr.mono (by first | decide | omega)) rfl (egm_meth (vals := (fVReader ad)) (v0 := v_reader) (nm 4 rfl) k_Reader mt_Reader_scan Fm_Reader_scan (hr.mono (by first | decide | omega)) (ea_cons (ev_new (en_callTy call_list_of (rcn_list (Vw.vq (Vs.vw vsI))) rfl b_list (by decide +kernel) (ea_cons (nm 2 rfl) ea_nil))) ea_nil) (by decide +kernel) (fun _ => .head) (fun hok _ _ => by exact ⟨_, v_reader, _, v_rows_here, rfl, rfl, vsI, hok, rfl, rfl⟩) _) (fun y_ v_reader h8 => ⟨(ea_cons (nm 2 rfl) ea_nil), (by exact ⟨_, y_, _, v_rows_here, rfl, vsI, vsI, h8, rfl⟩)⟩))))
    · exact jc_ret (d := D.bl (false : Bool)) ev_bl (.refl _)
    · exact jc_ret (d := D.bl ((decide (v_reader.passes = ((1 : Int) + (if (decide (v_spare > (0 : Int))) = true then 1 else 0)))) : Bool)) (ev_cmp op_eq rd_eqI (ev_fld (i := 1) (nm 4 rfl) (voM (.head _)) k_Reader na_Reader_passes (by decide +kernel) rfl) (ev_op op_add rd_I0 ev_int (ev_callTy call_int1 rc_intB rfl b_int (by decide +kernel) (ea_cons (ev_cmp op_gt rd_B0 (nm 1 rfl) ev_int (nomark _)) ea_nil))) (nomark _)) (.refl _)
def ar_law_apart (ad : Ads) (L O : Om) (ds : List D) (d : D) (O2 : Om) : Prop := ∃ (q_reader : Addr) (v_reader : ReaderV) (v_tree_here : Tr) (d_rows_here : D) (v_rows_here : List Row) (d_others : D) (v_others : List Row) (v_room_here : Int), O = [(q_reader, M.ins ad.CReader fFReader ((fVReader ad) v_reader))] ∧ ds = [.rf q_reader, eTr v_tree_here, d_rows_here, d_others, D.int v_room_here] ∧ Vs L d_rows_here (v_rows_here.map dRow) ∧ Vs L d_others (v_others.map dRow) ∧ (m_law_apart v_reader v_tree_here v_rows_here v_others v_room_here).ok ∧ d = D.bl ((m_law_apart v_reader v_tree_here v_rows_here v_others v_room_here).val.1) ∧ O2 = (fun (v_reader : ReaderV) => ([(q_reader, M.ins ad.CReader fFReader ((fVReader ad) v_reader))] : Om)) (m_law_apart v_reader v_tree_here v_rows_here v_others v_room_here).val.2
abbrev s_law_apart : Stmt := top 48
abbrev N_law_apart : List Str := ["_law_reader", "_law_tree_here", "_law_rows_here", "_law_others", "_law_room_here", "_law_before", "_law_later", "_law_due"]
theorem sc_law_apart : FnScope N_law_apart ["_law_reader", "_law_tree_here", "_law_rows_here", "_law_others", "_law_room_here"] (defScope s_law_apart) := ⟨rfl, rfl, rfl, by decide +kernel, rfl, by decide +kernel, by decide +kernel⟩
theorem ok_law_apart {f : Addr} {fd : FuncData} (F : Fun K "_law_apart" "_law_apart" s_law_apart f fd) (b_list : mg "list" = none) (Fm_Reader_scan : Fok P w K mg base CX0 7 ad.f_Reader_scan (spE K (ar_Reader_scan ad))) (mt_Reader_scan : Meth K ad.CReader "scan" ad.f_Reader_scan) (k_Reader : Cls K ad.CReader) (c_law_scanned : Cal P w K mg base CX0 12 "_law_scanned" (spP K (ar_law_scanned ad))) (c_law_is_rows : Cal P w K mg base CX0 2 "_law_is_rows" (spP K (ar_law_is_rows ad))) : FnOk P w K mg base CX0 (13) f fd ["_law_reader", "_law_tree_here", "_law_rows_here", "_law_others", "_law_room_here"] (spE K (ar_law_apart ad)) := by
  refine fn_eff F sc_law_apart (fun L O ds d O2 h => ?_) (fun cdv A outer s H E B O ds d O2 hr h => ?_)
  · obtain ⟨q_reader, v_reader, v_tree_here, d_rows_here, v_rows_here, d_others, v_others, v_room_here, _, rfl, _⟩ := h; rfl
  · obtain ⟨q_reader, v_reader, v_tree_here, d_rows_here, v_rows_here, d_others, v_others, v_room_here, rfl, rfl, w_rows_here, w_others, hok, rfl, rfl⟩ := h
    have nd := sc_law_apart.nd
    refine (show JC _ B (defBody s_law_apart) [some (.rf q_reader), some (eTr v_tree_here), some (d_rows_here), some (d_others), some (D.int v_room_here), none, none, none] [(q_reader, M.ins ad.CReader fFReader ((fVReader ad) v_reader))] (aR (rtE D.bl (fun (v_reader : ReaderV) => ([(q_reader, M.ins ad.CReader fFReader ((fVReader ad) v_reader))] : Om)))) (m_law_apart v_reader v_tree_here v_rows_here v_others v_room_here) from ?_) hok
    unfold m_law_apart
    refine jc_setG (E := dL dRow) (st := (fun (v_reader : ReaderV) => ([(q_reader, M.ins ad.CReader fFReader ((fVReader ad) v_reader))] : Om))) 5 nd ?_ (fun v_before v_reader => ?_)
    · exact (egm_meth (vals := (fVReader ad)) (v0 := v_reader) (nm 0 rfl) k_Reader mt_Reader_scan Fm_Reader_scan (hr.mono (by first | decide | omega)) (ea_cons (ev_new (en_callTy call_list_of (rcn_list (Vw.vq (Vs.vw (vsL w_rows_here)))) rfl b_list (by decide +kernel) (ea_cons (nm 2 rfl) ea_nil))) ea_nil) (by decide +kernel) (fun _ => .head) (fun hok _ _ => by exact ⟨_, v_reader, _, v_rows_here, rfl, rfl, vsI, hok, rfl, rfl⟩) _)
    show JC _ _ _ [some (.rf q_reader), some (eTr v_tree_here), some (d_rows_here), some (d_others), some (D.int v_room_here), some (dL dRow v_before), none, none] _ _ _
    refine jc_setG (E := dL dRow) (st := (fun (v_reader : ReaderV) => ([(q_reader, M.ins ad.CReader fFReader ((fVReader ad) v_reader))] : Om))) 6 nd ?_ (fun v_later v_reader => ?_)
    · exact (egm_meth (vals := (fVReader ad)) (v0 := v_reader) (nm 0 rfl) k_Reader mt_Reader_scan Fm_Reader_scan (hr.mono (by first | decide | omega)) (ea_cons (ev_new (en_callTy call_list_of (rcn_list (Vw.vq (Vs.vw (vsL w_others)))) rfl b_list (by decide +kernel) (ea_cons (nm 3 rfl) ea_nil))) ea_nil) (by decide +kernel) (fun _ => .head) (fun hok _ _ => by exact ⟨_, v_reader, _, v_others, rfl, rfl, vsI, hok, rfl, rfl⟩) _)
    show JC _ _ _ [some (.rf q_reader), some (eTr v_tree_here), some (d_rows_here), some (d_others), some (D.int v_room_here), some (dL dRow v_before), some (dL dRow v_later), none] _ _ _
    refine jc_req fun h1 => ?_
    refine jc_set (E := dF2 (dL dRow) D.int) (v := ((m_law_scanned v_tree_here v_rows_here v_room_here).val : (List Row) × Int)) 7 nd (ev_call c_law_scanned (hr.mono (by first | decide | omega)) rfl (ea_cons (nm 1 rfl) (ea_cons (nm 2 rfl) (ea_cons (nm 4 rfl) ea_nil))) (by exact ⟨v_tree_here, _, v_rows_here, v_room_here, rfl, (vsL w_rows_here), h1, rfl⟩)) (fun v_due => ?_)
    show JC _ _ _ [some (.rf q_reader), some (eTr v_tree_here), some (d_rows_here), some (d_others), some (D.int v_room_here), some (dL dRow v_before), some (dL dRow v_later), some (dF2 (dL dRow) D.int v_due)] _ _ _
    refine jc_req fun ⟨h2, h4, h5⟩ => ?_
    exact jc_ret (d := D.bl ((((m_law_is_rows v_before v_due.1).val) && ((m_law_is_rows v_later (((m_law_scanned v_tree_here v_others v_room_here).val).1)).val)) : Bool)) (ev_and (ev_call c_law_is_rows (hr.mono (by first | decide | omega)) rfl (ea_cons (nm 5 rfl) (ea_cons (ev_f1 (nm 7 rfl) ev_int) ea_nil)) (by exact ⟨_, v_before, _, v_due.1, rfl, vsI, vsI, h2, rfl⟩)) (fun hb3 => (ev_one (ev_call c_law_is_rows (hr.mono (by first | decide | omega)) rfl (ea_cons (nm 6 rfl) (ea_cons (ev_f1 (ev_call c_law_scanned (hr.mono (by first | decide | omega)) rfl (ea_cons (nm 1 rfl) (ea_cons (nm 3 rfl) (ea_cons (nm 4 rfl) ea_nil))) (by exact ⟨v_tree_here, _, v_others, v_room_here, rfl, (vsL w_others), (h4 hb3), rfl⟩)) ev_int) ea_nil)) (by exact ⟨_, v_later, _, ((m_law_scanned v_tree_here v_others v_room_here).val).1, rfl, vsI, vsI, (h5 hb3), rfl⟩))))) ⟨[], rfl, .refl _⟩
def ar_law (ad : Ads) (L : Om) (ds : List D) (d : D) : Prop := ∃ (d_script : D) (v_script : List Int), ds = [d_script] ∧ Vw L d_script (v_script.map D.int) ∧ (m_law v_script).ok ∧ d = D.bl ((m_law v_script).val)
abbrev s_law : Stmt := top 49
abbrev N_law : List Str := ["_law_script", "_law_pool_here", "_law_letters", "_law_marks", "_law_base", "_law_tree_here", "_law_far", "_law_rows_here", "_law_others", "_law_room_here", "_law_wide", "_law_formula", "_law_reader", "_law_plain", "_law_passes", "_law_table"]
theorem sc_law : FnScope N_law ["_law_script"] (defScope s_law) := ⟨rfl, rfl, rfl, by decide +kernel, rfl, by decide +kernel, by decide +kernel⟩
theorem ok_law {f : Addr} {fd : FuncData} (F : Fun K "law" "law" s_law f fd) (c_law_pool : Cal P w K mg base CX0 1 "_law_pool" (spN K (ar_law_pool ad))) (c_law_frame : Cal P w K mg base CX0 1 "_law_frame" (spP K (ar_law_frame ad))) (c_law_any : Cal P w K mg base CX0 3 "_law_any" (spP K (ar_law_any ad))) (b_int : mg "int" = none) (c_law_rows : Cal P w K mg base CX0 2 "_law_rows" (spN K (ar_law_rows ad))) (c_law_room : Cal P w K mg base CX0 1 "_law_room" (spP K (ar_law_room ad))) (g_Formula : mg "Formula" = some (.ref ad.CFormula)) (c_law_text : Cal P w K mg base CX0 9 "_law_text" (spP K (ar_law_text 9 ad))) (Fcm_Formula_read : Fok P w K mg base CX0 5 ad.f_Formula_read (spP K (ar_Formula_read ad))) (cm_Formula_read : ClX.CMet K ad.CFormula mcFormula "read" ad.p_Formula_read ad.f_Formula_read) (rd_Formula : ClX.CRead K ad.CFormula mcFormula) (mk_Reader : Mk K ad.CReader ad.f_Reader___init__) (kwi_Reader : KwInit P w K mg base 4 ad.f_Reader___init__ 1 ["room"] (spI K ad.CReader (ar_Reader___init__ ad))) (g_Reader : mg "Reader" = some (.ref ad.CReader)) (kwd_Reader : KwDef P w K mg base 4 ad.f_Reader___init__ [.int 2] (spI K ad.CReader (ar_Reader___init__ ad))) (k_Reader : Cls K ad.CReader) (na_Reader_passes : NoAttr K ad.CReader "passes") (Fp_Reader_room : Fok P w K mg base CX0 1 ad.f_Reader_room (spP K (ar_Reader_room ad))) (p_Reader_room : PropOf K ad.CReader "room" ad.p_Reader_room ad.f_Reader_room) (c_law_fine : Cal P w K mg base CX0 13 "_law_fine" (spE K (ar_law_fine ad))) (c_law_scanned : Cal P w K mg base CX0 12 "_law_scanned" (spP K (ar_law_scanned ad))) (Fm_Reader_resize : Fok P w K mg base CX0 4 ad.f_Reader_resize (spE K (ar_Reader_resize ad))) (mt_Reader_resize : Meth K ad.CReader "resize" ad.f_Reader_resize) (c_law_apart : Cal P w K mg base CX0 13 "_law_apart" (spE K (ar_law_apart ad))) (c_law_steep : Cal P w K mg base CX0 9 "_law_steep" (spP K (ar_law_steep ad))) : FnOk P w K mg base CX0 (14) f fd ["_law_script"] (spP K (ar_law ad)) := by
  refine fn_pureV F sc_law (fun L ds d h => ?_) (fun cdv A outer s H E B ds d hr h => ?_)
  · obtain ⟨d_script, v_script, rfl, _⟩ := h; rfl
  · obtain ⟨d_script, v_script, rfl, w_script, hok, rfl⟩ := h
    have nd := sc_law.nd
    refine (show JC _ B (defBody s_law) [some (d_script), none, none, none, none, none, none, none, none, none, none, none, none, none, none, none] [] (aR (rtP D.bl)) (m_law v_script) from ?_) hok
    unfold m_law
    refine jc_req fun h1 => ?_
    refine jc_set (E := dL D.int) (v := ((m_law_pool v_script (0 : Int) (28 : Int)).val : List Int)) 1 nd (ev_new (en_call c_law_pool (hr.mono (by first | decide | omega)) rfl (ea_cons (nm 0 rfl) (ea_cons ev_int (ea_cons ev_int ea_nil))) (by exact ⟨_, v_script, (0 : Int), (28 : Int), rfl, (vwL w_script), h1, rfl⟩))) (fun v_pool_here => ?_)
    show JC _ _ _ [some (d_script), some (dL D.int v_pool_here), none, none, none, none, none, none, none, none, none, none, none, none, none, none] _ _ _
    refine jc_req fun h2 => ?_
    refine jc_asg (E := dP3 D.str (dL (dP2 D.str D.int)) D.int) (ev_call c_law_frame (hr.mono (by first | decide | omega)) rfl (ea_cons (nm 1 rfl) (ea_cons ev_int ea_nil)) (by exact ⟨_, v_pool_here, (8 : Int), rfl, vsI, h2, rfl⟩)) (eb_tup rfl (ebs_cons (bnm 2 nd) (ebs_cons (bnm 3 nd) (ebs_cons (bnm 4 nd) ebs_nil))) (bcons_len (bcons_len (bcons_len bnil_len)))) (fun ⟨v_letters, v_marks, v_base⟩ => ⟨_, rfl, ?_⟩)
    show JC _ _ _ [some (d_script), some (dL D.int v_pool_here), some (D.str v_letters), some (dL (dP2 D.str D.int) v_marks), some (D.int v_base), none, none, none, none, none, none, none, none, none, none, none] _ _ _
    refine jc_req fun h3 => ?_
    refine jc_set (E := eTr) (v := ((m_law_any v_pool_here (7 : Int) v_letters v_marks).val : Tr)) 5 nd (ev_call c_law_any (hr.mono (by first | decide | omega)) rfl (ea_cons (nm 1 rfl) (ea_cons ev_int (ea_cons (nm 2 rfl) (ea_cons (nm 3 rfl) ea_nil)))) (by exact ⟨_, v_pool_here, (7 : Int), v_letters, _, v_marks, rfl, vsI, vsI, h3, rfl⟩)) (fun v_tree_here => ?_)
    show JC _ _ _ [some (d_script), some (dL D.int v_pool_here), some (D.str v_letters), some (dL (dP2 D.str D.int) v_marks), some (D.int v_base), some (eTr v_tree_here), none, none, none, none, none, none, none, none, none, none] _ _ _
    refine jc_req fun h4 => ?_
    refine jc_seqN (st1 := (fun (v_tree_here : Tr) (ρ : List (Option D)) (O : Om) => ρ = [some (d_script), some (dL D.int v_pool_here), some (D.str v_letters), some (dL (dP2 D.str D.int) v_marks), some (D.int v_base), some (eTr v_tree_here), none, none, none, none, none, none, none, none, none, none] ∧ O = [])) (jc1_ite (et_cmp op_eq rd_eqI (ev_op op_mod (rd_I (by decide)) (ev_callTy call_int1 rc_int (by rfl) b_int (by decide +kernel) (ea_cons (ev_ixL (nm 1 rfl) ev_int (Vs.vw vsI) (atG (E := D.int) h4)) ea_nil)) ev_int) ev_int (nomark _)) (fun hc5 => ?_) (fun hc5 => ?_)) (fun v_tree_here _ _ hst => ?_)
    · refine jc_set (E := eTr) (v := ((Tr.bin (Str.ofString "and") (Tr.leaf (Str.ofString "a>2")) (Tr.bin (Str.ofString "and") (Tr.leaf (Str.ofString "b>1")) (Tr.leaf (Str.ofString "c>3")))) : Tr)) 6 nd (ev_tup (ea_cons ev_str (ea_cons ev_str (ea_cons (ev_tup (ea_cons ev_str (ea_cons ev_str (ea_cons ev_str ea_nil))) (by show 3 ≤ sizeLine; decide)) ea_nil))) (by show 3 ≤ sizeLine; decide)) (fun v_far => ?_)
      show JC _ _ _ [some (d_script), some (dL D.int v_pool_here), some (D.str v_letters), some (dL (dP2 D.str D.int) v_marks), some (D.int v_base), some (eTr v_tree_here), some (eTr v_far), none, none, none, none, none, none, none, none, none] _ _ _
      refine jc_set (E := eTr) (v := ((Tr.bin (Str.ofString "and") (Tr.un (Str.ofString "not") v_far) v_tree_here) : Tr)) 5 nd (ev_tup (ea_cons ev_str (ea_cons (ev_tup (ea_cons ev_str (ea_cons (nm 6 rfl) ea_nil)) (by show 2 ≤ sizeLine; decide)) (ea_cons (nm 5 rfl) ea_nil))) (by show 3 ≤ sizeLine; decide)) (fun v_tree_here => ?_)
      show JC _ _ _ [some (d_script), some (dL D.int v_pool_here), some (D.str v_letters), some (dL (dP2 D.str D.int) v_marks), some (D.int v_base), some (eTr v_tree_here), some (eTr v_far), none, none, none, none, none, none, none, none, none] _ _ _
      exact jc_nil ⟨_, (wk_some rfl (wk_some rfl (wk_some rfl (wk_some rfl (wk_some rfl (wk_some rfl (wk_none (wk_nn (wk_nn (wk_nn (wk_nn (wk_nn (wk_nn (wk_nn (wk_nn (wk_nn wk_nil)))))))))))))))), rfl, rfl⟩
    · exact jc_nil ⟨_, (wk_some rfl (wk_some rfl (wk_some rfl (wk_some rfl (wk_some rfl (wk_some rfl (wk_nn (wk_nn (wk_nn (wk_nn (wk_nn (wk_nn (wk_nn (wk_nn (wk_nn (wk_nn wk_nil)))))))))))))))), rfl, rfl⟩
    obtain ⟨rfl, rfl⟩ := hst
    show JC _ _ _ [some (d_script), some (dL D.int v_pool_here), some (D.str v_letters), some (dL (dP2 D.str D.int) v_marks), some (D.int v_base), some (eTr v_tree_here), none, none, none, none, none, none, none, none, none, none] _ _ _
    refine jc_req fun ⟨h6, h7⟩ => ?_
    refine jc_set (E := dL dRow) (v := ((m_law_rows v_script (1 : Int) ((ixL v_pool_here (21 : Int)) % (25 : Int)) v_base).val : List Row)) 7 nd (ev_new (en_call c_law_rows (hr.mono (by first | decide | omega)) rfl (ea_cons (nm 0 rfl) (ea_cons ev_int (ea_cons (ev_op op_mod (rd_I (by decide)) (ev_callTy call_int1 rc_int (by rfl) b_int (by decide +kernel) (ea_cons (ev_ixL (nm 1 rfl) ev_int (Vs.vw vsI) (atG (E := D.int) h6)) ea_nil)) ev_int) (ea_cons (nm 4 rfl) ea_nil)))) (by exact ⟨_, v_script, (1 : Int), ((ixL v_pool_here (21 : Int)) % (25 : Int)), v_base, rfl, (vwL w_script), h7, rfl⟩))) (fun v_rows_here => ?_)
    show JC _ _ _ [some (d_script), some (dL D.int v_pool_here), some (D.str v_letters), some (dL (dP2 D.str D.int) v_marks), some (D.int v_base), some (eTr v_tree_here), none, some (dL dRow v_rows_here), none, none, none, none, none, none, none, none] _ _ _
    refine jc_req fun ⟨h8, h9⟩ => ?_
    refine jc_set (E := dL dRow) (v := ((m_law_rows v_script (26 : Int) ((ixL v_pool_here (22 : Int)) % (25 : Int)) v_base).val : List Row)) 8 nd (ev_new (en_call c_law_rows (hr.mono (by first | decide | omega)) rfl (ea_cons (nm 0 rfl) (ea_cons ev_int (ea_cons (ev_op op_mod (rd_I (by decide)) (ev_callTy call_int1 rc_int (by rfl) b_int (by decide +kernel) (ea_cons (ev_ixL (nm 1 rfl) ev_int (Vs.vw vsI) (atG (E := D.int) h8)) ea_nil)) ev_int) (ea_cons (nm 4 rfl) ea_nil)))) (by exact ⟨_, v_script, (26 : Int), ((ixL v_pool_here (22 : Int)) % (25 : Int)), v_base, rfl, (vwL w_script), h9, rfl⟩))) (fun v_others => ?_)
    show JC _ _ _ [some (d_script), some (dL D.int v_pool_here), some (D.str v_letters), some (dL (dP2 D.str D.int) v_marks), some (D.int v_base), some (eTr v_tree_here), none, some (dL dRow v_rows_here), some (dL dRow v_others), none, none, none, none, none, none, none] _ _ _
    refine jc_req fun ⟨h10, h11, h12⟩ => ?_
    refine jc_set (E := D.int) (v := ((m_law_room (ixL v_pool_here (23 : Int)) (ixL v_pool_here (24 : Int))).val : Int)) 9 nd (ev_call c_law_room (hr.mono (by first | decide | omega)) rfl (ea_cons (ev_ixL (nm 1 rfl) ev_int (Vs.vw vsI) (atG (E := D.int) h10)) (ea_cons (ev_ixL (nm 1 rfl) ev_int (Vs.vw vsI) (atG (E := D.int) h11)) ea_nil)) (by exact ⟨(ixL v_pool_here (23 : Int)), (ixL v_pool_here (24 : Int)), rfl, h12, rfl⟩)) (fun v_room_here => ?_)
    show JC _ _ _ [some (d_script), some (dL D.int v_pool_here), some (D.str v_letters), some (dL (dP2 D.str D.int) v_marks), some (D.int v_base), some (eTr v_tree_here), none, some (dL dRow v_rows_here), some (dL dRow v_others), some (D.int v_room_here), none, none, none, none, none, none] _ _ _
    refine jc_req fun ⟨h13, h14, h15⟩ => ?_
    refine jc_set (E := D.int) (v := ((m_law_room (ixL v_pool_here (25 : Int)) (ixL v_pool_here (26 : Int))).val : Int)) 10 nd (ev_call c_law_room (hr.mono (by first | decide | omega)) rfl (ea_cons (ev_ixL (nm 1 rfl) ev_int (Vs.vw vsI) (atG (E := D.int) h13)) (ea_cons (ev_ixL (nm 1 rfl) ev_int (Vs.vw vsI) (atG (E := D.int) h14)) ea_nil)) (by exact ⟨(ixL v_pool_here (25 : Int)), (ixL v_pool_here (26 : Int)), rfl, h15, rfl⟩)) (fun v_wide => ?_)
    show JC _ _ _ [some (d_script), some (dL D.int v_pool_here), some (D.str v_letters), some (dL (dP2 D.str D.int) v_marks), some (D.int v_base), some (eTr v_tree_here), none, some (dL dRow v_rows_here), some (dL dRow v_others), some (D.int v_room_here), some (D.int v_wide), none, none, none, none, none] _ _ _
    refine jc_req fun ⟨h16, h17⟩ => ?_
    refine jc_set (E := (eForm ad)) (v := ((m_Formula_read ((m_law_text 9 v_tree_here).val)).val : FormV)) 11 nd (ev_cmeth (ev_glob (v := .ref ad.CFormula) rfl g_Formula rfl (fun _ => .rf _)) rd_Formula cm_Formula_read Fcm_Formula_read (hr.mono (by first | decide | omega)) (ea_cons (ev_call c_law_text (hr.mono (by first | decide | omega)) rfl (ea_cons (nm 5 rfl) ea_nil) (by exact ⟨v_tree_here, rfl, h16, rfl⟩)) ea_nil) (by exact ⟨(m_law_text 9 v_tree_here).val, rfl, h17, rfl⟩) _) (fun v_formula => ?_)
    show JC _ _ _ [some (d_script), some (dL D.int v_pool_here), some (D.str v_letters), some (dL (dP2 D.str D.int) v_marks), some (D.int v_base), some (eTr v_tree_here), none, some (dL dRow v_rows_here), some (dL dRow v_others), some (D.int v_room_here), some (D.int v_wide), some ((eForm ad) v_formula), none, none, none, none] _ _ _
    refine jc_req fun h18 => ?_
    refine jc_setM (vals := (fVReader ad)) 12 nd (em_makeA mk_Reader kwi_Reader (hr.mono (by first | decide | omega)) rfl g_Reader (ea_cons (nm 11 rfl) ea_nil) (ek_cons (nm 9 rfl) ek_nil) rfl (by exact ⟨v_formula, v_room_here, rfl, h18, rfl, rfl⟩)) (fun q19 v_reader _ => ?_)
    show JC _ _ _ [some (d_script), some (dL D.int v_pool_here), some (D.str v_letters), some (dL (dP2 D.str D.int) v_marks), some (D.int v_base), some (eTr v_tree_here), none, some (dL dRow v_rows_here), some (dL dRow v_others), some (D.int v_room_here), some (D.int v_wide), some ((eForm ad) v_formula), some (.rf q19), none, none, none] _ _ _
    refine jc_req fun h20 => ?_
    refine jc_setM (vals := (fVReader ad)) 13 nd (em_makeD mk_Reader kwd_Reader (hr.mono (by first | decide | omega)) rfl g_Reader (ea_cons (nm 11 rfl) ea_nil) (fun _ => .cons (.int 2) .nil) (by exact ⟨v_formula, (2 : Int), rfl, h20, rfl, rfl⟩)) (fun q21 v_plain _ => ?_)
    show JC _ _ _ [some (d_script), some (dL D.int v_pool_here), some (D.str v_letters), some (dL (dP2 D.str D.int) v_marks), some (D.int v_base), some (eTr v_tree_here), none, some (dL dRow v_rows_here), some (dL dRow v_others), some (D.int v_room_here), some (D.int v_wide), some ((eForm ad) v_formula), some (.rf q19), some (.rf q21), none, none] _ _ _
    refine jc_req fun ⟨h23, h25⟩ => ?_
    refine jc_ifr (et_w (ew_or (et_cmp op_ne rd_neI (ev_fld (i := 1) (nm 12 rfl) (voM (.tail _ (.head _))) k_Reader na_Reader_passes (by decide +kernel) rfl) ev_int (nomark _)) (fun hb22 => (ew_or (et_cmp op_ne rd_neI (ev_propV (nm 12 rfl) (voM (.tail _ (.head _))) k_Reader p_Reader_room Fp_Reader_room (hr.mono (by first | decide | omega)) (by exact ⟨_, v_reader, rfl, (voM (.tail _ (.head _))), (h23 hb22), rfl⟩)) (nm 9 rfl) (nomark _)) (fun hb24 => (ew_or1 (et_cmp op_ne rd_neI (ev_propV (nm 13 rfl) (voM (.head _)) k_Reader p_Reader_room Fp_Reader_room (hr.mono (by first | decide | omega)) (by exact ⟨_, v_plain, rfl, (voM (.head _)), (h25 hb22 hb24), rfl⟩)) ev_int (nomark _)))))))) (fun hc26 => ?_) (fun hc26 => ?_)
    · exact jc_ret (d := D.bl (false : Bool)) ev_bl (.refl _)
    · refine jc_ifrG (st := (fun ((v_reader, v_plain) : ReaderV × ReaderV) => ([(q21, M.ins ad.CReader fFReader ((fVReader ad) v_plain)), (q19, M.ins ad.CReader fFReader ((fVReader ad) v_reader))] : Om))) ?_ (fun ⟨v_reader, v_plain⟩ => ?_) (fun ⟨v_reader, v_plain⟩ => ?_)
      · exact (etm_w (ewm_or (etm_not (etm_of (egm_callE (vals := (fVReader ad)) (v0 := v_reader) c_law_fine (hr.mono (by first | decide | omega)) rfl (ea_cons (nm 12 rfl) (ea_cons (nm 5 rfl) (ea_cons (nm 7 rfl) (ea_cons (nm 9 rfl) ea_nil)))) (fun _ => .tail (.head)) (fun hok _ _ => by exact ⟨_, v_reader, v_tree_here, _, v_rows_here, v_room_here, rfl, rfl, vsI, hok, rfl, rfl⟩)))) (fun ⟨v_reader, v_plain⟩ => (ewm_or1 (etm_not (etm_of (egm_callE (vals := (fVReader ad)) (v0 := v_plain) c_law_fine (hr.mono (by first | decide | omega)) rfl (ea_cons (nm 13 rfl) (ea_cons (nm 5 rfl) (ea_cons (nm 8 rfl) (ea_cons ev_int ea_nil)))) (fun _ => .head) (fun hok _ _ => by exact ⟨_, v_plain, v_tree_here, _, v_others, (2 : Int), rfl, rfl, vsI, hok, rfl, rfl⟩))))))))
      · exact jc_ret (d := D.bl (false : Bool)) ev_bl (.refl _)
      · refine jc_req fun h27 => ?_
        refine jc_set (E := D.int) (v := (((m_law_scanned v_tree_here v_rows_here v_room_here).val).2 : Int)) 14 nd (ev_f2 (ev_call c_law_scanned (hr.mono (by first | decide | omega)) rfl (ea_cons (nm 5 rfl) (ea_cons (nm 7 rfl) (ea_cons (nm 9 rfl) ea_nil))) (by exact ⟨v_tree_here, _, v_rows_here, v_room_here, rfl, vsI, h27, rfl⟩)) ev_int) (fun v_passes => ?_)
        show JC _ _ _ [some (d_script), some (dL D.int v_pool_here), some (D.str v_letters), some (dL (dP2 D.str D.int) v_marks), some (D.int v_base), some (eTr v_tree_here), none, some (dL dRow v_rows_here), some (dL dRow v_others), some (D.int v_room_here), some (D.int v_wide), some ((eForm ad) v_formula), some (.rf q19), some (.rf q21), some (D.int v_passes), none] _ _ _
        refine jc_ifr (et_cmp op_ne rd_neI (ev_fld (i := 1) (nm 12 rfl) (voM (.tail _ (.head _))) k_Reader na_Reader_passes (by decide +kernel) rfl) (nm 14 rfl) (nomark _)) (fun hc28 => ?_) (fun hc28 => ?_)
        · exact jc_ret (d := D.bl (false : Bool)) ev_bl (.refl _)
        · refine jc_exprG (E := dUnit) (st := (fun (v_reader : ReaderV) => ([(q21, M.ins ad.CReader fFReader ((fVReader ad) v_plain)), (q19, M.ins ad.CReader fFReader ((fVReader ad) v_reader))] : Om))) ?_ (fun _ v_reader => ?_)
          · exact (egm_meth (vals := (fVReader ad)) (v0 := v_reader) (nm 12 rfl) k_Reader mt_Reader_resize Fm_Reader_resize (hr.mono (by first | decide | omega)) (ea_cons (nm 10 rfl) ea_nil) (by decide +kernel) (fun _ => .tail (.head)) (fun hok _ _ => by exact ⟨_, v_reader, v_wide, rfl, rfl, hok, rfl, rfl⟩) _)
          refine jc_ifr (et_cmp op_ne rd_neI (ev_fld (i := 1) (nm 12 rfl) (voM (.tail _ (.head _))) k_Reader na_Reader_passes (by decide +kernel) rfl) (nm 14 rfl) (nomark _)) (fun hc29 => ?_) (fun hc29 => ?_)
          · exact jc_ret (d := D.bl (false : Bool)) ev_bl (.refl _)
          · refine jc_perm ((.swap _ _ _)) ?_
            refine jc_seqR (st1 := (fun (v_reader : ReaderV) (ρ : List (Option D)) (O : Om) => ρ = [some (d_script), some (dL D.int v_pool_here), some (D.str v_letters), some (dL (dP2 D.str D.int) v_marks), some (D.int v_base), some (eTr v_tree_here), none, some (dL dRow v_rows_here), some (dL dRow v_others), some (D.int v_room_here), some (D.int v_wide), some ((eForm ad) v_formula), some (.rf q19), some (.rf q21), some (D.int v_passes), none] ∧ O = [(q19, M.ins ad.CReader fFReader ((fVReader ad) v_reader)), (q21, M.ins ad.CReader fFReader ((fVReader ad) v_plain))])) (sl := fun (_ : Unit) _ _ => False) (ex := fun _ _ _ _ _ _ => False) (jc1_forC (E := dL dRow) PassesOwn.never rfl (ei_list (ev_new (en_lst (ea_cons (nm 8 rfl) (ea_cons (nm 7 rfl) (ea_cons (ev_new (en_lst ea_nil (by show 0 ≤ sizeLine; decide))) ea_nil))) (by show 3 ≤ sizeLine; decide))) (Vs.vw vsI)) (bnm 15 nd) (fun v_reader _ _ hst => by obtain ⟨rfl, rfl⟩ := hst; exact (Vs.vw vsI)) ⟨_, (wk_some rfl (wk_some rfl (wk_some rfl (wk_some rfl (wk_some rfl (wk_some rfl (wk_nn (wk_some rfl (wk_some rfl (wk_some rfl (wk_some rfl (wk_some rfl (wk_some rfl (wk_some rfl (wk_some rfl (wk_nn wk_nil)))))))))))))))), rfl, rfl⟩ (fun v_table v_reader _ _ hst => ?_)) (fun v_reader _ _ hst => ?_)
            · obtain ⟨rfl, rfl⟩ := hst
              refine ⟨_, rfl, ?_⟩
              show JC _ _ _ [some (d_script), some (dL D.int v_pool_here), some (D.str v_letters), some (dL (dP2 D.str D.int) v_marks), some (D.int v_base), some (eTr v_tree_here), none, some (dL dRow v_rows_here), some (dL dRow v_others), some (D.int v_room_here), some (D.int v_wide), some ((eForm ad) v_formula), some (.rf q19), some (.rf q21), some (D.int v_passes), some (dL dRow v_table)] _ _ _
              refine jc_one (jc1_iteG (st := (fun (v_reader : ReaderV) => ([(q19, M.ins ad.CReader fFReader ((fVReader ad) v_reader)), (q21, M.ins ad.CReader fFReader ((fVReader ad) v_plain))] : Om))) ?_ (fun v_reader => ?_) (fun v_reader => ?_))
              · exact (etm_w (ewm_or (etm_req fun h30 => (etm_pure (st := (fun (v_reader : ReaderV) => ([(q19, M.ins ad.CReader fFReader ((fVReader ad) v_reader)), (q21, M.ins ad.CReader fFReader ((fVReader ad) v_plain))] : Om))) (s := v_reader) (et_cmp op_ne rd_neI (ev_propV (nm 12 rfl) (voM (.head _)) k_Reader p_Reader_room Fp_Reader_room (hr.mono (by first | decide | omega)) (by exact ⟨_, v_reader, rfl, (voM (.head _)), h30, rfl⟩)) (nm 10 rfl) (nomark _)))) (fun v_reader => (ewm_or1 (etm_not (etm_of (egm_callE (vals := (fVReader ad)) (v0 := v_reader) c_law_fine (hr.mono (by first | decide | omega)) rfl (ea_cons (nm 12 rfl) (ea_cons (nm 5 rfl) (ea_cons (nm 15 rfl) (ea_cons (nm 10 rfl) ea_nil)))) (fun _ => .head) (fun hok _ _ => by exact ⟨_, v_reader, v_tree_here, _, v_table, v_wide, rfl, rfl, vsI, hok, rfl, rfl⟩))))))))
              · exact jc_ret (d := D.bl (false : Bool)) ev_bl (.refl _)
              · exact jc_nil ⟨_, (wk_some rfl (wk_some rfl (wk_some rfl (wk_some rfl (wk_some rfl (wk_some rfl (wk_nn (wk_some rfl (wk_some rfl (wk_some rfl (wk_some rfl (wk_some rfl (wk_some rfl (wk_some rfl (wk_some rfl (wk_none wk_nil)))))))))))))))), rfl, rfl⟩
            obtain ⟨rfl, rfl⟩ := hst
            show JC _ _ _ [some (d_script), some (dL D.int v_pool_here), some (D.str v_letters), some (dL (dP2 D.str D.int) v_marks), some (D.int v_base), some (eTr v_tree_here), none, some (dL dRow v_rows_here), some (dL dRow v_others), some (D.int v_room_here), some (D.int v_wide), some ((eForm ad) v_formula), some (.rf q19), some (.rf q21), some (D.int v_passes), none] _ _ _
            refine jc_exprG (E := dUnit) (st := (fun (v_reader : ReaderV) => ([(q19, M.ins ad.CReader fFReader ((fVReader ad) v_reader)), (q21, M.ins ad.CReader fFReader ((fVReader ad) v_plain))] : Om))) ?_ (fun _ v_reader => ?_)
            · exact (egm_meth (vals := (fVReader ad)) (v0 := v_reader) (nm 12 rfl) k_Reader mt_Reader_resize Fm_Reader_resize (hr.mono (by first | decide | omega)) (ea_cons (nm 9 rfl) ea_nil) (by decide +kernel) (fun _ => .head) (fun hok _ _ => by exact ⟨_, v_reader, v_room_here, rfl, rfl, hok, rfl, rfl⟩) _)
            refine jc_ifrG (st := (fun (v_reader : ReaderV) => ([(q19, M.ins ad.CReader fFReader ((fVReader ad) v_reader)), (q21, M.ins ad.CReader fFReader ((fVReader ad) v_plain))] : Om))) ?_ (fun v_reader => ?_) (fun v_reader => ?_)
            · exact (etm_not (etm_of (egm_callE (vals := (fVReader ad)) (v0 := v_reader) c_law_apart (hr.mono (by first | decide | omega)) rfl (ea_cons (nm 12 rfl) (ea_cons (nm 5 rfl) (ea_cons (nm 7 rfl) (ea_cons (nm 8 rfl) (ea_cons (nm 9 rfl) ea_nil))))) (fun _ => .head) (fun hok _ _ => by exact ⟨_, v_reader, v_tree_here, _, v_rows_here, _, v_others, v_room_here, rfl, rfl, vsI, vsI, hok, rfl, rfl⟩))))
            · exact jc_ret (d := D.bl (false : Bool)) ev_bl (.refl _)
            · refine jc_req fun ⟨h31, h32⟩ => ?_
              refine jc_ifr (et_not (et_of (ev_call c_law_steep (hr.mono (by first | decide | omega)) rfl (ea_cons (ev_op op_add rd_I0 ev_int (ev_op op_mod (rd_I (by decide)) (ev_callTy call_int1 rc_int (by rfl) b_int (by decide +kernel) (ea_cons (ev_ixL (nm 1 rfl) ev_int (Vs.vw vsI) (atG (E := D.int) h31)) ea_nil)) ev_int)) (ea_cons (ev_op op_mod (rd_I (by decide)) (ev_callTy call_int1 rc_int (by rfl) b_int (by decide +kernel) (ea_cons (ev_ixL (nm 1 rfl) ev_int (Vs.vw vsI) (atG (E := D.int) h11)) ea_nil)) ev_int) ea_nil)) (by exact ⟨((31 : Int) + ((ixL v_pool_here (27 : Int)) % (70 : Int))), ((ixL v_pool_here (24 : Int)) % (3 : Int)), rfl, h32, rfl⟩)))) (fun hc33 => ?_) (fun hc33 => ?_)
              · exact jc_ret (d := D.bl (false : Bool)) ev_bl (.refl _)
              · refine jc_retG (E := D.bl) (st := (fun ((v_reader, v_plain) : ReaderV × ReaderV) => ([(q19, M.ins ad.CReader fFReader ((fVReader ad) v_reader)), (q21, M.ins ad.CReader fFReader ((fVReader ad) v_plain))] : Om))) ?_ (fun y s => (show Frz _ _ _ from .refl _))
                exact (egm_and (egm_callE (vals := (fVReader ad)) (v0 := v_reader) c_law_fine (hr.mono (by first | decide | omega)) rfl (ea_cons (nm 12 rfl) (ea_cons (nm 5 rfl) (ea_cons (nm 7 rfl) (ea_cons (nm 9 rfl) ea_nil)))) (fun _ => .head) (fun hok _ _ => by exact ⟨_, v_reader, v_tree_here, _, v_rows_here, v_room_here, rfl, rfl, vsI, hok, rfl, rfl⟩)) (fun ⟨v_reader, v_plain⟩ => (egm_one (egm_callE (vals := (fVReader ad)) (v0 := v_plain) c_law_fine (hr.mono (by first | decide | omega)) rfl (ea_cons (nm 13 rfl) (ea_cons (nm 5 rfl) (ea_cons (nm 7 rfl) (ea_cons ev_int ea_nil)))) (fun _ => .tail (.head)) (fun hok _ _ => by exact ⟨_, v_plain, v_tree_here, _, v_rows_here, (2 : Int), rfl, rfl, vsI, hok, rfl, rfl⟩)))))
end
end DL

set_option Elab.async false
set_option linter.all false
set_option maxRecDepth 100000
set_option maxHeartbeats 4000000
namespace DL
open PySem PySem.Spec PyProof.Rows L2 TL
abbrev sg (z : Str) (i : Nat) : Nat := z.cps.toList.getD i 0
abbrev ch (z : Str) (i : Nat) : Str := ⟨#[z.cps.toList.getD i 0]⟩
def digs (z : Str) : Str := if decide (ch z 0 = ("-" : Str)) = true then cutS z (some 1) none else z
abbrev tab : List Nat := (Str.ofString "0123456789").cps.toList
def constM (z : Str) : Option Int :=
  if ¬ ((1 : Int) ≤ ((digs z).length : Int) ∧ ((digs z).length : Int) ≤ 18) then none
  else if (digs z).cps.toList.all (fun c => decide (c ∈ tab)) = false then none
  else if ch (digs z) 0 = ("0" : Str) ∧ ¬ z = ("0" : Str) then none
  else some (intD z)
theorem digs_some {z : Str} (h0 : 0 < z.length) (h : (1 : Int) ≤ ((digs z).length : Int) ∧ ((digs z).length : Int) ≤ 18) (hd : (digs z).cps.toList.all (fun c => decide (c ∈ tab)) = true) : PySem.intText? z = some (intD z) := by
  have hn : ∃ n, PySem.intText? z = some n := by
    have hdig : ∀ c ∈ tab, 48 ≤ c ∧ c ≤ 57 := by decide +kernel
    have hall : ∀ c ∈ (digs z).cps.toList, 48 ≤ c ∧ c ≤ 57 := fun c hc => hdig c (of_decide_eq_true (List.all_eq_true.mp hd c hc))
    unfold digs at h hall
    by_cases hm : ch z 0 = ("-" : Str)
    · rw [if_pos (decide_eq_true hm)] at h hall
      have e0 : sg z 0 = 45 := by
        have : ch z 0 = (⟨#[45]⟩ : Str) := hm.trans (by decide +kernel)
        injection this with h1
        injection h1 with h2
        injection h2
      have hz : z.cps.toList.length = z.length := Array.length_toList
      cases hl : z.cps.toList with
      | nil => rw [hl] at hz; simp at hz; omega
      | cons c cs =>
        have e1 : c = 45 := by simpa [sg, hl] using e0
        subst e1
        have e2 : cutS z (some 1) none = (⟨cs.toArray⟩ : Str) := by
          unfold cutS
          rw [hl]
          have a1 : HT.sIx z.length 0 (some 1) = 1 := by
            have := HT.sIx_nat z.length 0 1
            rw [show (some ((1 : Nat) : Int)) = some (1 : Int) from rfl] at this
            rw [this]; omega
          have a2 : HT.sIx z.length z.length none = z.length := rfl
          rw [a1, a2]
          have : (List.drop 1 (45 :: cs)).take (z.length - 1) = cs := by
            rw [List.drop_succ_cons, List.drop_zero]
            refine List.take_of_length_le ?_
            rw [← hz, hl, List.length_cons]; omega
          rw [this]
        rw [e2] at h hall
        refine ⟨_, intText_neg hl (fun c hc => hall c (by simpa using hc)) ?_ ?_⟩
        · intro e; subst e; simp [Str.length] at h
        · have : (⟨cs.toArray⟩ : Str).length = cs.length := by simp [Str.length]
          rw [this] at h
          rw [← hz, hl, List.length_cons]; omega
    · rw [if_neg (by simpa using hm)] at h hall
      refine ⟨_, intText_digits hall ?_ (by omega)⟩
      intro e
      have : z.cps.toList.length = z.length := Array.length_toList
      rw [e] at this; simp at this; omega
  obtain ⟨n, hn⟩ := hn
  rw [hn]; unfold intD; rw [hn]; rfl
theorem digs_le (z : Str) : (digs z).length ≤ z.length := by
  unfold digs
  split
  · show ((⟨_⟩ : Str)).cps.size ≤ _
    simp only [cutS, HT.sIx_none, List.size_toArray, List.length_take, List.length_drop]
    have hz : z.cps.toList.length = z.length := Array.length_toList
    omega
  · exact Nat.le_refl _
theorem numL_first : ∀ n : Nat, 0 < n → ∃ c cs, numL n = c :: cs ∧ c ≠ 48 := by
  intro n
  induction n using Nat.strongRecOn with
  | _ n ih =>
    intro h0
    by_cases h : n < 10
    · exact ⟨48 + n, [], numL_lt h, by omega⟩
    · obtain ⟨c, cs, e, hc⟩ := ih (n / 10) (by omega) (by omega)
      exact ⟨c, cs ++ [48 + n % 10], by rw [numL_step (by omega), e]; rfl, hc⟩
theorem tl_neg (n : Nat) : tl (Str.ofString (toString (Int.negSucc n))) = 45 :: numL (n + 1) := by
  have h := tl_num (n + 1)
  have e : toString (Int.negSucc n) = "-" ++ toString (((n + 1 : Nat)) : Int) := rfl
  unfold tl at h ⊢
  rw [Str.ofString_eq_toList] at h ⊢
  rw [e, String.toList_append]
  simp only [List.map_append]
  simp only at h
  rw [h]
  rfl
theorem constM_num {c : Int} (h : c.natAbs < 10 ^ 18) : constM (Str.ofString (toString c)) = some c ∧ (Str.ofString (toString c)).length ≤ 19 ∧ 0 < (Str.ofString (toString c)).length ∧ ∀ x ∈ tl (Str.ofString (toString c)), x = 45 ∨ (48 ≤ x ∧ x ≤ 57) := by
  have hd : ∀ n : Nat, (numL n).all (fun c => decide (c ∈ tab)) = true := fun n => by
    refine List.all_eq_true.mpr fun x hx => ?_
    have := numL_digits n x hx
    refine decide_eq_true ?_
    have q : ∀ m : Fin 10, 48 + m.val ∈ tab := by decide +kernel
    have := q ⟨x - 48, by omega⟩
    have e : 48 + (x - 48) = x := by omega
    simp only [e] at this
    exact this
  have two : ∀ (z : Str) (n : Nat), tl (digs z) = numL n → n < 10 ^ 18 → (n = 0 → z = ("0" : Str)) → (z = ("0" : Str) ∨ ¬ ch (digs z) 0 = ("0" : Str)) → constM z = some (intD z) := fun z n e hn _ hz => by
    have hl : (digs z).length = (numL n).length := by rw [len_tl, e]
    have h1 : (numL n).length ≤ 18 := numL_len (by decide) hn
    have h2 : 0 < (numL n).length := List.length_pos_iff.mpr (numL_ne n)
    unfold constM
    rw [if_neg (by rw [hl]; omega), if_neg (by rw [show (digs z).cps.toList = numL n from e, hd n]; decide)]
    rw [if_neg]
    rintro ⟨a, b⟩
    rcases hz with hz | hz
    · exact b hz
    · exact hz a
  have chz : ∀ (z : Str) (c : Nat) (cs : List Nat), tl z = c :: cs → ch z 0 = (⟨#[c]⟩ : Str) := fun z c cs e => by
    show (⟨#[(tl z).getD 0 0]⟩ : Str) = _
    rw [e]; rfl
  cases c with
  | ofNat n =>
    have hn : n < 10 ^ 18 := h
    have e0 : tl (Str.ofString (toString (Int.ofNat n))) = numL n := tl_num n
    have hm : ¬ ch (Str.ofString (toString (Int.ofNat n))) 0 = ("-" : Str) := by
      intro hm
      cases hl : numL n with
      | nil => exact numL_ne n hl
      | cons c cs =>
        rw [chz _ c cs (e0.trans hl)] at hm
        have : (⟨#[c]⟩ : Str) = ⟨#[45]⟩ := hm.trans (by decide +kernel)
        injection this with h1
        injection h1 with h2
        injection h2 with h3
        have := numL_digits n c (by rw [hl]; exact List.mem_cons_self)
        omega
    have ed : digs (Str.ofString (toString (Int.ofNat n))) = Str.ofString (toString (Int.ofNat n)) := by
      unfold digs; rw [if_neg (by simpa using hm)]
    have hl2 : (numL n).length ≤ 18 := numL_len (by decide) hn
    have hi : PySem.intText? (Str.ofString (toString (Int.ofNat n))) = some (Int.ofNat n) := int_num (by omega)
    refine ⟨?_, by rw [len_tl, e0]; omega, by rw [len_tl, e0]; exact List.length_pos_iff.mpr (numL_ne n), fun x hx => by rw [e0] at hx; exact .inr (numL_digits n x hx)⟩
    rw [two _ n (by rw [ed]; exact e0) hn (fun hz => by subst hz; decide +kernel) ?_]
    · unfold intD; rw [hi]; rfl
    · rw [ed]
      by_cases hz : n = 0
      · subst hz; exact .inl (by decide +kernel)
      · right
        intro q
        obtain ⟨c, cs, e, hc⟩ := numL_first n (by omega)
        rw [chz _ c cs (e0.trans e)] at q
        have : (⟨#[c]⟩ : Str) = ⟨#[48]⟩ := q.trans (by decide +kernel)
        injection this with h1
        injection h1 with h2
        injection h2 with h3
        exact hc h3
  | negSucc n =>
    have hn : n + 1 < 10 ^ 18 := h
    have e0 := tl_neg n
    have hm : ch (Str.ofString (toString (Int.negSucc n))) 0 = ("-" : Str) := (chz _ _ _ e0).trans (by decide +kernel)
    have hl2 : (numL (n + 1)).length ≤ 18 := numL_len (by decide) hn
    have hlen : (Str.ofString (toString (Int.negSucc n))).length = (numL (n + 1)).length + 1 := by rw [len_tl, e0]; rfl
    have ed : tl (digs (Str.ofString (toString (Int.negSucc n)))) = numL (n + 1) := by
      unfold digs
      rw [if_pos (decide_eq_true hm)]
      show ((⟨_⟩ : Str)).cps.toList = _
      simp only [cutS]
      have a1 : HT.sIx (Str.ofString (toString (Int.negSucc n))).length 0 (some 1) = 1 := by
        have := HT.sIx_nat (Str.ofString (toString (Int.negSucc n))).length 0 1
        rw [show (some ((1 : Nat) : Int)) = some (1 : Int) from rfl] at this
        rw [this]; omega
      have a2 : HT.sIx (Str.ofString (toString (Int.negSucc n))).length (Str.ofString (toString (Int.negSucc n))).length none = (Str.ofString (toString (Int.negSucc n))).length := rfl
      rw [a1, a2, show (Str.ofString (toString (Int.negSucc n))).cps.toList = 45 :: numL (n + 1) from e0, List.drop_succ_cons, List.drop_zero]
      exact List.take_of_length_le (by omega)
    have hi : PySem.intText? (Str.ofString (toString (Int.negSucc n))) = some (Int.negSucc n) := by
      rw [intText_neg (cs := numL (n + 1)) e0 (numL_digits _) (numL_ne _) (by omega), numL_val]; rfl
    refine ⟨?_, by omega, by omega, fun x hx => by
      rw [e0] at hx
      rcases List.mem_cons.mp hx with hx | hx
      · exact .inl hx
      · exact .inr (numL_digits _ x hx)⟩
    rw [two _ (n + 1) ed hn (fun hz => absurd hz (by omega)) ?_]
    · unfold intD; rw [hi]; rfl
    · right
      intro q
      obtain ⟨c, cs, e, hc⟩ := numL_first (n + 1) (by omega)
      rw [chz _ c cs (ed.trans e)] at q
      have : (⟨#[c]⟩ : Str) = ⟨#[48]⟩ := q.trans (by decide +kernel)
      injection this with h1
      injection h1 with h2
      injection h2 with h3
      exact hc h3
theorem tl_app (a b : Str) : tl (a ++ b) = tl a ++ tl b := by
  show (a.cps ++ b.cps).toList = _
  exact Array.toList_append
theorem drop2 {l g : Nat} {t z : Str} (h : tl z = l :: g :: tl t) : cutS z (some 2) none = t := by
  have hz : z.length = t.length + 2 := by rw [len_tl, h, len_tl t]; rfl
  have e1 := HT.sIx_nat z.length 0 2
  rw [show (some ((2 : Nat) : Int)) = some (2 : Int) from rfl] at e1
  have inj : ∀ a b : Str, tl a = tl b → a = b := by
    rintro ⟨⟨a⟩⟩ ⟨⟨b⟩⟩ h
    exact congrArg (fun l => (⟨⟨l⟩⟩ : Str)) h
  refine inj _ _ ?_
  show ((⟨_⟩ : Str)).cps.toList = _
  simp only [cutS, e1, HT.sIx_none]
  rw [show z.cps.toList = l :: g :: tl t from h, show min 2 z.length = 2 by omega]
  show (tl t).take (z.length - 2) = tl t
  exact List.take_of_length_le (by rw [← len_tl]; omega)
theorem log2_small {i : Int} (h : i.natAbs < 10 ^ 18) : i.natAbs.log2 < 1920 := by
  by_cases h0 : i.natAbs = 0
  · rw [h0]; decide
  · exact (Nat.log2_lt h0).mpr (Nat.lt_of_lt_of_le h (by decide +kernel))
end DL

set_option Elab.async false
set_option linter.all false
set_option maxRecDepth 100000
set_option maxHeartbeats 4000000
namespace DL
open PySem PySem.Spec PyProof.Rows L2 TL
theorem size_big : (sizeLine : Nat) = 16777216 := sizeLine_eq
def PoolOk (n : Int) (l : List Int) : Prop := (l.length : Int) = n ∧ ∀ x ∈ l, 0 ≤ x ∧ x < 1000
theorem pool_sat (s : List Int) {k n : Int} (hk : 0 ≤ k) (hn : 0 ≤ n) (hn1 : n ≤ 1000000) : (m_law_pool s k n).sat (PoolOk n) := by
  unfold m_law_pool
  refine sat_bnd (sat_bind (P := fun _ => True) (sat_ite (fun h => sat_req ⟨hk, by simpa using h⟩ (sat_ret trivial)) fun _ => sat_ret trivial) fun cell _ => sat_bnd (sat_bnd (sat_req (by omega) ?_)))
  refine sat_bind (sat_forR (fun i (q : Int × List Int) => q.2.length = i ∧ ∀ x ∈ q.2, 0 ≤ x ∧ x < 1000) ⟨rfl, fun x h => by cases h⟩ fun i q hi hq => ?_) fun q hq => sat_ret ⟨by rw [hq.1]; omega, hq.2⟩
  obtain ⟨c, l⟩ := q
  obtain ⟨h1, h2⟩ := hq
  simp only at h1 h2
  have hz : l.length < sizeLine := by rw [size_big]; omega
  refine sat_ite (fun _ => sat_req hz (sat_ret ⟨by simp [h1], fun x hx => ?_⟩)) fun _ => sat_bnd (sat_bnd (sat_req ⟨?_, hz⟩ (sat_ret ⟨by simp [h1], fun x hx => ?_⟩)))
  · rcases List.mem_append.mp hx with hx | hx
    · exact h2 x hx
    · rw [List.mem_singleton.mp hx]; omega
  · refine .inl ⟨?_, ?_⟩ <;> omega
  · rcases List.mem_append.mp hx with hx | hx
    · exact h2 x hx
    · rw [List.mem_singleton.mp hx]
      generalize (_ : Int) + _ = z
      omega
theorem PoolOk.at {n : Int} {l : List Int} (h : PoolOk n l) {i : Int} (h0 : 0 ≤ i) (h1 : i < n) : (0 ≤ i ∧ i < (l.length : Int)) ∧ 0 ≤ ixL l i ∧ ixL l i < 1000 := by
  obtain ⟨a, b⟩ := h
  refine ⟨⟨h0, by omega⟩, ?_⟩
  have hi : i.toNat < l.length := by omega
  have e : ixL l i = l[i.toNat] := by unfold ixL; simp [hi]
  rw [e]
  exact b _ (List.getElem_mem hi)
end DL

set_option Elab.async false
set_option linter.all false
set_option maxRecDepth 100000
set_option maxHeartbeats 4000000
namespace DL
open PySem PySem.Spec PyProof.Rows L2 TL
inductive Fm where
  | cmp (s c : Fin 3)
  | mark (c s : Fin 3) (k : Int)
  | un (i : Fin 2) (f : Fm)
  | bin (i : Fin 4) (f g : Fm)
abbrev sN (s : Fin 3) : Nat := [60, 62, 61].getD s.val 0
abbrev lN (c : Fin 3) : Nat := 97 + c.val
abbrev uW (i : Fin 2) : Str := [Str.ofString "not", Str.ofString "flip"].getD i.val default
abbrev bW (i : Fin 4) : Str := [Str.ofString "and", Str.ofString "or", Str.ofString "else", Str.ofString "pareto"].getD i.val default
abbrev cmpW (s c : Fin 3) : Str := ⟨#[sN s, lN c]⟩
abbrev markW (c s : Fin 3) (k : Int) : Str := (cS (lN c) ++ cS (sN s)) ++ Str.ofString (toString k)
namespace Fm
def Ok : Fm → Prop
  | .cmp _ _ => True
  | .mark _ _ k => k.natAbs < 10 ^ 18
  | .un _ f => f.Ok
  | .bin _ f g => f.Ok ∧ g.Ok
def words : Fm → List Str
  | .cmp s c => [cmpW s c]
  | .mark c s k => [markW c s k]
  | .un i f => uW i :: f.words
  | .bin i f g => bW i :: (f.words ++ g.words)
def code : Fm → List (Str × Int × Int)
  | .cmp s c => [(cS (sN s), (c.val : Int), 0)]
  | .mark c s k => [(Str.ofString "row" ++ cS (sN s), (c.val : Int), k)]
  | .un i f => (uW i, -1, 0) :: f.code
  | .bin i f g => (bW i, -1, 0) :: (f.code ++ g.code)
def meets (s : Fin 3) (a b : Int) : Bool := if s = 0 then decide (a < b) else if s = 1 then decide (a > b) else decide (a = b)
def unP (i : Fin 2) (p : Bool × Bool) : Bool × Bool := if i = 0 then (!p.1, !p.2) else (p.2, p.1)
def binP (i : Fin 4) (p q : Bool × Bool) : Bool × Bool :=
  if i = 0 then (p.1 && q.1, p.2 && q.2) else if i = 1 then (p.1 || q.1, p.2 || q.2)
  else if i = 2 then (p.1 || (!p.2 && q.1), p.2 || (!p.1 && q.2))
  else ((p.1 || q.1) && (!p.2 && !q.2), (p.2 || q.2) && (!p.1 && !q.1))
def pr (r o : Row) : Fm → Bool × Bool
  | .cmp s c => (meets s (rowAt r (c.val : Int)) (rowAt o (c.val : Int)), meets s (rowAt o (c.val : Int)) (rowAt r (c.val : Int)))
  | .mark c s k => (meets s (rowAt r (c.val : Int)) k, meets s (rowAt o (c.val : Int)) k)
  | .un i f => unP i (f.pr r o)
  | .bin i f g => binP i (f.pr r o) (g.pr r o)
end Fm
theorem fm_code_len (f : Fm) : f.code.length = f.words.length := by
  induction f with
  | cmp | mark => rfl
  | un i f ih => simp [Fm.code, Fm.words, ih]
  | bin i f g ih1 ih2 => simp [Fm.code, Fm.words, ih1, ih2]
theorem fm_pos (f : Fm) : 0 < f.words.length := by cases f <;> simp [Fm.words]
theorem op_u : ∀ i : Fin 2, opsT (uW i) = some 1 := by decide +kernel
theorem op_b : ∀ i : Fin 4, opsT (bW i) = some 2 := by decide +kernel
theorem op_c : ∀ s c : Fin 3, opsT (cmpW s c) = none := by decide +kernel
theorem ops_sig {w : Str} {n : Int} (h : opsT w = some n) : sg w 1 ∉ (Str.ofString "<>=").cps.toList := by
  have q : ∀ e ∈ opsL, sg e.1 1 ∉ (Str.ofString "<>=").cps.toList := by decide +kernel
  have key : ∀ l : List (Str × Int), (∀ e ∈ l, sg e.1 1 ∉ (Str.ofString "<>=").cps.toList) → lookS l w = some n → sg w 1 ∉ (Str.ofString "<>=").cps.toList := by
    intro l
    induction l with
    | nil => intro _ h; cases h
    | cons e l ih =>
      intro hl h
      obtain ⟨k, i⟩ := e
      unfold lookS at h
      split at h
      · rename_i hk; rw [← hk]; exact hl _ List.mem_cons_self
      · exact ih (fun e he => hl e (List.mem_cons_of_mem _ he)) h
  exact key _ q h
theorem sN_mem : ∀ s : Fin 3, sN s ∈ (Str.ofString "<>=").cps.toList := by decide +kernel
theorem lN_mem : ∀ s : Fin 3, lN s ∈ (Str.ofString "abc").cps.toList := by decide +kernel
theorem sN_not : ∀ s : Fin 3, ¬ sN s ∈ (Str.ofString "abc").cps.toList := by decide +kernel
theorem lN_not : ∀ s : Fin 3, ¬ lN s ∈ (Str.ofString "<>=").cps.toList := by decide +kernel
theorem lN_find : ∀ c : Fin 3, Txt.find (Str.ofString "abc") (cS (lN c)) = (c.val : Int) := by decide +kernel
theorem mark_tl (c s : Fin 3) (k : Int) : tl (markW c s k) = lN c :: sN s :: tl (Str.ofString (toString k)) := by
  rw [tl_app, tl_app]; rfl
theorem mark_0 (c s : Fin 3) (k : Int) : ixS (markW c s k) 0 = lN c := by show (tl (markW c s k)).getD 0 0 = _; rw [mark_tl]; rfl
theorem mark_1 (c s : Fin 3) (k : Int) : ixS (markW c s k) 1 = sN s := by show (tl (markW c s k)).getD 1 0 = _; rw [mark_tl]; rfl
theorem mark_len (c s : Fin 3) (k : Int) : (markW c s k).length = (Str.ofString (toString k)).length + 2 := by rw [len_tl, mark_tl, len_tl]; rfl
theorem mark_cut (c s : Fin 3) (k : Int) : cutS (markW c s k) (some 2) none = Str.ofString (toString k) := drop2 (mark_tl c s k)
theorem op_m (c s : Fin 3) (k : Int) : opsT (markW c s k) = none := by
  cases h : opsT (markW c s k) with
  | none => rfl
  | some n =>
    refine absurd ?_ (ops_sig h)
    show ixS (markW c s k) 1 ∈ _
    rw [mark_1]; exact sN_mem s
theorem const_sat {z : Str} (h0 : 0 < z.length) (h1 : z.length ≤ 600) : (m_constant_of z).sat (· = constM z) := by
  have hz : z.length ≤ sizeLine := by rw [size_big]; omega
  have hd : (digs z).length ≤ sizeLine := Nat.le_trans (digs_le z) hz
  unfold m_constant_of
  refine sat_req ⟨⟨Int.le_refl 0, by omega⟩, hz, fun _ => hz⟩ (sat_bnd (sat_req hd ?_))
  show Cmp.sat (if (!(decide ((1 : Int) ≤ ((digs z).length : Int)) && decide (((digs z).length : Int) ≤ (18 : Int)))) = true then _ else _ : Cmp (Option Int)) _
  refine sat_ite (fun h => ?_) fun h => ?_
  · refine sat_ret ?_
    unfold constM
    rw [if_pos]
    rintro ⟨a, b⟩
    rw [decide_eq_true a, decide_eq_true b] at h
    cases h
  have hc : (1 : Int) ≤ ((digs z).length : Int) ∧ ((digs z).length : Int) ≤ 18 := by simpa using h
  refine sat_bindR (P := fun c => (c = .rt none ∧ (digs z).cps.toList.all (fun c => decide (c ∈ tab)) = false) ∨ (c = .nx () ∧ (digs z).cps.toList.all (fun c => decide (c ∈ tab)) = true)) (sat_forCx (fun i _ => ((digs z).cps.toList.take i).all (fun c => decide (c ∈ tab)) = true) _ (by simp) (fun i x s hx hi => ?_) fun _ hi => ?_) fun c hc' => ?_
  · refine sat_ite (fun hb => sat_ret ?_) fun hb => sat_ret ?_
    · refine .inl ⟨rfl, ?_⟩
      refine List.all_eq_false.mpr ⟨x, List.mem_of_getElem? hx, by simpa using hb⟩
    · show (((digs z).cps.toList.take (i + 1)).all (fun c => decide (c ∈ tab))) = true
      rw [List.take_succ, List.all_append, hi, show (digs z).cps.toList[i]? = some x from hx]
      simpa using hb
  · have hi : (((digs z).cps.toList.take (digs z).cps.toList.length).all (fun c => decide (c ∈ tab))) = true := hi
    rw [List.take_length] at hi
    exact .inr ⟨rfl, hi⟩
  · rcases hc' with ⟨rfl, hf⟩ | ⟨rfl, ht⟩
    · refine sat_ret ?_
      unfold constM
      rw [if_neg (by simpa using hc), if_pos hf]
    · show Cmp.sat (Cmp.req _ _) _
      refine sat_req ⟨Int.le_refl 0, by show (0 : Int) < ((digs z).length : Int); omega⟩ (sat_ite (fun hb => sat_ret ?_) fun hb => sat_req ?_ (sat_ret ?_))
      · unfold constM
        rw [if_neg (by simpa using hc), if_neg (by rw [ht]; decide), if_pos]
        have hb : (decide (ch (digs z) 0 = ("0" : Str)) && !decide (z = ("0" : Str))) = true := hb
        simpa using hb
      · have := digs_some h0 hc ht
        exact ⟨by rw [this]; rfl, by omega⟩
      · unfold constM
        rw [if_neg (by simpa using hc), if_neg (by rw [ht]; decide), if_neg]
        have hb : (decide (ch (digs z) 0 = ("0" : Str)) && !decide (z = ("0" : Str))) = false := hb
        simpa using hb
theorem dec_u (i : Fin 2) : (m_decoded (uW i)).sat (· = some (uW i, -1, 0)) := by
  unfold m_decoded
  exact sat_ite (fun _ => sat_ret rfl) fun h => absurd h (by rw [op_u]; decide)
theorem dec_b (i : Fin 4) : (m_decoded (bW i)).sat (· = some (bW i, -1, 0)) := by
  unfold m_decoded
  exact sat_ite (fun _ => sat_ret rfl) fun h => absurd h (by rw [op_b]; decide)
theorem dec_c (s c : Fin 3) : (m_decoded (cmpW s c)).sat (· = some (cS (sN s), (c.val : Int), 0)) := by
  have hl : (cmpW s c).length = 2 := rfl
  have hz : (cmpW s c).length ≤ sizeLine := by rw [size_big, hl]; omega
  unfold m_decoded
  refine sat_ite (fun h => absurd h (by rw [op_c]; decide)) fun _ => sat_req ⟨hz, fun _ => ?_, fun _ => hz, fun _ _ => ?_, fun _ _ => hz⟩ (sat_ite (fun _ => sat_req ⟨?_, ?_⟩ (sat_ret ?_)) fun h => ?_)
  · rw [hl]; decide
  · rw [hl]; decide
  · rw [hl]; decide
  · rw [hl]; decide
  · show some (cS (sN s), Txt.find (Str.ofString "abc") (cS (lN c)), (0 : Int)) = _
    rw [lN_find]
  · exfalso
    have e0 : ixS (cmpW s c) 0 = sN s := rfl
    have e1 : ixS (cmpW s c) 1 = lN c := rfl
    rw [e0, e1, hl, decide_eq_true (sN_mem s), decide_eq_true (lN_mem c)] at h
    cases h
theorem dec_m (c s : Fin 3) {k : Int} (hk : k.natAbs < 10 ^ 18) : (m_decoded (markW c s k)).sat (· = some (Str.ofString "row" ++ cS (sN s), (c.val : Int), k)) := by
  obtain ⟨c1, c2, c3, _⟩ := constM_num hk
  have hl := mark_len c s k
  have hz : (markW c s k).length ≤ sizeLine := by rw [size_big]; omega
  have l3 : 3 ≤ (markW c s k).length := by omega
  unfold m_decoded
  refine sat_ite (fun h => absurd h (by rw [op_m]; decide)) fun _ => sat_req ⟨hz, fun _ => ⟨by omega, by omega⟩, fun _ => hz, fun _ _ => ⟨by omega, by omega⟩, fun _ _ => hz⟩ (sat_ite (fun h => ?_) fun _ => sat_req ⟨fun _ => ⟨by omega, by omega⟩, fun _ _ => ⟨by omega, by omega⟩⟩ (sat_ite (fun h => ?_) fun _ => ?_))
  · exfalso
    rw [decide_eq_false (by omega)] at h
    cases h
  · exfalso
    rw [mark_0, mark_1, decide_eq_false (by omega), decide_eq_true (lN_mem c), decide_eq_true (sN_mem s)] at h
    cases h
  · rw [mark_cut]
    obtain ⟨o1, o2⟩ := const_sat c3 (by omega)
    refine sat_req o1 (sat_bnd ?_)
    rw [o2, c1]
    refine sat_ite (fun h => (by cases h)) fun _ => sat_req ⟨⟨by omega, by omega⟩, ⟨by omega, by omega⟩, rfl⟩ (sat_ret ?_)
    show some (Str.ofString "row" ++ cS (ixS (markW c s k) 1), Txt.find (Str.ofString "abc") (cS (ixS (markW c s k) 0)), k) = _
    rw [mark_0, mark_1, lN_find]
abbrev enF (ws : List Str) (n : Nat) : List (Int × Str) := (ws.zipIdx n).map fun p => ((p.2 : Int), p.1)
theorem enF_cons (w : Str) (ws : List Str) (n : Nat) : enF (w :: ws) n = ((n : Int), w) :: enF ws (n + 1) := by simp [enF]
theorem enF_app (ws us : List Str) (n : Nat) : enF (ws ++ us) n = enF ws n ++ enF us (n + ws.length) := by simp [enF, List.zipIdx_append]
abbrev fmV (f : Fm) : FormV := ⟨f.words, f.code.reverse⟩
section
variable {α S : Type} {Q : S → Prop}
theorem sat_forN_nil {f : α → S → Cmp S} {s : S} (h : Q s) : (forN f [] s).sat Q := ⟨trivial, h⟩
theorem sat_forN_cons {f : α → S → Cmp S} {x : α} {xs : List α} {s : S} {P : S → Prop} (h : (f x s).sat P) (k : ∀ s', P s' → (forN f xs s').sat Q) : (forN f (x :: xs) s).sat Q := by
  unfold forN; exact sat_bind h k
theorem sat_forN_app {f : α → S → Cmp S} {xs ys : List α} {s : S} {P : S → Prop} (h : (forN f xs s).sat P) (k : ∀ s', P s' → (forN f ys s').sat Q) : (forN f (xs ++ ys) s).sat Q := by
  induction xs generalizing s with
  | nil => exact k s h.2
  | cons x xs ih =>
    unfold forN at h
    have h1 : (f x s).ok := h.1.1
    have h2 : (forN f xs (f x s).val).sat P := ⟨h.1.2, h.2⟩
    exact sat_forN_cons (P := fun s' => s' = (f x s).val) ⟨h1, rfl⟩ fun s' e => by rw [e]; exact ih h2
end
abbrev initB : Int × Str → (List (Str × Int × Int)) × Int → Cmp ((List (Str × Int × Int)) × Int) := (fun ((v_at, v_word) : Int × Str) ((v_code, v_missing) : (List (Str × Int × Int)) × Int) => .req (((m_decoded v_word).ok)) (.bnd ((m_decoded v_word).val : Option (Str × Int × Int)) fun v_step => if ((decide (v_missing = (0 : Int))) || v_step.isNone) = true then (⟨False, default⟩) else (.bnd (((v_missing + ((opsT v_word).getD (0 : Int))) - (1 : Int)) : Int) fun v_missing => .req ((v_step.isSome = true) ∧ (v_code.length < sizeLine)) (.bnd (v_code ++ [(v_step.getD default)]) fun v_code => .ret (v_code, v_missing)))))
theorem initB_one {a m k : Int} {w : Str} {code : List (Str × Int × Int)} {st : Str × Int × Int} (hd : (m_decoded w).sat (· = some st)) (ho : (opsT w).getD 0 = k) (hm : 1 ≤ m) (hz : code.length < 1000) : (initB (a, w) (code, m)).sat (· = (code ++ [st], m + k - 1)) := by
  obtain ⟨o1, o2⟩ := hd
  refine sat_req o1 (sat_bnd ?_)
  rw [o2, ho]
  refine sat_ite (fun h => ?_) fun _ => sat_bnd (sat_req ⟨rfl, by rw [size_big]; omega⟩ (sat_bnd (sat_ret rfl)))
  rw [decide_eq_false (by omega)] at h; cases h
theorem init_fm (f : Fm) (ok : f.Ok) : ∀ (n : Nat) (code : List (Str × Int × Int)) (m : Int), 1 ≤ m → code.length + f.words.length < 1000 → (forN initB (enF f.words n) (code, m)).sat (· = (code ++ f.code, m - 1)) := by
  induction f with
  | cmp s c =>
    intro n code m hm hz
    refine sat_forN_cons (initB_one (dec_c s c) (by rw [op_c]; try rfl) hm (by omega)) fun s' e => sat_forN_nil ?_
    rw [e]; simp [Fm.code]
  | mark c s k =>
    intro n code m hm hz
    refine sat_forN_cons (initB_one (dec_m c s ok) (by rw [op_m]; try rfl) hm (by omega)) fun s' e => sat_forN_nil ?_
    rw [e]; simp [Fm.code]
  | un i f ih =>
    intro n code m hm hz
    simp only [Fm.words, List.length_cons] at hz
    rw [Fm.words, enF_cons]
    refine sat_forN_cons (initB_one (dec_u i) (by rw [op_u]; try rfl) hm (by omega)) fun s' e => ?_
    rw [e]
    refine sat_mono (ih ok (n + 1) _ (m + 1 - 1) (by omega) (by simp; omega)) fun s h => ?_
    rw [h]; simp [Fm.code]
  | bin i f g ih1 ih2 =>
    intro n code m hm hz
    simp only [Fm.words, List.length_cons, List.length_append] at hz
    rw [Fm.words, enF_cons, enF_app]
    refine sat_forN_cons (initB_one (dec_b i) (by rw [op_b]; try rfl) hm (by omega)) fun s' e => ?_
    rw [e]
    refine sat_forN_app (ih1 ok.1 (n + 1) _ (m + 2 - 1) (by omega) (by simp; omega)) fun s h => ?_
    rw [h]
    refine sat_mono (ih2 ok.2 _ _ (m + 2 - 1 - 1) (by omega) (by simp [fm_code_len]; omega)) fun s h => ?_
    rw [h]; simp [Fm.code]; omega
theorem init_sat {f : Fm} (ok : f.Ok) (h40 : f.words.length ≤ 40) : (m_Formula___init__ f.words).sat (· = fmV f) := by
  unfold m_Formula___init__
  refine sat_ite (fun h => absurd (of_decide_eq_true h) (by omega)) fun _ => sat_bnd (sat_bnd (sat_bind (init_fm f ok 0 [] 1 (by omega) (by simp; omega)) fun s h => ?_))
  rw [h]
  exact sat_ite (fun h => (by cases h)) fun _ => sat_ret (by simp [fmV])
end DL

set_option Elab.async false
set_option linter.all false
set_option maxRecDepth 100000
set_option maxHeartbeats 4000000
namespace DL
open PySem PySem.Spec PyProof.Rows L2 TL
theorem meets_sat (s : Fin 3) (a b : Int) : (m_meets (cS (sN s)) a b).sat (· = Fm.meets s a b) := by
  have e1 : ∀ s : Fin 3, decide (cS (sN s) = Str.ofString "<") = decide (s = 0) := by decide +kernel
  have e2 : ∀ s : Fin 3, decide (cS (sN s) = Str.ofString ">") = decide (s = 1) := by decide +kernel
  unfold m_meets Fm.meets
  refine sat_ite (fun h => ?_) fun h => sat_ite (fun h2 => ?_) fun h2 => ?_
  · rw [e1] at h
    rw [if_pos (of_decide_eq_true h)]; exact sat_ret rfl
  · rw [e1] at h; rw [e2] at h2
    rw [if_neg (of_decide_eq_false h), if_pos (of_decide_eq_true h2)]; exact sat_ret rfl
  · rw [e1] at h; rw [e2] at h2
    rw [if_neg (of_decide_eq_false h), if_neg (of_decide_eq_false h2)]; exact sat_ret rfl
theorem cmp_sat (s : Fin 3) (k a b : Int) : (m_compared (cS (sN s)) k a b).sat (· = (Fm.meets s a b, Fm.meets s b a)) := by
  have e1 : ∀ s : Fin 3, decide ((cutS (cS (sN s)) none (some (3 : Int))) = (Str.ofString "row")) = false := by decide +kernel
  obtain ⟨a1, a2⟩ := meets_sat s a b
  obtain ⟨b1, b2⟩ := meets_sat s b a
  unfold m_compared
  refine sat_req (by rw [size_big]; show 1 ≤ 16777216; omega) (sat_ite (fun h => ?_) fun h => sat_req ⟨a1, b1⟩ (sat_ret ?_))
  · rw [e1] at h; cases h
  · rw [a2, b2]
theorem mark_sat (s : Fin 3) (k a b : Int) : (m_compared (Str.ofString "row" ++ cS (sN s)) k a b).sat (· = (Fm.meets s a k, Fm.meets s b k)) := by
  have e1 : ∀ s : Fin 3, decide ((cutS (Str.ofString "row" ++ cS (sN s)) none (some (3 : Int))) = (Str.ofString "row")) = true := by decide +kernel
  have e2 : ∀ s : Fin 3, ixS (Str.ofString "row" ++ cS (sN s)) 3 = sN s := by decide +kernel
  have e3 : ∀ s : Fin 3, (Str.ofString "row" ++ cS (sN s)).length = 4 := by decide +kernel
  obtain ⟨a1, a2⟩ := meets_sat s a k
  obtain ⟨b1, b2⟩ := meets_sat s b k
  unfold m_compared
  refine sat_req (by rw [size_big, e3]; omega) (sat_ite (fun h => sat_req ⟨by rw [e3]; decide, by rw [e2]; exact a1, by rw [e2]; exact b1⟩ (sat_ret ?_)) fun h => ?_)
  · rw [e2, a2, b2]
  · rw [e1] at h; cases h
theorem un_sat (i : Fin 2) (p : Bool × Bool) : (m_changed (uW i) p).sat (· = Fm.unP i p) := by
  have e1 : ∀ i : Fin 2, decide (uW i = Str.ofString "not") = decide (i = 0) := by decide +kernel
  unfold m_changed Fm.unP
  refine sat_ite (fun h => ?_) fun h => ?_
  · rw [e1] at h; rw [if_pos (of_decide_eq_true h)]; exact sat_ret rfl
  · rw [e1] at h; rw [if_neg (of_decide_eq_false h)]; exact sat_ret rfl
theorem bin_sat (i : Fin 4) (p q : Bool × Bool) : (m_joined (bW i) p q).sat (· = Fm.binP i p q) := by
  have e1 : ∀ i : Fin 4, decide (bW i = Str.ofString "and") = decide (i = 0) := by decide +kernel
  have e2 : ∀ i : Fin 4, decide (bW i = Str.ofString "or") = decide (i = 1) := by decide +kernel
  have e3 : ∀ i : Fin 4, decide (bW i = Str.ofString "else") = decide (i = 2) := by decide +kernel
  unfold m_joined Fm.binP
  refine sat_ite (fun h => ?_) fun h => sat_ite (fun h2 => ?_) fun h2 => sat_ite (fun h3 => ?_) fun h3 => ?_
  · rw [e1] at h; rw [if_pos (of_decide_eq_true h)]; exact sat_ret rfl
  · rw [e1] at h; rw [e2] at h2
    rw [if_neg (of_decide_eq_false h), if_pos (of_decide_eq_true h2)]; exact sat_ret rfl
  · rw [e1] at h; rw [e2] at h2; rw [e3] at h3
    rw [if_neg (of_decide_eq_false h), if_neg (of_decide_eq_false h2), if_pos (of_decide_eq_true h3)]; exact sat_ret rfl
  · rw [e1] at h; rw [e2] at h2; rw [e3] at h3
    rw [if_neg (of_decide_eq_false h), if_neg (of_decide_eq_false h2), if_neg (of_decide_eq_false h3)]; exact sat_ret rfl
abbrev holdB (v_row v_other : Row) : Str × Int × Int → List (Bool × Bool) → Cmp (List (Bool × Bool)) := (fun ((v_word, v_at, v_constant) : Str × Int × Int) (v_stack : (List (Bool × Bool))) => if (decide (v_at ≥ (0 : Int))) = true then (.req ((0 ≤ v_at ∧ v_at < 3) ∧ ((m_compared v_word v_constant (rowAt v_row v_at) (rowAt v_other v_at)).ok) ∧ (v_stack.length < sizeLine)) (.bnd (v_stack ++ [(m_compared v_word v_constant (rowAt v_row v_at) (rowAt v_other v_at)).val]) fun v_stack => .ret v_stack)) else (.req (((opsT v_word).isSome = true)) (if (decide (((opsT v_word).getD default) = (1 : Int))) = true then (.req ((0 < v_stack.length) ∧ ((m_changed v_word (lastL v_stack)).ok) ∧ (v_stack.length < sizeLine)) (.bnd (v_stack.dropLast ++ [(m_changed v_word (lastL v_stack)).val]) fun v_stack => .ret v_stack)) else (.req ((0 < v_stack.length)) (.bnd (lastL v_stack) fun (v_first : Bool × Bool) => .bnd v_stack.dropLast fun v_stack => .req ((0 < v_stack.length)) (.bnd (lastL v_stack) fun (v_second : Bool × Bool) => .bnd v_stack.dropLast fun v_stack => .req (((m_joined v_word v_first v_second).ok) ∧ (v_stack.length < sizeLine)) (.bnd (v_stack ++ [(m_joined v_word v_first v_second).val]) fun v_stack => .ret v_stack)))))))
theorem lastL_app {α : Type} [Inhabited α] (l : List α) (x : α) : lastL (l ++ [x]) = x := by simp [lastL]
theorem hold_fm (r o : Row) (f : Fm) : ∀ st : List (Bool × Bool), st.length + f.words.length < 1000 → (forN (holdB r o) f.code.reverse st).sat (· = st ++ [f.pr r o]) := by
  induction f with
  | cmp s c =>
    intro st hz
    obtain ⟨c1, c2⟩ := cmp_sat s 0 (rowAt r (c.val : Int)) (rowAt o (c.val : Int))
    refine sat_forN_cons (P := fun s' => s' = st ++ [(Fm.cmp s c).pr r o]) (sat_ite (fun _ => sat_req ⟨⟨by omega, by omega⟩, c1, by rw [size_big]; omega⟩ (sat_bnd (sat_ret ?_))) fun h => ?_) fun s' e => sat_forN_nil e
    · rw [c2]; rfl
    · have := of_decide_eq_false h; omega
  | mark c s k =>
    intro st hz
    obtain ⟨c1, c2⟩ := mark_sat s k (rowAt r (c.val : Int)) (rowAt o (c.val : Int))
    refine sat_forN_cons (P := fun s' => s' = st ++ [(Fm.mark c s k).pr r o]) (sat_ite (fun _ => sat_req ⟨⟨by omega, by omega⟩, c1, by rw [size_big]; omega⟩ (sat_bnd (sat_ret ?_))) fun h => ?_) fun s' e => sat_forN_nil e
    · rw [c2]; rfl
    · have := of_decide_eq_false h; omega
  | un i f ih =>
    intro st hz
    simp only [Fm.words, List.length_cons] at hz
    rw [Fm.code, List.reverse_cons]
    refine sat_forN_app (ih st (by omega)) fun s' e => ?_
    subst e
    obtain ⟨c1, c2⟩ := un_sat i (f.pr r o)
    refine sat_forN_cons (P := fun s' => s' = st ++ [(Fm.un i f).pr r o]) (sat_ite (fun h => absurd (of_decide_eq_true h) (by omega)) fun _ => sat_req (by rw [op_u]; rfl) (sat_ite (fun _ => sat_req ⟨by simp, by rw [lastL_app]; exact c1, by rw [size_big]; simp; omega⟩ (sat_bnd (sat_ret ?_))) fun h => ?_)) fun s' e => sat_forN_nil e
    · rw [lastL_app, c2, List.dropLast_concat]; rfl
    · rw [op_u] at h; exact absurd h (by decide)
  | bin i f g ih1 ih2 =>
    intro st hz
    simp only [Fm.words, List.length_cons, List.length_append] at hz
    rw [Fm.code, List.reverse_cons, List.reverse_append]
    refine sat_forN_app (sat_forN_app (ih2 st (by omega)) fun s' e => by
      rw [e]; exact ih1 _ (by simp; omega)) fun s' e => ?_
    subst e
    obtain ⟨c1, c2⟩ := bin_sat i (f.pr r o) (g.pr r o)
    refine sat_forN_cons (P := fun s' => s' = st ++ [(Fm.bin i f g).pr r o]) (sat_ite (fun h => absurd (of_decide_eq_true h) (by omega)) fun _ => sat_req (by rw [op_b]; rfl) (sat_ite (fun h => ?_) fun _ => sat_req (by simp) (sat_bnd (sat_bnd ?_)))) fun s' e => sat_forN_nil e
    · rw [op_b] at h; exact absurd h (by decide)
    · rw [lastL_app, List.dropLast_concat]
      refine sat_req (by simp) (sat_bnd (sat_bnd ?_))
      rw [lastL_app, List.dropLast_concat]
      refine sat_req ⟨c1, by rw [size_big]; omega⟩ (sat_bnd (sat_ret ?_))
      rw [c2]; rfl
theorem holds_sat (f : Fm) (h40 : f.words.length ≤ 40) (r o : Row) : (m_Formula_holds (fmV f) r o).sat (· = (f.pr r o).1) := by
  unfold m_Formula_holds
  refine sat_bnd (sat_bind (hold_fm r o f [] (by simp; omega)) fun s' e => ?_)
  rw [e]
  exact sat_req (by simp) (sat_ret rfl)
end DL

set_option Elab.async false
set_option linter.all false
set_option maxRecDepth 100000
set_option maxHeartbeats 4000000
namespace DL
open PySem PySem.Spec PyProof.Rows L2 TL
structure GoodW (w : Str) : Prop where
  two : 2 ≤ w.length
  len : w.length ≤ 100
  num : sg w 0 ∈ (Str.ofString "abc").cps.toList → sg w 1 ∈ (Str.ofString "<>=").cps.toList → IntOk (cutS w (some 2) none) ∧ intD (cutS w (some 2) none) = intD (cutS w (some 2) none)
theorem int_ok {k : Int} (hk : k.natAbs < 10 ^ 18) : IntOk (Str.ofString (toString k)) ∧ intD (Str.ofString (toString k)) = k := by
  obtain ⟨c1, c2, c3, _⟩ := constM_num hk
  have h := c1
  unfold constM at h
  split at h
  · cases h
  · rename_i h1
    split at h
    · cases h
    · rename_i h2
      split at h
      · cases h
      · have e := digs_some c3 (Decidable.not_not.mp h1) (by simpa using h2)
        exact ⟨⟨by rw [e]; rfl, by omega⟩, Option.some.inj h⟩
theorem goodW (f : Fm) (ok : f.Ok) : ∀ w ∈ f.words, GoodW w := by
  induction f with
  | cmp s c =>
    intro w hw
    obtain rfl : w = cmpW s c := by simpa [Fm.words] using hw
    exact ⟨Nat.le_refl 2, by show 2 ≤ 100; decide, fun h _ => absurd h (sN_not s)⟩
  | mark c s k =>
    intro w hw
    obtain rfl : w = markW c s k := by simpa [Fm.words] using hw
    obtain ⟨c1, c2, c3, _⟩ := constM_num (c := k) ok
    have hl := mark_len c s k
    exact ⟨by omega, by omega, fun _ _ => ⟨by rw [mark_cut]; exact (int_ok ok).1, rfl⟩⟩
  | un i f ih =>
    intro w hw
    rcases List.mem_cons.mp hw with rfl | hw
    · have e1 : ∀ i : Fin 2, 2 ≤ (uW i).length ∧ (uW i).length ≤ 100 ∧ sg (uW i) 1 ∉ (Str.ofString "<>=").cps.toList := by decide +kernel
      exact ⟨(e1 i).1, (e1 i).2.1, fun _ h => absurd h (e1 i).2.2⟩
    · exact ih ok w hw
  | bin i f g ih1 ih2 =>
    intro w hw
    rcases List.mem_cons.mp hw with rfl | hw
    · have e1 : ∀ i : Fin 4, 2 ≤ (bW i).length ∧ (bW i).length ≤ 100 ∧ sg (bW i) 1 ∉ (Str.ofString "<>=").cps.toList := by decide +kernel
      exact ⟨(e1 i).1, (e1 i).2.1, fun _ h => absurd h (e1 i).2.2⟩
    · rcases List.mem_append.mp hw with hw | hw
      · exact ih1 ok.1 w hw
      · exact ih2 ok.2 w hw
theorem fin_of {n : Nat} [NeZero n] {i : Int} (h0 : 0 ≤ i) (h1 : i < (n : Int)) : ∃ k : Fin n, (k.val : Int) = i := ⟨⟨i.toNat, by omega⟩, by simp; omega⟩
end DL

set_option Elab.async false
set_option linter.all false
set_option maxRecDepth 100000
set_option maxHeartbeats 4000000
namespace DL
open PySem PySem.Spec PyProof.Rows L2 TL
theorem take_at {α : Type} {xs : List α} {i : Nat} {x : α} (h : xs[i]? = some x) : xs.take (i + 1) = xs.take i ++ [x] := by rw [List.take_succ, h]; rfl
theorem filter_t {α : Type} (xs : List α) : (xs.filter (fun _ => true)) = xs := List.filter_eq_self.mpr fun _ _ => rfl
theorem sat_quiet {α R : Type} {L : Type} {xs : List α} {f : α → Unit → Cmp (Ctl Unit Unit R)} (hs : ∀ x ∈ xs, (f x ()).sat (· = .nx ())) : (forC (L := L) f xs ()).sat (· = .nx ()) := by
  refine sat_mono (sat_forC (fun _ _ => True) trivial fun i x s hx _ => sat_mono (hs x (List.mem_of_getElem? hx)) fun c hc => ⟨(), .inl hc, trivial⟩) fun c hc => ?_
  obtain ⟨s', e, _⟩ := hc
  exact e
theorem range_mem {n : Nat} {x : Int} (h : x ∈ rangeL 0 (n : Int)) : 0 ≤ x ∧ x < (n : Int) := by
  unfold rangeL at h
  obtain ⟨i, hi, e⟩ := List.mem_map.mp h
  have := List.mem_range.mp hi
  omega
abbrev bt (f : Fm) (r o : Row) : Bool := (f.pr r o).1
end DL

set_option Elab.async false
set_option linter.all false
set_option maxRecDepth 100000
set_option maxHeartbeats 4000000
namespace DL
open PySem PySem.Spec PyProof.Rows L2 TL
def Fm.tr : Fm → Tr
  | .cmp s c => .leaf (cmpW s c)
  | .mark c s k => .leaf (markW c s k)
  | .un i f => .un (uW i) f.tr
  | .bin i f g => .bin (bW i) f.tr g.tr
def Fm.dep : Fm → Nat
  | .cmp _ _ => 0
  | .mark _ _ _ => 0
  | .un _ f => f.dep + 1
  | .bin _ f g => max f.dep g.dep + 1
def TreeP (d n : Nat) (t : Tr) : Prop := ∃ f : Fm, f.Ok ∧ t = f.tr ∧ f.dep ≤ d ∧ f.words.length ≤ n
theorem TreeP.mono {d n d' n' : Nat} {t : Tr} (h : TreeP d n t) (hd : d ≤ d') (hn : n ≤ n') : TreeP d' n' t := by
  obtain ⟨f, o, e, a, b⟩ := h; exact ⟨f, o, e, by omega, by omega⟩
theorem TreeP.un {d n : Nat} {t : Tr} (h : TreeP d n t) (i : Fin 2) : TreeP (d + 1) (n + 1) (Tr.un (uW i) t) := by
  obtain ⟨f, o, e, a, b⟩ := h
  exact ⟨.un i f, o, by rw [e]; rfl, by simp only [Fm.dep]; omega, by simp only [Fm.words, List.length_cons]; omega⟩
theorem TreeP.bin {d d' n n' : Nat} {t u : Tr} (h : TreeP d n t) (h' : TreeP d' n' u) (i : Fin 4) : TreeP (max d d' + 1) (n + n' + 1) (Tr.bin (bW i) t u) := by
  obtain ⟨f, o, e, a, b⟩ := h
  obtain ⟨g, o', e', a', b'⟩ := h'
  exact ⟨.bin i f g, ⟨o, o'⟩, by rw [e, e']; rfl, by simp only [Fm.dep]; omega, by simp only [Fm.words, List.length_cons, List.length_append]; omega⟩
theorem tl_ext (a b : Str) (h : tl a = tl b) : a = b := by
  obtain ⟨⟨a⟩⟩ := a
  obtain ⟨⟨b⟩⟩ := b
  exact congrArg (fun l => (⟨⟨l⟩⟩ : Str)) h
theorem app_assoc (a b c : Str) : (a ++ b) ++ c = a ++ (b ++ c) := tl_ext _ _ (by simp only [tl_app, List.append_assoc])
theorem join_app (y : Str) : ∀ {ws us : List Str}, ws ≠ [] → us ≠ [] → Str.join y (ws ++ us) = Str.join y ws ++ y ++ Str.join y us
  | [], _, h, _ => absurd rfl h
  | [w], [], _, h => absurd rfl h
  | [w], u :: us, _, _ => rfl
  | w :: v :: ws, us, _, h => by
    have ih := join_app y (ws := v :: ws) (us := us) (by simp) h
    show w ++ y ++ Str.join y ((v :: ws) ++ us) = (w ++ y ++ Str.join y (v :: ws)) ++ y ++ Str.join y us
    rw [ih]
    simp only [app_assoc]
theorem join_cons (y w : Str) {ws : List Str} (h : ws ≠ []) : Str.join y (w :: ws) = w ++ y ++ Str.join y ws := join_app y (ws := [w]) (by simp) h
theorem fm_ne (f : Fm) : f.words ≠ [] := List.length_pos_iff.mp (fm_pos f)
abbrev sp1 : Str := Str.ofString " "
theorem sp1_len : sp1.length = 1 := by decide +kernel
theorem join_small {f : Fm} (ok : f.Ok) : (Txt.join sp1 f.words).length ≤ f.words.length * 101 := by
  have h1 := StrLaws.join_length_le sp1 f.words
  rw [join_eq]
  have h2 : (f.words.map (·.length)).sum ≤ f.words.length * 100 := by
    have hg := fun w hw => (goodW f ok w hw).len
    generalize f.words = ws at hg
    induction ws with
    | nil => exact Nat.le_refl 0
    | cons w ws ih =>
      have := hg w List.mem_cons_self
      have := ih fun v hv => hg v (List.mem_cons_of_mem _ hv)
      simp only [List.map_cons, List.sum_cons, List.length_cons]
      omega
  rw [sp1_len] at h1
  omega
theorem text_sat (f : Fm) (ok : f.Ok) (h40 : f.words.length ≤ 40) : ∀ n, f.dep < n → (m_law_text n f.tr).sat (· = Txt.join sp1 f.words) := by
  have leaf : ∀ (n : Nat) (w : Str), (m_law_text (n + 1) (.leaf w)).sat (· = Txt.join sp1 [w]) := fun n w => by
    show Cmp.sat (b_law_text _ _) _
    unfold b_law_text
    exact sat_ite (fun _ => sat_req rfl (sat_ret (by rw [join_eq]; rfl))) fun h => (by cases h)
  have uL : ∀ i : Fin 2, (uW i).length ≤ 10 := by decide +kernel
  have bL : ∀ i : Fin 4, (bW i).length ≤ 10 := by decide +kernel
  induction f with
  | cmp s c =>
    intro n hn
    obtain ⟨n, rfl⟩ : ∃ k, n = k + 1 := ⟨n - 1, by omega⟩
    exact leaf n _
  | mark c s k =>
    intro n hn
    obtain ⟨n, rfl⟩ : ∃ k, n = k + 1 := ⟨n - 1, by omega⟩
    exact leaf n _
  | un i f ih =>
    intro n hn
    obtain ⟨n, rfl⟩ : ∃ k, n = k + 1 := ⟨n - 1, by omega⟩
    have hw : f.words.length ≤ 40 := by simp only [Fm.words, List.length_cons] at h40; omega
    obtain ⟨o, e⟩ := ih ok hw n (by simp only [Fm.dep] at hn; omega)
    show Cmp.sat (b_law_text _ _) _
    unfold b_law_text
    have ek : (Fm.un i f).tr.kids = [f.tr] := rfl
    have eh : (Fm.un i f).tr.head = uW i := rfl
    refine sat_ite (fun h => (by cases h)) fun _ => ?_
    rw [filter_t, ek, eh]
    simp only [List.map_cons, List.map_nil, e, List.singleton_append]
    have hs := join_small (f := f) ok
    have hu := uL i
    refine sat_req ⟨rfl, fun x hx => by rw [List.mem_singleton.mp hx]; exact o, by rw [size_big]; simp, fun x hx => by rw [List.mem_singleton.mp hx]; exact o, by rw [size_big]; simp, ?_⟩ (sat_ret ?_)
    · rw [sp1_len]; simp only [List.map_cons, List.map_nil, List.sum_cons, List.sum_nil, List.length_cons, List.length_nil]; omega
    · rw [join_eq, join_eq, join_eq]
      show uW i ++ sp1 ++ Str.join sp1 f.words = Str.join sp1 (uW i :: f.words)
      rw [join_cons _ _ (fm_ne f)]
  | bin i f g ih1 ih2 =>
    intro n hn
    obtain ⟨n, rfl⟩ : ∃ k, n = k + 1 := ⟨n - 1, by omega⟩
    simp only [Fm.words, List.length_cons, List.length_append] at h40
    simp only [Fm.dep] at hn
    obtain ⟨o, e⟩ := ih1 ok.1 (by omega) n (by omega)
    obtain ⟨o', e'⟩ := ih2 ok.2 (by omega) n (by omega)
    show Cmp.sat (b_law_text _ _) _
    unfold b_law_text
    have ek : (Fm.bin i f g).tr.kids = [f.tr, g.tr] := rfl
    have eh : (Fm.bin i f g).tr.head = bW i := rfl
    refine sat_ite (fun h => (by cases h)) fun _ => ?_
    rw [filter_t, ek, eh]
    simp only [List.map_cons, List.map_nil, e, e', List.singleton_append]
    have hs := join_small (f := f) ok.1
    have hs' := join_small (f := g) ok.2
    have hu := bL i
    have om : ∀ x ∈ [f.tr, g.tr], (m_law_text n x).ok := fun x hx => by
      rcases List.mem_cons.mp hx with rfl | hx
      · exact o
      · rw [List.mem_singleton.mp hx]; exact o'
    refine sat_req ⟨rfl, om, by rw [size_big]; simp, om, by rw [size_big]; simp, ?_⟩ (sat_ret ?_)
    · rw [sp1_len]; simp only [List.map_cons, List.map_nil, List.sum_cons, List.sum_nil, List.length_cons, List.length_nil]; omega
    · rw [join_eq, join_eq, join_eq, join_eq]
      show bW i ++ sp1 ++ (Str.join sp1 f.words ++ sp1 ++ Str.join sp1 g.words) = Str.join sp1 (bW i :: (f.words ++ g.words))
      rw [join_cons _ _ (by simp [fm_ne f]), join_app _ (fm_ne f) (fm_ne g)]
theorem fm_spc (f : Fm) (ok : f.Ok) : ∀ w ∈ f.words, 32 ∉ tl w := by
  induction f with
  | cmp s c =>
    have q : ∀ s c : Fin 3, 32 ∉ tl (cmpW s c) := by decide +kernel
    intro w hw; rw [List.mem_singleton.mp hw]; exact q s c
  | mark c s k =>
    intro w hw; rw [List.mem_singleton.mp hw, mark_tl]
    obtain ⟨_, _, _, c4⟩ := constM_num (c := k) ok
    have q : ∀ c : Fin 3, lN c ≠ 32 ∧ sN c ≠ 32 := by decide +kernel
    intro hm
    rcases List.mem_cons.mp hm with e | hm
    · exact (q c).1 e.symm
    · rcases List.mem_cons.mp hm with e | hm
      · exact (q s).2 e.symm
      · have := c4 32 hm; omega
  | un i f ih =>
    have q : ∀ i : Fin 2, 32 ∉ tl (uW i) := by decide +kernel
    intro w hw
    rcases List.mem_cons.mp hw with rfl | hw
    · exact q i
    · exact ih ok w hw
  | bin i f g ih1 ih2 =>
    have q : ∀ i : Fin 4, 32 ∉ tl (bW i) := by decide +kernel
    intro w hw
    rcases List.mem_cons.mp hw with rfl | hw
    · exact q i
    · exact (List.mem_append.mp hw).elim (ih1 ok.1 w) (ih2 ok.2 w)
theorem fm_split {f : Fm} (ok : f.Ok) : Txt.split (Txt.join sp1 f.words) sp1 = f.words := split_join (s := 32) (S := []) (by decide +kernel) (by decide +kernel) (fm_ne f) (fm_spc f ok)
end DL

set_option Elab.async false
set_option linter.all false
set_option maxRecDepth 100000
set_option maxHeartbeats 4000000
namespace DL
open PySem PySem.Spec PyProof.Rows L2 TL
structure FrOk (r : Str × List (Str × Int) × Int) : Prop where
  l0 : 0 < r.1.length
  l3 : r.1.length ≤ 3
  lt : ∀ i : Int, 0 ≤ i → i < (r.1.length : Int) → ∃ c : Fin 3, ixS r.1 i = lN c
  ml : r.2.1.length ≤ 3
  mks : ∀ p ∈ r.2.1, ∃ c : Fin 3, p.1 = cS (lN c) ∧ p.2.natAbs < 10 ^ 18
  bs : r.2.2.natAbs ≤ 10 ^ 15
theorem ixL_mem {α : Type} [Inhabited α] {xs : List α} {i : Int} (h0 : 0 ≤ i) (h : i < (xs.length : Int)) : ixL xs i ∈ xs := by
  have hi : i.toNat < xs.length := by omega
  have e : ixL xs i = xs[i.toNat] := by unfold ixL; simp [hi]
  rw [e]; exact List.getElem_mem hi
abbrev perms : List Str := [(Str.ofString "abc"), (Str.ofString "acb"), (Str.ofString "bac"), (Str.ofString "bca"), (Str.ofString "cab"), (Str.ofString "cba")]
theorem let_all : ∀ a : Fin 6, ∀ m : Fin 3, (cutS (ixL perms (a.val : Int)) none (some ((m.val : Int) + 1))).length = m.val + 1 ∧ (ixL perms (a.val : Int)).length = 3 ∧ ∀ i : Fin 3, i.val < m.val + 1 → (ixS (cutS (ixL perms (a.val : Int)) none (some ((m.val : Int) + 1))) (i.val : Int)) ∈ [97, 98, 99] := by decide +kernel
theorem shape_all : ∀ a : Fin 9, (1 ≤ ixL ([(2 : Int), (1 : Int), (2 : Int), (1 : Int), (3 : Int), (2 : Int), (2 : Int), (3 : Int), (1 : Int)] : List Int) (a.val : Int) ∧ ixL ([(2 : Int), (1 : Int), (2 : Int), (1 : Int), (3 : Int), (2 : Int), (2 : Int), (3 : Int), (1 : Int)] : List Int) (a.val : Int) ≤ 3) ∧ (0 ≤ ixL ([(1 : Int), (1 : Int), (0 : Int), (2 : Int), (0 : Int), (2 : Int), (1 : Int), (1 : Int), (3 : Int)] : List Int) (a.val : Int) ∧ ixL ([(1 : Int), (1 : Int), (0 : Int), (2 : Int), (0 : Int), (2 : Int), (1 : Int), (1 : Int), (3 : Int)] : List Int) (a.val : Int) ≤ 3) := by decide +kernel
theorem base_all : ∀ a : Fin 4, (ixL ([(0 : Int), (0 : Int), (1000 : Int), (-(((10 : Int) : Int) ^ ((15 : Int) : Int).toNat))] : List Int) (a.val : Int)).natAbs ≤ 1000000000000000 := by decide +kernel
theorem far_all : ∀ a : Fin 5, 0 ≤ ixL ([(0 : Int), (0 : Int), (0 : Int), (20 : Int), (((10 : Int) : Int) ^ ((16 : Int) : Int).toNat)] : List Int) (a.val : Int) ∧ ixL ([(0 : Int), (0 : Int), (0 : Int), (20 : Int), (((10 : Int) : Int) ^ ((16 : Int) : Int).toNat)] : List Int) (a.val : Int) ≤ 10000000000000000 := by decide +kernel
theorem lN_of {n : Nat} (h : n ∈ [97, 98, 99]) : ∃ c : Fin 3, n = lN c := by
  rcases (by simpa using h : n = 97 ∨ n = 98 ∨ n = 99) with rfl | rfl | rfl
  · exact ⟨0, rfl⟩
  · exact ⟨1, rfl⟩
  · exact ⟨2, rfl⟩
theorem frame_sat {pool : List Int} {n shapes : Int} (hp : PoolOk n pool) (hn : 10 ≤ n) (s0 : 0 < shapes) (s9 : shapes ≤ 9) : (m_law_frame pool shapes).sat FrOk := by
  obtain ⟨i0, a0, b0⟩ := hp.at (i := 0) (by omega) (by omega)
  obtain ⟨i1, a1, b1⟩ := hp.at (i := 1) (by omega) (by omega)
  obtain ⟨i2, a2, b2⟩ := hp.at (i := 2) (by omega) (by omega)
  have hsh0 := Int.emod_nonneg (ixL pool 0) (show shapes ≠ 0 by omega)
  have hsh1 := Int.emod_lt_of_pos (ixL pool 0) s0
  unfold m_law_frame
  refine sat_req ⟨i0, s0⟩ (sat_bnd (sat_req ⟨hsh0, by omega⟩ (sat_bnd (sat_bnd ?_))))
  obtain ⟨sh, esh⟩ := fin_of (n := 9) (i := ixL pool 0 % shapes) hsh0 (by omega)
  obtain ⟨q1, q2⟩ := shape_all sh
  rw [esh] at q1 q2
  generalize (ixL _ (ixL pool 0 % shapes) : Int) = many at q1 ⊢
  generalize (ixL _ (ixL pool 0 % shapes) : Int) = count at q2 ⊢
  obtain ⟨pa, epa⟩ := fin_of (n := 6) (i := ixL pool 1 % 6) (by omega) (by omega)
  obtain ⟨m, em⟩ := fin_of (n := 3) (i := many - 1) (by omega) (by omega)
  obtain ⟨l1, l2, l3⟩ := let_all pa m
  rw [epa, show (m.val : Int) + 1 = many by omega] at l1 l3
  rw [epa] at l2
  refine sat_req ⟨i1, by rw [size_big]; show (ixL perms _).length ≤ _; rw [l2]; decide⟩ (sat_bnd (sat_req i2 (sat_bnd (sat_bnd (sat_bnd (sat_req (by omega) ?_))))))
  obtain ⟨ba, eba⟩ := fin_of (n := 4) (i := ixL pool 2 % 4) (by omega) (by omega)
  have hb := base_all ba
  rw [eba] at hb
  generalize (ixL _ (ixL pool 2 % 4) : Int) = base at hb ⊢
  obtain ⟨fa, efa⟩ := fin_of (n := 5) (i := ixL pool 2 / 4 % 5) (by omega) (by omega)
  have hf := far_all fa
  rw [efa] at hf
  generalize (ixL _ (ixL pool 2 / 4 % 5) : Int) = far at hf ⊢
  generalize hL : cutS (ixL perms (ixL pool 1 % 6)) none (some many) = L at l1 l3
  have e18 : (10 : Nat) ^ 18 = 1000000000000000000 := by decide
  have e15 : (10 : Nat) ^ 15 = 1000000000000000 := by decide
  have hlet : ∀ i : Int, 0 ≤ i → i < (L.length : Int) → ∃ c : Fin 3, ixS L i = lN c := fun i h0 h1 => by
    obtain ⟨j, ej⟩ := fin_of (n := 3) (i := i) h0 (by omega)
    have := l3 j (by omega)
    rw [ej] at this
    exact lN_of this
  refine sat_bind (sat_forR (fun i (r : List (Str × Int)) => r.length = i ∧ ∀ p ∈ r, ∃ c : Fin 3, p.1 = cS (lN c) ∧ p.2.natAbs < 10 ^ 18) ⟨rfl, by simp⟩ fun i r hi hr => ?_) fun r hr => sat_ret ⟨?_, ?_, ?_, ?_, hr.2, ?_⟩
  · obtain ⟨i4, a4, b4⟩ := hp.at (i := 4 + 2 * (i : Int)) (by omega) (by omega)
    obtain ⟨i3, a3, b3⟩ := hp.at (i := 3 + 2 * (i : Int)) (by omega) (by omega)
    have hd0 := Int.emod_nonneg (ixL pool (3 + 2 * (i : Int))) (show many ≠ 0 by omega)
    have hd1 := Int.emod_lt_of_pos (ixL pool (3 + 2 * (i : Int))) (show 0 < many by omega)
    have hl : ((m.val + 1 : Nat) : Int) = many := by omega
    refine sat_req ⟨i4, .inl ⟨by omega, by omega⟩⟩ (sat_bnd (sat_req ⟨i3, by omega, ⟨hd0, by omega⟩, by rw [size_big]; omega, by rw [size_big]; omega⟩ (sat_bnd (sat_ret ⟨by simp [hr.1], fun p hp => ?_⟩))))
    rcases List.mem_append.mp hp with hp | hp
    · exact hr.2 p hp
    · rw [List.mem_singleton.mp hp]
      obtain ⟨c, ec⟩ := hlet _ hd0 (by omega)
      refine ⟨c, by rw [← ec], ?_⟩
      rw [e18]
      have h3 : i = 0 ∨ i = 1 ∨ i = 2 := by omega
      show ((base + ixL pool (4 + 2 * (i : Int)) % 7 - 3) + (i : Int) * far).natAbs < _
      have hz : 0 ≤ ixL pool (4 + 2 * (i : Int)) % 7 ∧ ixL pool (4 + 2 * (i : Int)) % 7 < 7 := by omega
      generalize ixL pool (4 + 2 * (i : Int)) % 7 = z at hz ⊢
      clear i3 i4 a3 b3 a4 b4 hr hd0 hd1 hl hp
      rcases h3 with rfl | rfl | rfl <;> omega
  · show 0 < L.length; omega
  · show L.length ≤ 3; omega
  · exact hlet
  · have := hr.1; show r.length ≤ 3; omega
  · rw [e15]; exact hb
theorem atom_is {p : Str × Int} {c : Fin 3} (e : p.1 = cS (lN c)) (s : Fin 3) : (p.1 ++ cS (sN s)) ++ Str.ofString (toString p.2) = markW c s p.2 := by rw [e]
theorem sg_ix : ∀ s : Fin 3, ixS (Str.ofString "<>=") (s.val : Int) = sN s := by decide +kernel
theorem sg_ix2 : ∀ s : Fin 2, ixS (Str.ofString "<>") (s.val : Int) = sN ⟨s.val, by omega⟩ := by decide +kernel
theorem log2_18 {i : Int} (h : i.natAbs < 10 ^ 18) : i.natAbs.log2 < 1920 := log2_small h
theorem markd_sat {ms : List (Str × Int)} {two x : Int} (hm : ∀ p ∈ ms, ∃ c : Fin 3, p.1 = cS (lN c) ∧ p.2.natAbs < 10 ^ 18) (h0 : 0 < (ms.length : Int)) :
    (0 ≤ two % (ms.length : Int) ∧ two % (ms.length : Int) < (ms.length : Int)) ∧ ∃ (c s : Fin 3), ixS (Str.ofString "<>=") (x % 3) = sN s ∧ (ixL ms (two % (ms.length : Int))).1 = cS (lN c) ∧ (ixL ms (two % (ms.length : Int))).2.natAbs < 10 ^ 18 := by
  have h1 := Int.emod_nonneg two (show (ms.length : Int) ≠ 0 by omega)
  have h2 := Int.emod_lt_of_pos two h0
  obtain ⟨c, e, k⟩ := hm _ (ixL_mem h1 h2)
  obtain ⟨s, es⟩ := fin_of (n := 3) (i := x % 3) (by omega) (by omega)
  exact ⟨⟨h1, h2⟩, c, s, by rw [← es, sg_ix], e, k⟩
theorem leaf_sat {r : Str × List (Str × Int) × Int} (h : FrOk r) {one two : Int} : (m_law_leaf one two r.1 r.2.1).sat fun w => TreeP 0 1 (Tr.leaf w) := by
  unfold m_law_leaf
  have hl := h.l0
  have hl3 := h.l3
  refine sat_ite (fun hb => ?_) fun _ => ?_
  · obtain ⟨b1, b2⟩ := (Bool.and_eq_true _ _).mp hb
    have b1 := of_decide_eq_true b1
    obtain ⟨q1, c, s, es, ec, hk⟩ := markd_sat (two := two) (x := two / 8) h.mks (by omega)
    obtain ⟨_, c2, _, _⟩ := constM_num hk
    refine sat_req ⟨by omega, q1⟩ (sat_bnd ?_)
    rw [es]
    generalize ixL r.2.1 (two % (r.2.1.length : Int)) = p at ec hk c2 ⊢
    rw [atom_is ec]
    refine sat_req ⟨by rw [ec, size_big]; show 1 + 1 ≤ _; decide, log2_18 hk, by rw [ec, size_big]; show 2 + _ ≤ _; omega⟩ (sat_ret ⟨.mark c s p.2, hk, rfl, Nat.le_refl 0, Nat.le_refl 1⟩)
  · have h1 := Int.emod_nonneg two (show (r.1.length : Int) ≠ 0 by omega)
    have h2 := Int.emod_lt_of_pos two (show 0 < (r.1.length : Int) by omega)
    obtain ⟨c, ec⟩ := h.lt _ h1 h2
    obtain ⟨s, es⟩ := fin_of (n := 3) (i := one / 3 % 3) (by omega) (by omega)
    refine sat_req ⟨by rw [size_big]; omega, by omega, h1, h2⟩ (sat_ret ?_)
    rw [← es, sg_ix, ec]
    exact ⟨.cmp s c, trivial, rfl, Nat.le_refl 0, Nat.le_refl 1⟩
theorem under_sat {d n : Nat} {t : Tr} (h : TreeP d n t) {one : Int} : (m_law_under t one).sat (TreeP (d + 1) (n + 1)) := by
  unfold m_law_under
  exact sat_ite (fun _ => sat_ret (h.un 0)) fun _ => sat_ite (fun _ => sat_ret (h.un 1)) fun _ => sat_ret (h.mono (by omega) (by omega))
theorem ranking_sat {r : Str × List (Str × Int) × Int} (h : FrOk r) {one two : Int} : (m_law_ranking one two r.1 r.2.1).sat (TreeP 3 5) := by
  unfold m_law_ranking
  have hl := h.l0
  have hl3 := h.l3
  refine sat_ite (fun hb => ?_) fun _ => ?_
  · obtain ⟨b1, b2⟩ := (Bool.and_eq_true _ _).mp hb
    have b1 := of_decide_eq_true b1
    obtain ⟨q1, c, s, es, ec, hk⟩ := markd_sat (two := two) (x := one / 4) h.mks (by omega)
    obtain ⟨_, c2, _, _⟩ := constM_num hk
    refine sat_req ⟨by omega, q1⟩ (sat_bnd ?_)
    rw [es]
    generalize ixL r.2.1 (two % (r.2.1.length : Int)) = p at ec hk c2 ⊢
    rw [atom_is ec]
    have ht : TreeP 0 1 (Tr.leaf (markW c s p.2)) := ⟨.mark c s p.2, hk, rfl, Nat.le_refl 0, Nat.le_refl 1⟩
    refine sat_req ⟨by rw [ec, size_big]; show 1 + 1 ≤ _; decide, log2_18 hk, by rw [ec, size_big]; show 2 + _ ≤ _; omega⟩ (sat_bnd (sat_ret ?_))
    exact (ht.bin ((ht.un 0).un 1) 0).mono (by decide) (by decide)
  · have h1 := Int.emod_nonneg two (show (r.1.length : Int) ≠ 0 by omega)
    have h2 := Int.emod_lt_of_pos two (show 0 < (r.1.length : Int) by omega)
    obtain ⟨c, ec⟩ := h.lt _ h1 h2
    obtain ⟨s, es⟩ := fin_of (n := 2) (i := one % 2) (by omega) (by omega)
    refine sat_req ⟨by rw [size_big]; omega, by omega, h1, h2⟩ (sat_ret ?_)
    rw [← es, sg_ix2, ec]
    exact TreeP.mono (d := 0) (n := 1) ⟨.cmp ⟨s.val, by omega⟩ c, trivial, rfl, Nat.le_refl 0, Nat.le_refl 1⟩ (by decide) (by decide)
theorem order_sat {pool : List Int} {n at_ : Int} (hp : PoolOk n pool) (h0 : 0 ≤ at_) (h1 : at_ + 6 < n) {r : Str × List (Str × Int) × Int} (h : FrOk r) : (m_law_order pool at_ r.1 r.2.1).sat (TreeP 5 17) := by
  obtain ⟨i0, a0, b0⟩ := hp.at (i := at_) (by omega) (by omega)
  obtain ⟨i1, _, _⟩ := hp.at (i := at_ + 1) (by omega) (by omega)
  obtain ⟨i2, _, _⟩ := hp.at (i := at_ + 2) (by omega) (by omega)
  obtain ⟨i3, _, _⟩ := hp.at (i := at_ + 3) (by omega) (by omega)
  obtain ⟨i4, _, _⟩ := hp.at (i := at_ + 4) (by omega) (by omega)
  obtain ⟨i5, _, _⟩ := hp.at (i := at_ + 5) (by omega) (by omega)
  obtain ⟨i6, _, _⟩ := hp.at (i := at_ + 6) (by omega) (by omega)
  unfold m_law_order
  obtain ⟨o1, t1⟩ := ranking_sat h (one := ixL pool (at_ + 1)) (two := ixL pool (at_ + 2))
  obtain ⟨o2, t2⟩ := ranking_sat h (one := ixL pool (at_ + 3)) (two := ixL pool (at_ + 4))
  obtain ⟨o3, t3⟩ := ranking_sat h (one := ixL pool (at_ + 5)) (two := ixL pool (at_ + 6))
  refine sat_req ⟨i1, i2, o1⟩ (sat_bnd (sat_req ⟨i3, i4, o2⟩ (sat_bnd (sat_req ⟨i5, i6, o3⟩ (sat_bnd (sat_req i0 (sat_bnd ?_)))))))
  refine sat_ite (fun _ => sat_ret (t1.mono (by decide) (by decide))) fun _ => sat_ite (fun _ => sat_ret ((t1.bin t2 2).mono (by decide) (by decide))) fun _ => sat_ite (fun _ => sat_ret ((t1.bin t2 3).mono (by decide) (by decide))) fun _ => sat_ite (fun _ => sat_ret ((t1.bin t2 0).mono (by decide) (by decide))) fun _ => sat_ite (fun _ => sat_ret ((t1.bin (t2.bin t3 3) 2).mono (by decide) (by decide))) fun _ => sat_ite (fun _ => sat_ret ((t1.bin (t2.bin t3 2) 3).mono (by decide) (by decide))) fun _ => sat_ite (fun _ => sat_ret (((t1.bin t2 3).un 1).mono (by decide) (by decide))) fun _ => sat_ret (((t1.bin t2 2).bin t3 0).mono (by decide) (by decide))
abbrev bWs : List Str := [(Str.ofString "and"), (Str.ofString "or"), (Str.ofString "else"), (Str.ofString "pareto")]
theorem bWs_at : ∀ i : Fin 4, ixL bWs (i.val : Int) = bW i := by decide +kernel
theorem bWs_of {x : Int} : ∃ i : Fin 4, ixL bWs (x % 4) = bW i := by
  obtain ⟨i, e⟩ := fin_of (n := 4) (i := x % 4) (by omega) (by omega)
  exact ⟨i, by rw [← e, bWs_at]⟩
theorem tree_sat {pool : List Int} {n at_ : Int} (hp : PoolOk n pool) (h0 : 0 ≤ at_) (h1 : at_ + 11 < n) {r : Str × List (Str × Int) × Int} (h : FrOk r) : (m_law_tree pool at_ r.1 r.2.1).sat (TreeP 5 17) := by
  obtain ⟨i0, _, _⟩ := hp.at (i := at_) (by omega) (by omega)
  obtain ⟨i1, _, _⟩ := hp.at (i := at_ + 1) (by omega) (by omega)
  obtain ⟨i2, _, _⟩ := hp.at (i := at_ + 2) (by omega) (by omega)
  obtain ⟨i3, _, _⟩ := hp.at (i := at_ + 3) (by omega) (by omega)
  obtain ⟨i4, _, _⟩ := hp.at (i := at_ + 4) (by omega) (by omega)
  obtain ⟨i5, _, _⟩ := hp.at (i := at_ + 5) (by omega) (by omega)
  obtain ⟨i6, _, _⟩ := hp.at (i := at_ + 6) (by omega) (by omega)
  obtain ⟨i7, _, _⟩ := hp.at (i := at_ + 7) (by omega) (by omega)
  obtain ⟨i8, _, _⟩ := hp.at (i := at_ + 8) (by omega) (by omega)
  obtain ⟨i9, a9, b9⟩ := hp.at (i := at_ + 9) (by omega) (by omega)
  obtain ⟨i10, a10, b10⟩ := hp.at (i := at_ + 10) (by omega) (by omega)
  obtain ⟨i11, a11, b11⟩ := hp.at (i := at_ + 11) (by omega) (by omega)
  obtain ⟨o1, t1⟩ := leaf_sat h (one := ixL pool at_) (two := ixL pool (at_ + 1))
  obtain ⟨p1, u1⟩ := under_sat t1 (one := ixL pool (at_ + 2))
  obtain ⟨o2, t2⟩ := leaf_sat h (one := ixL pool (at_ + 3)) (two := ixL pool (at_ + 4))
  obtain ⟨p2, u2⟩ := under_sat t2 (one := ixL pool (at_ + 5))
  obtain ⟨o3, t3⟩ := leaf_sat h (one := ixL pool (at_ + 6)) (two := ixL pool (at_ + 7))
  obtain ⟨p3, u3⟩ := under_sat t3 (one := ixL pool (at_ + 8))
  obtain ⟨x, ex⟩ := bWs_of (x := ixL pool (at_ + 9))
  obtain ⟨y, ey⟩ := bWs_of (x := ixL pool (at_ + 10))
  unfold m_law_tree
  have hl : (bWs.length : Int) = 4 := rfl
  refine sat_bnd (sat_req ⟨i0, i1, o1⟩ (sat_bnd (sat_req ⟨i2, p1⟩ (sat_bnd (sat_req ⟨i3, i4, o2⟩ (sat_bnd (sat_req ⟨i5, p2⟩ (sat_bnd (sat_req ⟨i6, i7, o3⟩ (sat_bnd (sat_req ⟨i8, p3⟩ (sat_bnd (sat_req ⟨i9, by rw [hl]; omega⟩ (sat_bnd (sat_req ⟨i10, by rw [hl]; omega⟩ (sat_bnd (sat_req i11 ?_)))))))))))))))))
  show Cmp.sat (if _ then _ else if _ then Cmp.ret (Tr.bin (ixL bWs _) _ _) else if _ then Cmp.req (Cmp.ok (m_law_under (Tr.bin (ixL bWs _) _ (Tr.bin (ixL bWs _) _ _)) _)) _ else _) _
  rw [ex, ey]
  obtain ⟨q1, v1⟩ := under_sat (u1.bin (u2.bin u3 y) x) (one := ixL pool (at_ + 11) / 4)
  obtain ⟨q2, v2⟩ := under_sat ((u1.bin u2 y).bin u3 x) (one := ixL pool (at_ + 11) / 4)
  exact sat_ite (fun _ => sat_ret (u1.mono (by decide) (by decide))) fun _ => sat_ite (fun _ => sat_ret ((u1.bin u2 x).mono (by decide) (by decide))) fun _ => sat_ite (fun _ => sat_req q1 (sat_ret (v1.mono (by decide) (by decide)))) fun _ => sat_req q2 (sat_ret (v2.mono (by decide) (by decide)))
theorem any_sat {pool : List Int} {n at_ : Int} (hp : PoolOk n pool) (h0 : 0 ≤ at_) (h1 : at_ + 12 < n) {r : Str × List (Str × Int) × Int} (h : FrOk r) : (m_law_any pool at_ r.1 r.2.1).sat (TreeP 5 17) := by
  obtain ⟨i0, _, _⟩ := hp.at (i := at_) (by omega) (by omega)
  obtain ⟨o1, t1⟩ := order_sat hp (at_ := at_ + 1) (by omega) (by omega) h
  obtain ⟨o2, t2⟩ := tree_sat hp (at_ := at_ + 1) (by omega) (by omega) h
  exact sat_req i0 (sat_ite (fun _ => sat_req o1 (sat_ret t1)) fun _ => sat_req o2 (sat_ret t2))
theorem value_sat {d b : Int} : (m_law_value d b).sat fun _ => True := by
  unfold m_law_value
  exact sat_ite (fun _ => sat_ret trivial) fun _ => sat_ite (fun _ => sat_ret trivial) fun _ => sat_ret trivial
theorem rows_sat (s : List Int) {start n b : Int} (h0 : 0 ≤ start) (hn : 0 ≤ n) (hn1 : n ≤ 1000) : (m_law_rows s start n b).sat fun r => r.length = n.toNat := by
  unfold m_law_rows
  refine sat_bnd (sat_req (by omega) (sat_bind (sat_forR (fun i (r : List Row) => r.length = i) rfl fun i r hi hr => ?_) fun r hr => sat_ret hr))
  obtain ⟨o, hp⟩ := pool_sat s (k := start + (i : Int)) (n := 4) (by omega) (by omega) (by omega)
  obtain ⟨i0, _, _⟩ := hp.at (i := 0) (by omega) (by omega)
  obtain ⟨i1, _, _⟩ := hp.at (i := 1) (by omega) (by omega)
  obtain ⟨i2, _, _⟩ := hp.at (i := 2) (by omega) (by omega)
  obtain ⟨i3, _, _⟩ := hp.at (i := 3) (by omega) (by omega)
  have hz : r.length < sizeLine := by rw [size_big]; omega
  refine sat_req o (sat_bnd (sat_req (fun _ => i3) (sat_ite (fun hb => ?_) fun _ => sat_req ⟨i0, value_sat.1, i1, value_sat.1, i2, value_sat.1, hz⟩ (sat_bnd (sat_ret (by simp [hr]))))))
  obtain ⟨b1, _⟩ := (Bool.and_eq_true _ _).mp hb
  have b1 := of_decide_eq_true b1
  have h1 := Int.emod_nonneg (ixL (m_law_pool s (start + (i : Int)) 4).val 0) (show (i : Int) ≠ 0 by omega)
  have h2 := Int.emod_lt_of_pos (ixL (m_law_pool s (start + (i : Int)) 4).val 0) (show 0 < (i : Int) by omega)
  exact sat_req ⟨i0, by omega, ⟨h1, by rw [hr]; exact h2⟩, hz⟩ (sat_bnd (sat_ret (by simp [hr])))
theorem isrow_sat (r : Row) : (m_law_is_row r).sat (· = true) := by
  unfold m_law_is_row
  exact sat_ite (fun h => (by cases h)) fun _ => sat_bindR (P := (· = .nx ())) (sat_quiet fun x _ => sat_ite (fun h => (by cases h)) fun _ => sat_ret rfl) fun c hc => by subst hc; exact sat_ret rfl
theorem isrows_sat {a b : List Row} (e : a = b) (hl : b.length ≤ 1000000) : (m_law_is_rows a b).sat (· = true) := by
  subst e
  unfold m_law_is_rows
  refine sat_ite (fun h => (by simp at h)) fun _ => sat_req ⟨by omega, by omega⟩ (sat_bindR (P := (· = .nx ())) (sat_quiet fun k hk => ?_) fun c hc => by subst hc; exact sat_ret rfl)
  have hr := range_mem hk
  obtain ⟨o1, o2⟩ := isrow_sat (ixL a k)
  refine sat_req ⟨hr, o1, fun _ => hr, fun _ => hr⟩ (sat_ite (fun h => ?_) fun _ => sat_ret rfl)
  rw [o2] at h; simp at h
end DL

set_option Elab.async false
set_option linter.all false
set_option maxRecDepth 100000
set_option maxHeartbeats 4000000
namespace DL
open PySem PySem.Spec PyProof.Rows L2 TL
theorem pr_swap (f : Fm) (r o : Row) : f.pr o r = ((f.pr r o).2, (f.pr r o).1) := by
  induction f with
  | cmp s c => rfl
  | mark c s k => rfl
  | un i f ih =>
    simp only [Fm.pr, ih]
    unfold Fm.unP
    split <;> rfl
  | bin i f g ih1 ih2 =>
    simp only [Fm.pr, ih1, ih2]
    unfold Fm.binP
    (repeat' split) <;> rfl
theorem meet_tail {s : Fin 3} {a b : Int} : Cmp.sat (if (decide ((cS (sN s)) = (Str.ofString "<"))) = true then (.ret (decide (a < b))) else (if (decide ((cS (sN s)) = (Str.ofString ">"))) = true then (.ret (decide (a > b))) else (.ret (decide (a = b)))) : Cmp Bool) (· = Fm.meets s a b) := meets_sat s a b
theorem atomc_sat (s c : Fin 3) (r o : Row) : (m_law_atom (cmpW s c) r o).sat (· = ((Fm.cmp s c).pr r o).1) := by
  have hl : (cmpW s c).length = 2 := rfl
  have e0 : ixS (cmpW s c) 0 = sN s := rfl
  have e1 : ixS (cmpW s c) 1 = lN c := rfl
  unfold m_law_atom
  rw [e0, e1, lN_find]
  refine sat_req ⟨⟨Int.le_refl 0, by omega⟩, by rw [size_big]; omega⟩ (sat_bind (P := (· = (rowAt r (c.val : Int), rowAt o (c.val : Int), sN s))) (sat_ite (fun _ => sat_req ⟨⟨by omega, by omega⟩, by omega, by omega⟩ (sat_bnd (sat_bnd (sat_bnd (sat_ret rfl))))) fun h => ?_) fun q hq => ?_)
  · rw [decide_eq_true (sN_mem s)] at h; cases h
  · subst hq
    exact meet_tail
theorem atomm_sat (c s : Fin 3) {k : Int} (hk : k.natAbs < 10 ^ 18) (r o : Row) : (m_law_atom (markW c s k) r o).sat (· = ((Fm.mark c s k).pr r o).1) := by
  obtain ⟨_, c2, c3, _⟩ := constM_num hk
  obtain ⟨q1, q2⟩ := int_ok hk
  have hl := mark_len c s k
  unfold m_law_atom
  rw [mark_0, mark_1, lN_find, mark_cut, q2]
  refine sat_req ⟨⟨Int.le_refl 0, by omega⟩, by rw [size_big]; omega⟩ (sat_bind (P := (· = (rowAt r (c.val : Int), k, sN s))) (sat_ite (fun h => ?_) fun _ => sat_req ⟨by omega, by omega⟩ (sat_bnd (sat_req q1 (sat_bnd (sat_req ⟨by omega, by omega⟩ (sat_bnd (sat_ret rfl))))))) fun q hq => ?_)
  · exact absurd (of_decide_eq_true h) (lN_not c)
  · subst hq
    exact meet_tail
theorem uW_is (i : Fin 2) : decide (uW i = Str.ofString "not") = decide (i = 0) ∧ decide (uW i = Str.ofString "flip") = decide (i = 1) := by revert i; decide +kernel
theorem bW_is (i : Fin 4) : decide (bW i = Str.ofString "not") = false ∧ decide (bW i = Str.ofString "flip") = false ∧ decide (bW i = Str.ofString "and") = decide (i = 0) ∧ decide (bW i = Str.ofString "or") = decide (i = 1) ∧ decide (bW i = Str.ofString "else") = decide (i = 2) := by revert i; decide +kernel
theorem fin2 (i : Fin 2) : i = 0 ∨ i = 1 := by revert i; decide
theorem fin4 (i : Fin 4) : i = 0 ∨ i = 1 ∨ i = 2 ∨ i = 3 := by revert i; decide
theorem lholds_sat (f : Fm) (ok : f.Ok) : ∀ (n : Nat) (r o : Row), f.dep < n → (m_law_holds n f.tr r o).sat (· = (f.pr r o).1) := by
  induction f with
  | cmp s c =>
    intro n r o hn
    obtain ⟨n, rfl⟩ : ∃ k, n = k + 1 := ⟨n - 1, by omega⟩
    obtain ⟨a1, a2⟩ := atomc_sat s c r o
    show Cmp.sat (b_law_holds _ _ _ _) _
    unfold b_law_holds
    exact sat_ite (fun _ => sat_req ⟨rfl, a1⟩ (sat_ret a2)) fun h => (by cases h)
  | mark c s k =>
    intro n r o hn
    obtain ⟨n, rfl⟩ : ∃ k, n = k + 1 := ⟨n - 1, by omega⟩
    obtain ⟨a1, a2⟩ := atomm_sat c s ok r o
    show Cmp.sat (b_law_holds _ _ _ _) _
    unfold b_law_holds
    exact sat_ite (fun _ => sat_req ⟨rfl, a1⟩ (sat_ret a2)) fun h => (by cases h)
  | un i f ih =>
    intro n r o hn
    obtain ⟨n, rfl⟩ : ∃ k, n = k + 1 := ⟨n - 1, by omega⟩
    simp only [Fm.dep] at hn
    obtain ⟨a1, a2⟩ := ih ok n r o (by omega)
    obtain ⟨b1, b2⟩ := ih ok n o r (by omega)
    show Cmp.sat (b_law_holds _ _ _ _) _
    unfold b_law_holds
    have eh : (Fm.un i f).tr.head = uW i := rfl
    have e1 : (Fm.un i f).tr.c1 = f.tr := rfl
    obtain ⟨w1, w2⟩ := uW_is i
    rw [eh, e1, w1, w2]
    refine sat_ite (fun h => (by cases h)) fun _ => sat_req rfl (sat_ite (fun h => sat_req a1 (sat_ret ?_)) fun h => sat_ite (fun h2 => sat_req b1 (sat_ret ?_)) fun h2 => ?_)
    · rw [a2, of_decide_eq_true h]; rfl
    · rw [b2, pr_swap, of_decide_eq_true h2]; rfl
    · rcases fin2 i with rfl | rfl
      · cases h
      · cases h2
  | bin i f g ih1 ih2 =>
    intro n r o hn
    obtain ⟨n, rfl⟩ : ∃ k, n = k + 1 := ⟨n - 1, by omega⟩
    simp only [Fm.dep] at hn
    obtain ⟨a1, a2⟩ := ih1 ok.1 n r o (by omega)
    obtain ⟨b1, b2⟩ := ih1 ok.1 n o r (by omega)
    obtain ⟨c1, c2⟩ := ih2 ok.2 n r o (by omega)
    obtain ⟨d1, d2⟩ := ih2 ok.2 n o r (by omega)
    show Cmp.sat (b_law_holds _ _ _ _) _
    unfold b_law_holds
    have eh : (Fm.bin i f g).tr.head = bW i := rfl
    have e1 : (Fm.bin i f g).tr.c1 = f.tr := rfl
    have e2 : (Fm.bin i f g).tr.c2 = g.tr := rfl
    obtain ⟨w1, w2, w3, w4, w5⟩ := bW_is i
    rw [eh, e1, e2, w1, w2, w3, w4, w5, a2, b2, c2, d2]
    rw [pr_swap f r o, pr_swap g r o]
    refine sat_ite (fun h => (by cases h)) fun _ => sat_req rfl (sat_ite (fun h => (by cases h)) fun _ => sat_ite (fun h => (by cases h)) fun _ => sat_req a1 (sat_bnd (sat_req ⟨rfl, c1⟩ (sat_bnd ?_))))
    show Cmp.sat _ (· = (Fm.binP i (f.pr r o) (g.pr r o)).1)
    generalize f.pr r o = p
    generalize g.pr r o = q
    obtain ⟨p1, p2⟩ := p
    obtain ⟨q1, q2⟩ := q
    refine sat_ite (fun h => sat_ret ?_) fun h => sat_ite (fun h2 => sat_ret ?_) fun h2 => sat_req b1 (sat_bnd (sat_ite (fun h3 => sat_ret ?_) fun h3 => sat_req (fun _ _ => d1) (sat_ret ?_)))
    · rw [of_decide_eq_true h]; rfl
    · rw [of_decide_eq_true h2]; rfl
    · rw [of_decide_eq_true h3]; rfl
    · have : i = 3 := by
        rcases fin4 i with rfl | rfl | rfl | rfl
        · cases h
        · cases h2
        · cases h3
        · rfl
      rw [this]; rfl
theorem read_sat {f : Fm} (ok : f.Ok) (h40 : f.words.length ≤ 40) : (m_Formula_read (Txt.join sp1 f.words)).sat (· = fmV f) := by
  have hj := join_small ok
  obtain ⟨o, e⟩ := init_sat ok h40
  unfold m_Formula_read
  rw [show Txt.split (Txt.join sp1 f.words) (Str.ofString " ") = f.words from fm_split ok]
  exact sat_req ⟨by rw [size_big]; omega, o⟩ (sat_ret e)
end DL

set_option Elab.async false
set_option linter.all false
set_option maxRecDepth 100000
set_option maxHeartbeats 4000000
namespace DL
open PySem PySem.Spec PyProof.Rows L2 TL
abbrev WSt := List (Row × Bool) × List Row
def winS (B : Row → Row → Bool) (sp : Int) (s : WSt) (r : Row) : WSt :=
  if s.1.any (fun p => B p.1 r) = true then s
  else if ((s.1.filter fun p => !B r p.1).length : Int) < sp then ((s.1.filter fun p => !B r p.1) ++ [(r, s.2.isEmpty)], s.2)
  else (s.1.filter fun p => !B r p.1, s.2 ++ [r])
def winF (B : Row → Row → Bool) (sp : Int) (rows : List Row) : WSt := rows.foldl (winS B sp) ([], [])
def setl (s : WSt) : List Row := (s.1.filter fun p => p.2).map (·.1)
def wtl (s : WSt) : List Row := (s.1.filter fun p => !p.2).map (·.1) ++ s.2
def scanF (B : Row → Row → Bool) (sp : Int) : Nat → List Row → List Row
  | 0, _ => []
  | n + 1, rows => if rows.isEmpty = true then [] else setl (winF B sp rows) ++ scanF B sp n (wtl (winF B sp rows))
structure WI (B : Row → Row → Bool) (sp : Int) (pre : List Row) (s : WSt) : Prop where
  sub1 : ∀ p ∈ s.1, p.1 ∈ pre
  sub2 : ∀ x ∈ s.2, x ∈ pre
  len : (s.1.length : Int) ≤ sp
  cov : ∀ r ∈ pre, (∃ b, (r, b) ∈ s.1) ∨ r ∈ s.2 ∨ ∃ p ∈ s.1, B p.1 r = true
  anti : ∀ p ∈ s.1, ∀ q ∈ s.1, B p.1 q.1 = false
  ear : ∀ p ∈ s.1, p.2 = true → ∀ r ∈ pre, B r p.1 = false
  ovf : ∀ p ∈ s.1, p.2 = true → ∀ x ∈ s.2, B p.1 x = false
  cnt : ∀ x, (∀ r ∈ pre, B r x = false) → (s.1.map (·.1)).count x + s.2.count x = pre.count x
theorem count_filt {B : Row → Row → Bool} {r x : Row} (h : B r x = false) : ∀ w : List (Row × Bool), ((w.filter fun p => !B r p.1).map (·.1)).count x = (w.map (·.1)).count x
  | [] => rfl
  | p :: w => by
    have ih := count_filt h w
    by_cases q : B r p.1 = true
    · have ne : p.1 ≠ x := fun z => by rw [z, h] at q; cases q
      rw [List.filter_cons_of_neg (by simp [q]), List.map_cons, List.count_cons_of_ne (by simpa using ne), ih]
    · rw [List.filter_cons_of_pos (by simp [q]), List.map_cons, List.map_cons, List.count_cons, List.count_cons, ih]
theorem WI.step {B : Row → Row → Bool} {sp : Int} (hi : ∀ x, B x x = false) (ht : ∀ x y z, B x y = true → B y z = true → B x z = true) (h1 : 1 ≤ sp) {pre : List Row} {s : WSt} (h : WI B sp pre s) (r : Row) : WI B sp (pre ++ [r]) (winS B sp s r) := by
  have mem : ∀ x, x ∈ pre ++ [r] ↔ x ∈ pre ∨ x = r := fun x => by simp
  unfold winS
  by_cases hd : s.1.any (fun p => B p.1 r) = true
  · rw [if_pos hd]
    obtain ⟨p0, hp0, hb0⟩ := List.any_eq_true.mp hd
    refine ⟨fun p hp => (mem _).mpr (.inl (h.sub1 p hp)), fun x hx => (mem _).mpr (.inl (h.sub2 x hx)), h.len, fun r' hr' => ?_, h.anti, fun p hp e r' hr' => ?_, h.ovf, fun x hx => ?_⟩
    · rcases (mem _).mp hr' with q | rfl
      · exact h.cov r' q
      · exact .inr (.inr ⟨p0, hp0, hb0⟩)
    · rcases (mem _).mp hr' with q | rfl
      · exact h.ear p hp e r' q
      · cases z : B r' p.1 with
        | false => rfl
        | true => have := ht _ _ _ hb0 z; rw [h.anti p0 hp0 p hp] at this; cases this
    · have nx : r ≠ x := by
        rintro rfl
        have := hx p0.1 ((mem _).mpr (.inl (h.sub1 p0 hp0)))
        rw [hb0] at this; cases this
      rw [List.count_append, List.count_cons_of_ne (by simpa using nx), List.count_nil, Nat.add_zero]
      exact h.cnt x fun r' q => hx r' ((mem _).mpr (.inl q))
  · rw [if_neg hd]
    have hno : ∀ p ∈ s.1, B p.1 r = false := fun p hp => by
      cases z : B p.1 r with
      | false => rfl
      | true => exact absurd (List.any_eq_true.mpr ⟨p, hp, z⟩) hd
    have hw : ∀ p, p ∈ (s.1.filter fun p => !B r p.1) ↔ p ∈ s.1 ∧ B r p.1 = false := fun p => by simp [List.mem_filter]
    have lw : (s.1.filter fun p => !B r p.1).length ≤ s.1.length := List.length_filter_le _ _
    by_cases hl : ((s.1.filter fun p => !B r p.1).length : Int) < sp
    · rw [if_pos hl]
      generalize hW : (s.1.filter fun p => !B r p.1) = w at hw lw hl
      have mw : ∀ p, p ∈ w ++ [(r, s.2.isEmpty)] ↔ p ∈ w ∨ p = (r, s.2.isEmpty) := fun p => by simp
      refine ⟨fun p hp => ?_, fun x hx => (mem _).mpr (.inl (h.sub2 x hx)), ?_, fun r' hr' => ?_, fun p hp q hq => ?_, fun p hp e r' hr' => ?_, fun p hp e x hx => ?_, fun x hx => ?_⟩
      · rcases (mw p).mp hp with q | rfl
        · exact (mem _).mpr (.inl (h.sub1 p ((hw p).mp q).1))
        · exact (mem _).mpr (.inr rfl)
      · rw [List.length_append, List.length_singleton]; omega
      · rcases (mem _).mp hr' with q | rfl
        · rcases h.cov r' q with ⟨b, q1⟩ | q1 | ⟨p, q1, q2⟩
          · cases z : B r r' with
            | false => exact .inl ⟨b, (mw _).mpr (.inl ((hw _).mpr ⟨q1, z⟩))⟩
            | true => exact .inr (.inr ⟨(r, s.2.isEmpty), (mw _).mpr (.inr rfl), z⟩)
          · exact .inr (.inl q1)
          · cases z : B r p.1 with
            | false => exact .inr (.inr ⟨p, (mw _).mpr (.inl ((hw _).mpr ⟨q1, z⟩)), q2⟩)
            | true => exact .inr (.inr ⟨(r, s.2.isEmpty), (mw _).mpr (.inr rfl), ht _ _ _ z q2⟩)
        · exact .inl ⟨_, (mw _).mpr (.inr rfl)⟩
      · rcases (mw p).mp hp with p1 | rfl <;> rcases (mw q).mp hq with q1 | rfl
        · exact h.anti p ((hw p).mp p1).1 q ((hw q).mp q1).1
        · exact hno p ((hw p).mp p1).1
        · exact ((hw q).mp q1).2
        · exact hi _
      · rcases (mw p).mp hp with p1 | rfl
        · rcases (mem _).mp hr' with q | rfl
          · exact h.ear p ((hw p).mp p1).1 e r' q
          · exact ((hw p).mp p1).2
        · have e0 : s.2 = [] := List.isEmpty_iff.mp e
          show B r' r = false
          rcases (mem _).mp hr' with q | rfl
          · rcases h.cov r' q with ⟨b, q1⟩ | q1 | ⟨p, q1, q2⟩
            · exact hno (r', b) q1
            · rw [e0] at q1; cases q1
            · cases z : B r' r with
              | false => rfl
              | true => have := ht _ _ _ q2 z; rw [hno p q1] at this; cases this
          · exact hi _
      · rcases (mw p).mp hp with p1 | rfl
        · exact h.ovf p ((hw p).mp p1).1 e x hx
        · have e0 : s.2 = [] := List.isEmpty_iff.mp e
          rw [e0] at hx; cases hx
      · have q := h.cnt x fun r' q => hx r' ((mem _).mpr (.inl q))
        have q2 := count_filt (hx r ((mem _).mpr (.inr rfl))) s.1
        rw [hW] at q2
        simp only [List.map_append, List.count_append, List.map_cons, List.map_nil]
        omega
    · rw [if_neg hl]
      have e1 : (s.1.filter fun p => !B r p.1) = s.1 := by
        have := h.len
        exact (List.filter_sublist).eq_of_length (by omega)
      rw [e1]
      have hnb : ∀ p ∈ s.1, B r p.1 = false := fun p hp => by
        rw [← e1] at hp
        exact ((hw p).mp hp).2
      refine ⟨fun p hp => (mem _).mpr (.inl (h.sub1 p hp)), fun x hx => ?_, h.len, fun r' hr' => ?_, h.anti, fun p hp e r' hr' => ?_, fun p hp e x hx => ?_, fun x hx => ?_⟩
      · rcases List.mem_append.mp hx with q | q
        · exact (mem _).mpr (.inl (h.sub2 x q))
        · exact (mem _).mpr (.inr (List.mem_singleton.mp q))
      · rcases (mem _).mp hr' with q | rfl
        · rcases h.cov r' q with q1 | q1 | q1
          · exact .inl q1
          · exact .inr (.inl (List.mem_append_left _ q1))
          · exact .inr (.inr q1)
        · exact .inr (.inl (List.mem_append_right _ (List.mem_singleton.mpr rfl)))
      · rcases (mem _).mp hr' with q | rfl
        · exact h.ear p hp e r' q
        · exact hnb p hp
      · rcases List.mem_append.mp hx with q | q
        · exact h.ovf p hp e x q
        · rw [List.mem_singleton.mp q]; exact hno p hp
      · have q := h.cnt x fun r' q => hx r' ((mem _).mpr (.inl q))
        simp only [List.count_append]
        omega
theorem win_len {B : Row → Row → Bool} {sp : Int} (s : WSt) (r : Row) : (wtl (winS B sp s r)).length ≤ (wtl s).length + 1 ∧ (winS B sp s r).1.length ≤ s.1.length + 1 ∧ (winS B sp s r).2.length ≤ s.2.length + 1 := by
  have l1 : ((s.1.filter fun p => !B r p.1).filter fun p => !p.2).length ≤ (s.1.filter fun p => !p.2).length := by
    rw [List.filter_filter]
    have : (s.1.filter fun a => (!a.2 && !B r a.1)) = (s.1.filter fun p => !p.2).filter fun p => !B r p.1 := by
      rw [List.filter_filter]; exact List.filter_congr fun a _ => by rw [Bool.and_comm]
    rw [this]; exact List.length_filter_le _ _
  have l2 : (s.1.filter fun p => !B r p.1).length ≤ s.1.length := List.length_filter_le _ _
  unfold winS wtl
  split
  · exact ⟨by omega, by omega, by omega⟩
  · split
    · simp only [List.filter_append, List.map_append, List.length_append, List.length_map, List.length_singleton]
      have : ([(r, s.2.isEmpty)].filter fun p => !p.2).length ≤ 1 := List.length_filter_le _ _
      exact ⟨by omega, by omega, by omega⟩
    · simp only [List.length_append, List.length_map, List.length_singleton]
      exact ⟨by omega, by omega, by omega⟩
theorem fold_len {B : Row → Row → Bool} {sp : Int} : ∀ (rows : List Row) (s : WSt), (wtl (rows.foldl (winS B sp) s)).length ≤ (wtl s).length + rows.length ∧ (rows.foldl (winS B sp) s).1.length ≤ s.1.length + rows.length ∧ (rows.foldl (winS B sp) s).2.length ≤ s.2.length + rows.length
  | [], s => ⟨by simp, by simp, by simp⟩
  | r :: rows, s => by
    obtain ⟨a1, a2, a3⟩ := fold_len (B := B) (sp := sp) rows (winS B sp s r)
    obtain ⟨b1, b2, b3⟩ := win_len (B := B) (sp := sp) s r
    rw [List.length_cons]
    exact ⟨by rw [List.foldl_cons]; omega, by rw [List.foldl_cons]; omega, by rw [List.foldl_cons]; omega⟩
theorem wait_lt {B : Row → Row → Bool} {sp : Int} (h1 : 1 ≤ sp) {rows : List Row} (hn : rows ≠ []) : (wtl (winF B sp rows)).length < rows.length := by
  cases rows with
  | nil => exact absurd rfl hn
  | cons r rows =>
    have e : winS B sp ([], []) r = ([(r, true)], []) := by
      unfold winS
      rw [if_neg (by simp)]
      have : ((([] : List (Row × Bool)).filter fun p => !B r p.1).length : Int) < sp := by show ((0 : Nat) : Int) < sp; omega
      rw [if_pos this]; rfl
    have := (fold_len (B := B) (sp := sp) rows ([(r, true)], [])).1
    unfold winF
    rw [List.foldl_cons, e, List.length_cons]
    have z : (wtl (([(r, true)], []) : WSt)).length = 0 := rfl
    omega
end DL

set_option Elab.async false
set_option linter.all false
set_option maxRecDepth 100000
set_option maxHeartbeats 4000000
namespace DL
open PySem PySem.Spec PyProof.Rows L2 TL
theorem reader_sat {F : FormV} {n : Int} (h : 1 ≤ n ∧ n ≤ 1000) : (m_Reader___init__ F n).sat (· = ⟨F, 0, n⟩) := by
  have e : ∀ s : Reader0V, m_Reader_room_setter_new s n = .ret ((), ⟨s.formula, s.passes, n⟩) := fun s => by
    unfold m_Reader_room_setter_new
    rw [if_neg (by simp [h.1, h.2])]
  unfold m_Reader___init__ setM
  refine sat_bnd (sat_bnd ?_)
  show Cmp.sat (Cmp.bind (m_Reader_room_setter_new ⟨F, 0⟩ n) _) _
  rw [e]
  exact ⟨⟨trivial, trivial⟩, rfl⟩
theorem filter_tt {α : Type} (l : List α) : l.filter (fun _ => true) = l := by simp
theorem pass_sat {f : Fm} (h40 : f.words.length ≤ 40) {p sp : Int} {rows : List Row} (hl : rows.length ≤ 1000) : (m_Reader_one_pass ⟨fmV f, p, sp⟩ rows).sat (· = (setl (winF (bt f) sp rows), wtl (winF (bt f) sp rows))) := by
  have hz : (1000 : Nat) < sizeLine := by rw [size_big]; omega
  have hv : ∀ r o, (m_Formula_holds (fmV f) r o).val = bt f r o := fun r o => (holds_sat f h40 r o).2
  unfold m_Reader_one_pass
  refine sat_bnd (sat_bnd (sat_bind (P := (· = winF (bt f) sp rows)) ?_ ?_))
  · refine sat_mono (sat_forN (fun i (s : List (Row × Bool) × List Row) => s = (rows.take i).foldl (winS (bt f) sp) ([], [])) rfl fun i r s hr hi => ?_) fun s hs => by rw [List.take_length] at hs; exact hs
    obtain ⟨w, ov⟩ := s
    have hi' : i < rows.length := (List.getElem?_eq_some_iff.mp hr).1
    have fl := fold_len (B := bt f) (sp := sp) (rows.take i) ([], [])
    rw [← hi, List.length_take] at fl
    have l1 : w.length ≤ 1000 := by have := fl.2.1; simp at this; omega
    have l2 : ov.length ≤ 1000 := by have := fl.2.2; simp at this; omega
    have tk : (rows.take (i + 1)).foldl (winS (bt f) sp) ([], []) = winS (bt f) sp (w, ov) r := by
      rw [take_at hr, List.foldl_append, ← hi]; rfl
    rw [tk]
    refine sat_req ⟨fun x _ => (holds_sat f h40 _ _).1, by omega⟩ ?_
    have e1 : (((w.filter (fun _ => true)).map (fun (x4 : (Row × Bool)) => (m_Formula_holds (fmV f) x4.1 r).val)).any id) = w.any (fun p => bt f p.1 r) := by
      rw [filter_tt, List.any_map]
      congr 1
      funext p
      exact hv p.1 r
    have e2 : ((w.filter (fun (x9 : (Row × Bool)) => (!((m_Formula_holds (fmV f) r x9.1).val)))).map (fun (x9 : (Row × Bool)) => (x9.1, x9.2))) = w.filter fun p => !bt f r p.1 := by
      have : (fun (x9 : (Row × Bool)) => (x9.1, x9.2)) = id := rfl
      rw [this, List.map_id]
      exact List.filter_congr fun p _ => by rw [hv]
    show Cmp.sat (if (!(((w.filter (fun _ => true)).map (fun (x4 : (Row × Bool)) => (m_Formula_holds (fmV f) x4.1 r).val)).any id)) = true then _ else _) _
    rw [e1]
    refine sat_ite (fun q => ?_) fun q => ?_
    · have q' : w.any (fun p => bt f p.1 r) = false := by simpa using q
      refine sat_req (fun x _ => (holds_sat f h40 _ _).1) ?_
      show Cmp.sat (Cmp.bnd ((w.filter (fun (x9 : (Row × Bool)) => (!((m_Formula_holds (fmV f) r x9.1).val)))).map (fun (x9 : (Row × Bool)) => (x9.1, x9.2))) _) _
      rw [e2]
      have lf : (w.filter fun p => !bt f r p.1).length ≤ w.length := List.length_filter_le _ _
      have ew : winS (bt f) sp (w, ov) r = if ((w.filter fun p => !bt f r p.1).length : Int) < sp then ((w.filter fun p => !bt f r p.1) ++ [(r, ov.isEmpty)], ov) else (w.filter fun p => !bt f r p.1, ov ++ [r]) := by
        unfold winS
        rw [if_neg (by show ¬ (w.any fun p => bt f p.1 r) = true; rw [q']; decide)]
      rw [ew]
      refine sat_bnd (sat_ite (fun q2 => ?_) fun q2 => ?_)
      · rw [if_pos (of_decide_eq_true q2)]
        refine sat_req (by omega) (sat_bnd (sat_ret ?_))
        rw [Bool.not_not]
      · rw [if_neg (of_decide_eq_false q2)]
        exact sat_req (by omega) (sat_bnd (sat_ret rfl))
    · have q' : w.any (fun p => bt f p.1 r) = true := by simpa using q
      refine sat_ret ?_
      unfold winS
      rw [if_pos q']
  · rintro ⟨w, ov⟩ e
    have fl := fold_len (B := bt f) (sp := sp) rows ([], [])
    have e' : rows.foldl (winS (bt f) sp) ([], []) = (w, ov) := e.symm
    rw [e'] at fl
    have l1 : w.length ≤ 1000 := by have := fl.2.1; simp at this; omega
    have l2 : ov.length ≤ 1000 := by have := fl.2.2; simp at this; omega
    have lf : (w.filter fun p => !p.2).length ≤ w.length := List.length_filter_le _ _
    refine sat_req (by omega) (sat_bnd (sat_req ?_ (sat_ret ?_)))
    · rw [List.length_map, size_big]; omega
    · rw [← e]; rfl
theorem sclen {B : Row → Row → Bool} {sp : Int} (rows : List Row) : (setl (winF B sp rows)).length ≤ rows.length := by
  have := (fold_len (B := B) (sp := sp) rows ([], [])).2.1
  unfold setl
  rw [List.length_map]
  refine Nat.le_trans (List.length_filter_le _ _) ?_
  show (rows.foldl (winS B sp) ([], [])).1.length ≤ rows.length
  simpa using this
def cntF (B : Row → Row → Bool) (sp : Int) : Nat → List Row → Int
  | 0, _ => 0
  | n + 1, rows => if rows.isEmpty = true then 0 else 1 + cntF B sp n (wtl (winF B sp rows))
theorem scan_fuel {B : Row → Row → Bool} {sp : Int} (h1 : 1 ≤ sp) : ∀ (n m : Nat) (l : List Row), l.length < n → l.length < m → scanF B sp n l = scanF B sp m l ∧ cntF B sp n l = cntF B sp m l := by
  intro n
  induction n with
  | zero => intro m l h; omega
  | succ n ih =>
    intro m l hn hm
    cases m with
    | zero => omega
    | succ m =>
      by_cases z : l.isEmpty = true
      · constructor
        · show (if l.isEmpty = true then _ else _) = (if l.isEmpty = true then _ else _)
          rw [if_pos z, if_pos z]
        · show (if l.isEmpty = true then _ else _) = (if l.isEmpty = true then _ else _)
          rw [if_pos z, if_pos z]
      · have lt := wait_lt (B := B) (sp := sp) h1 (rows := l) (by simpa using z)
        obtain ⟨a, b⟩ := ih m (wtl (winF B sp l)) (by omega) (by omega)
        constructor
        · show (if l.isEmpty = true then _ else _) = (if l.isEmpty = true then _ else _)
          rw [if_neg z, if_neg z, a]
        · show (if l.isEmpty = true then _ else _) = (if l.isEmpty = true then _ else _)
          rw [if_neg z, if_neg z, b]
abbrev scn (B : Row → Row → Bool) (sp : Int) (l : List Row) : List Row := scanF B sp (l.length + 1) l
abbrev cnt (B : Row → Row → Bool) (sp : Int) (l : List Row) : Int := cntF B sp (l.length + 1) l
theorem scan_step {B : Row → Row → Bool} {sp : Int} (h1 : 1 ≤ sp) {l : List Row} (hn : l ≠ []) : scn B sp l = setl (winF B sp l) ++ scn B sp (wtl (winF B sp l)) ∧ cnt B sp l = 1 + cnt B sp (wtl (winF B sp l)) := by
  have lt := wait_lt (B := B) (sp := sp) h1 hn
  obtain ⟨a, b⟩ := scan_fuel (B := B) h1 l.length ((wtl (winF B sp l)).length + 1) (wtl (winF B sp l)) lt (Nat.lt_succ_self _)
  have z : ¬ (l.isEmpty = true) := by simpa using hn
  constructor
  · show (if l.isEmpty = true then _ else _) = _
    rw [if_neg z, a]
  · show (if l.isEmpty = true then _ else _) = _
    rw [if_neg z, b]
theorem scn_nil {B : Row → Row → Bool} {sp : Int} : scn B sp [] = [] := rfl
theorem cnt_nil {B : Row → Row → Bool} {sp : Int} : cnt B sp [] = 0 := rfl
theorem scn_len {B : Row → Row → Bool} {sp : Int} (h1 : 1 ≤ sp) : ∀ (n : Nat) (l : List Row), l.length ≤ n → (scn B sp l).length ≤ 1000 * l.length ∨ 1000 < l.length := by
  intro n
  induction n with
  | zero =>
    intro l h
    have : l = [] := List.length_eq_zero_iff.mp (by omega)
    subst this
    exact .inl (Nat.le_refl _)
  | succ n ih =>
    intro l h
    by_cases hn : l = []
    · subst hn; exact .inl (Nat.le_refl _)
    · by_cases hb : 1000 < l.length
      · exact .inr hb
      · have lt := wait_lt (B := B) (sp := sp) h1 hn
        have sl := sclen (B := B) (sp := sp) l
        have a := ih (wtl (winF B sp l)) (by omega)
        left
        rw [(scan_step h1 hn).1, List.length_append]
        omega
theorem scanP_sat {f : Fm} (h40 : f.words.length ≤ 40) {p sp : Int} (h1 : 1 ≤ sp) {rows : List Row} (hl : rows.length ≤ 1000) : (m_Reader_scan ⟨fmV f, p, sp⟩ rows).sat (· = (scn (bt f) sp rows, ⟨fmV f, cnt (bt f) sp rows, sp⟩)) := by
  unfold m_Reader_scan
  refine sat_bnd (sat_bnd (sat_bnd (sat_bind (P := fun s : List Row × List Row × Int => s.2.1 = scn (bt f) sp rows ∧ s.2.2 = cnt (bt f) sp rows) ?_ fun s hs => ?_)))
  · refine sat_while (fun s : List Row × List Row × Int => s.1.length ≤ rows.length ∧ s.2.1.length + 1000 * s.1.length ≤ 1000 * 1000 ∧ s.2.1 ++ scn (bt f) sp s.1 = scn (bt f) sp rows ∧ s.2.2 + cnt (bt f) sp s.1 = cnt (bt f) sp rows) (fun s => s.1.length) ⟨Nat.le_refl _, by show 0 + 1000 * rows.length ≤ _; omega, rfl, by show (0 : Int) + cnt (bt f) sp rows = _; exact Int.zero_add _⟩ (by show rows.length < rows.length + 1; omega) fun s hI => ?_
    obtain ⟨wt, res, ps⟩ := s
    obtain ⟨i1, i3, i4, i5⟩ := hI
    replace i1 : wt.length ≤ rows.length := i1
    replace i3 : res.length + 1000 * wt.length ≤ 1000 * 1000 := i3
    replace i4 : res ++ scn (bt f) sp wt = scn (bt f) sp rows := i4
    replace i5 : ps + cnt (bt f) sp wt = cnt (bt f) sp rows := i5
    refine sat_ret ⟨fun e => ?_, fun e => ?_⟩
    · have hn : wt ≠ [] := fun z => by rw [z] at e; cases e
      obtain ⟨o1, e1⟩ := pass_sat (f := f) h40 (p := p) (sp := sp) (rows := wt) (by omega)
      have lt := wait_lt (B := bt f) (sp := sp) h1 hn
      have sl := sclen (B := bt f) (sp := sp) wt
      obtain ⟨s1, c1⟩ := scan_step (B := bt f) (sp := sp) h1 hn
      refine sat_req o1 ?_
      rw [e1]
      refine sat_bnd (sat_req (by rw [size_big]; show res.length + (setl (winF (bt f) sp wt)).length ≤ _; omega) (sat_bnd (sat_bnd (sat_ret ⟨⟨?_, ?_, ?_, ?_⟩, lt⟩))))
      · show (wtl (winF (bt f) sp wt)).length ≤ rows.length
        omega
      · show (res ++ setl (winF (bt f) sp wt)).length + 1000 * (wtl (winF (bt f) sp wt)).length ≤ _
        rw [List.length_append]; omega
      · show (res ++ setl (winF (bt f) sp wt)) ++ scn (bt f) sp (wtl (winF (bt f) sp wt)) = _
        rw [List.append_assoc, ← s1]; exact i4
      · show ps + 1 + cnt (bt f) sp (wtl (winF (bt f) sp wt)) = _
        omega
    · have z : wt = [] := by simpa using e
      subst z
      refine ⟨?_, ?_⟩
      · show res = _
        rw [← i4, scn_nil, List.append_nil]
      · show ps = _
        rw [← i5, cnt_nil, Int.add_zero]
  · obtain ⟨wt, res, ps⟩ := s
    obtain ⟨a, b⟩ := hs
    replace a : res = scn (bt f) sp rows := a
    replace b : ps = cnt (bt f) sp rows := b
    subst a; subst b
    exact sat_bnd (sat_ret rfl)
theorem scanN_eq (r : ReaderV) (rows : List Row) : m_Reader_scan_N r rows = m_Reader_scan r rows := rfl
theorem resize_sat {F : FormV} {p sp n : Int} (h : 1 ≤ n ∧ n ≤ 1000) : (m_Reader_resize ⟨F, p, sp⟩ n).sat (· = ((), ⟨F, p, n⟩)) := by
  have e : m_Reader_room_setter ⟨F, p, sp⟩ n = .ret ((), ⟨F, p, n⟩) := by
    unfold m_Reader_room_setter
    rw [if_neg (by simp [h.1, h.2])]
  unfold m_Reader_resize setM
  rw [e]
  exact ⟨⟨trivial, trivial⟩, rfl⟩
theorem ixL_map {α β : Type} [Inhabited α] [Inhabited β] (g : α → β) {w : List α} {k : Int} (h : 0 ≤ k ∧ k < (w.length : Int)) : ixL (w.map g) k = g (ixL w k) := by
  unfold ixL
  simp [show k.toNat < w.length by omega]
theorem rangeN_len (n : Nat) : (rangeL 0 (n : Int)).length = n := by simp [rangeL]
theorem range_ix {α : Type} [Inhabited α] (w : List α) : (rangeL 0 (w.length : Int)).map (ixL w) = w := by
  refine List.ext_getElem (by rw [List.length_map, rangeN_len]) fun i h1 h2 => ?_
  rw [List.getElem_map]
  have : (rangeL 0 (w.length : Int))[i]'(by rw [rangeN_len]; exact h2) = (i : Int) := by simp [rangeL]
  rw [this]
  unfold ixL
  simp [h2]
theorem idx_filter {α β : Type} [Inhabited α] (w : List α) (q : α → Bool) (g : α → β) : ((rangeL 0 (w.length : Int)).filter (fun k => q (ixL w k))).map (fun k => g (ixL w k)) = (w.filter q).map g := by
  have := congrArg (fun l : List α => (l.filter q).map g) (range_ix w)
  simp only [List.filter_map, List.map_map] at this
  exact this
theorem idx_filt {α β γ : Type} [Inhabited α] [Inhabited β] [Inhabited γ] (w : List α) (u : α → γ) (q : γ → Bool) (g : α → β) {p : Int → Bool} (hp : ∀ k, 0 ≤ k → k < (w.length : Int) → p k = q (ixL (w.map u) k)) :
    ((rangeL 0 (w.length : Int)).filter p).map (fun k => ixL (w.map g) k) = (w.filter fun x => q (u x)).map g := by
  rw [← idx_filter w (fun x => q (u x)) g]
  have e : (rangeL 0 (w.length : Int)).filter p = (rangeL 0 (w.length : Int)).filter (fun k => q (u (ixL w k))) := List.filter_congr fun k hk => by
    have := range_mem hk
    rw [hp k this.1 this.2, ixL_map u this]
  rw [e]
  exact List.map_congr_left fun k hk => ixL_map g (range_mem (List.mem_filter.mp hk).1)
theorem lpass_sat {f : Fm} (fo : f.Ok) (fd : f.dep < 9) {sp : Int} {rows : List Row} (hl : rows.length ≤ 1000) : (m_law_pass f.tr rows sp).sat (· = [setl (winF (bt f) sp rows), wtl (winF (bt f) sp rows)]) := by
  have hv : ∀ r o, (m_law_holds 9 f.tr r o).val = bt f r o := fun r o => (lholds_sat f fo 9 r o fd).2
  have ho : ∀ r o, (m_law_holds 9 f.tr r o).ok := fun r o => (lholds_sat f fo 9 r o fd).1
  unfold m_law_pass
  refine sat_bnd (sat_bnd (sat_bnd (sat_bind (P := fun s : List Row × List Bool × List Row => s = ((winF (bt f) sp rows).1.map (·.1), (winF (bt f) sp rows).1.map (·.2), (winF (bt f) sp rows).2)) ?_ fun s hs => ?_)))
  · refine sat_mono (sat_forN (fun i (s : List Row × List Bool × List Row) => s = (((rows.take i).foldl (winS (bt f) sp) ([], [])).1.map (·.1), ((rows.take i).foldl (winS (bt f) sp) ([], [])).1.map (·.2), ((rows.take i).foldl (winS (bt f) sp) ([], [])).2)) rfl fun i r s hr hi => ?_) fun s hs => by rw [List.take_length] at hs; exact hs
    have hi' : i < rows.length := (List.getElem?_eq_some_iff.mp hr).1
    have fl := fold_len (B := bt f) (sp := sp) (rows.take i) ([], [])
    have tk : (rows.take (i + 1)).foldl (winS (bt f) sp) ([], []) = winS (bt f) sp ((rows.take i).foldl (winS (bt f) sp) ([], [])) r := by
      rw [take_at hr, List.foldl_append]; rfl
    rw [tk]
    generalize hw : (rows.take i).foldl (winS (bt f) sp) ([], []) = st at hi fl ⊢
    obtain ⟨w, ov⟩ := st
    replace hi : s = (w.map (·.1), w.map (·.2), ov) := hi
    subst hi
    rw [List.length_take] at fl
    have l1 : w.length ≤ 1000 := by have := fl.2.1; simp at this; omega
    have l2 : ov.length ≤ 1000 := by have := fl.2.2; simp at this; omega
    refine sat_req ⟨fun x _ => ho x r, by rw [List.length_map, size_big]; omega⟩ ?_
    have e1 : decide ((((((w.map (·.1)).filter (fun (x6 : Row) => (m_law_holds 9 f.tr x6 r).val)).map (fun (x6 : Row) => x6)).length : Int)) = (0 : Int)) = !(w.any fun p => bt f p.1 r) := by
      have e2 : ((w.map (·.1)).filter (fun (x6 : Row) => (m_law_holds 9 f.tr x6 r).val)) = (w.filter fun p => bt f p.1 r).map (·.1) := by
        rw [List.filter_map]
        congr 1
        exact List.filter_congr fun p _ => hv p.1 r
      rw [List.map_id', e2, List.length_map]
      cases q : w.any (fun p => bt f p.1 r) with
      | true =>
        obtain ⟨p, hp, hb⟩ := List.any_eq_true.mp q
        have : 0 < (w.filter fun p => bt f p.1 r).length := List.length_pos_iff_exists_mem.mpr ⟨p, List.mem_filter.mpr ⟨hp, hb⟩⟩
        exact decide_eq_false (by omega)
      | false =>
        have : (w.filter fun p => bt f p.1 r) = [] := List.filter_eq_nil_iff.mpr fun p hp => by
          have := List.any_eq_false.mp q p hp
          simpa using this
        rw [this]; rfl
    rw [e1]
    refine sat_ite (fun q => ?_) fun q => ?_
    · have q' : w.any (fun p => bt f p.1 r) = false := by simpa using q
      have ew : winS (bt f) sp (w, ov) r = if ((w.filter fun p => !bt f r p.1).length : Int) < sp then ((w.filter fun p => !bt f r p.1) ++ [(r, ov.isEmpty)], ov) else (w.filter fun p => !bt f r p.1, ov ++ [r]) := by
        unfold winS
        rw [if_neg (by show ¬ (w.any fun p => bt f p.1 r) = true; rw [q']; decide)]
      rw [ew]
      have lm : (w.map (·.1)).length = w.length := List.length_map ..
      have lm2 : (w.map (·.2)).length = w.length := List.length_map ..
      rw [lm, lm2]
      have lf : (w.filter fun p => !bt f r p.1).length ≤ w.length := List.length_filter_le _ _
      have hin : ∀ k ∈ ((rangeL 0 (w.length : Int)).filter (fun (x13 : Int) => (!((m_law_holds 9 f.tr r (ixL (w.map (·.1)) x13)).val)))).map (fun (x13 : Int) => x13), 0 ≤ k ∧ k < (w.length : Int) := fun k hk => by
        rw [List.map_id'] at hk
        exact range_mem (List.mem_filter.mp hk).1
      have hlen : (((rangeL 0 (w.length : Int)).filter (fun (x13 : Int) => (!((m_law_holds 9 f.tr r (ixL (w.map (·.1)) x13)).val)))).map (fun (x13 : Int) => x13)).length < sizeLine := by
        rw [List.length_map]
        have := List.length_filter_le (fun (x13 : Int) => (!((m_law_holds 9 f.tr r (ixL (w.map (·.1)) x13)).val))) (rangeL 0 (w.length : Int))
        rw [rangeN_len] at this
        rw [size_big]; omega
      refine sat_req ⟨⟨by omega, by omega⟩, fun k hk => range_mem hk, fun k _ => ho _ _, by rw [rangeN_len, size_big]; omega⟩ (sat_bnd (sat_req ⟨hin, hlen⟩ (sat_bnd (sat_req hin (sat_bnd ?_)))))
      have f1 : ((((rangeL 0 (w.length : Int)).filter (fun (x13 : Int) => (!((m_law_holds 9 f.tr r (ixL (w.map (·.1)) x13)).val)))).map (fun (x13 : Int) => x13)).filter (fun _ => true)).map (fun (x19 : Int) => (ixL (w.map (·.1)) x19)) = (w.filter fun p => !bt f r p.1).map (·.1) := by
        rw [filter_tt, List.map_id']
        exact idx_filt w (·.1) (fun x => !bt f r x) (·.1) fun k _ _ => by rw [hv]
      have f2 : ((((rangeL 0 (w.length : Int)).filter (fun (x13 : Int) => (!((m_law_holds 9 f.tr r (ixL (w.map (·.1)) x13)).val)))).map (fun (x13 : Int) => x13)).filter (fun _ => true)).map (fun (x24 : Int) => (ixL (w.map (·.2)) x24)) = (w.filter fun p => !bt f r p.1).map (·.2) := by
        rw [filter_tt, List.map_id']
        exact idx_filt w (·.1) (fun x => !bt f r x) (·.2) fun k _ _ => by rw [hv]
      rw [f1, f2]
      generalize hW : (w.filter fun p => !bt f r p.1) = w' at lf ⊢
      have lm3 : (w'.map (·.1)).length = w'.length := List.length_map ..
      rw [lm3]
      refine sat_ite (fun q2 => ?_) fun q2 => ?_
      · rw [if_pos (of_decide_eq_true q2)]
        refine sat_req (by rw [size_big]; omega) (sat_bnd (sat_req (by rw [List.length_map, size_big]; omega) (sat_bnd (sat_ret ?_))))
        have eo : decide ((ov.length : Int) = (0 : Int)) = ov.isEmpty := by cases ov <;> simp <;> omega
        rw [eo, List.map_append, List.map_append]; rfl
      · rw [if_neg (of_decide_eq_false q2)]
        exact sat_req (by rw [size_big]; omega) (sat_bnd (sat_ret rfl))
    · have q' : w.any (fun p => bt f p.1 r) = true := by simpa using q
      refine sat_ret ?_
      unfold winS
      rw [if_pos q']
  · have fl := fold_len (B := bt f) (sp := sp) rows ([], [])
    replace fl : (wtl (winF (bt f) sp rows)).length ≤ (wtl ([], [])).length + rows.length ∧ (winF (bt f) sp rows).1.length ≤ ([] : List (Row × Bool)).length + rows.length ∧ (winF (bt f) sp rows).2.length ≤ ([] : List Row).length + rows.length := fl
    have ew : setl (winF (bt f) sp rows) = ((winF (bt f) sp rows).1.filter fun p => p.2).map (·.1) := rfl
    have ew2 : wtl (winF (bt f) sp rows) = ((winF (bt f) sp rows).1.filter fun p => !p.2).map (·.1) ++ (winF (bt f) sp rows).2 := rfl
    rw [ew, ew2]
    generalize winF (bt f) sp rows = st at hs fl ⊢
    obtain ⟨w, ov⟩ := st
    replace hs : s = (w.map (·.1), w.map (·.2), ov) := hs
    subst hs
    have l1 : w.length ≤ 1000 := by have := fl.2.1; simp at this; omega
    have l2 : ov.length ≤ 1000 := by have := fl.2.2; simp at this; omega
    have lm : (w.map (·.1)).length = w.length := List.length_map ..
    have lm2 : (w.map (·.2)).length = w.length := List.length_map ..
    show Cmp.sat (Cmp.req _ _) _
    rw [lm, lm2]
    have f1 : ((rangeL 0 (w.length : Int)).filter (fun (x33 : Int) => (ixL (w.map (·.2)) x33))).map (fun (x33 : Int) => (ixL (w.map (·.1)) x33)) = (w.filter fun p => p.2).map (·.1) := idx_filt w (·.2) (fun b => b) (·.1) fun k _ _ => rfl
    have f2 : ((rangeL 0 (w.length : Int)).filter (fun (x44 : Int) => (!(ixL (w.map (·.2)) x44)))).map (fun (x44 : Int) => (ixL (w.map (·.1)) x44)) = (w.filter fun p => !p.2).map (·.1) := idx_filt w (·.2) (fun b => !b) (·.1) fun k _ _ => rfl
    have lf : (w.filter fun p => !p.2).length ≤ w.length := List.length_filter_le _ _
    have R : ∀ {P : Int → Prop}, ∀ k, ∀ (_ : k ∈ rangeL 0 (w.length : Int)), 0 ≤ k ∧ k < (w.length : Int) := fun k hk => range_mem hk
    refine sat_req ⟨⟨by omega, by omega⟩, fun k hk => range_mem hk, fun k hk _ => range_mem hk, by rw [rangeN_len, size_big]; omega⟩ (sat_bnd ?_)
    refine sat_req ⟨fun k hk => range_mem hk, fun k hk _ => range_mem hk, fun k hk => range_mem hk, fun k hk _ => range_mem hk, ?_⟩ (sat_ret ?_)
    · rw [f2, List.length_map, size_big]; omega
    · rw [f1, f2]
theorem lscan_sat {f : Fm} (fo : f.Ok) (fd : f.dep < 9) {sp : Int} (h1 : 1 ≤ sp) {rows : List Row} (hl : rows.length ≤ 1000) : (m_law_scanned f.tr rows sp).sat (· = (scn (bt f) sp rows, cnt (bt f) sp rows)) := by
  unfold m_law_scanned
  refine sat_bnd (sat_bnd (sat_bnd (sat_req ⟨by omega, by omega⟩ (sat_bind (P := fun s : List Row × Int × List Row => s.1 = scn (bt f) sp rows ∧ s.2.1 = cnt (bt f) sp rows) ?_ fun s hs => ?_))))
  · refine sat_mono (sat_forR (fun i (s : List Row × Int × List Row) => s.2.2.length + i ≤ rows.length ∧ s.1.length + 1000 * s.2.2.length ≤ 1000 * 1000 ∧ s.1 ++ scn (bt f) sp s.2.2 = scn (bt f) sp rows ∧ s.2.1 + cnt (bt f) sp s.2.2 = cnt (bt f) sp rows) ⟨Nat.le_refl _, by show 0 + 1000 * rows.length ≤ _; omega, rfl, by show (0 : Int) + cnt (bt f) sp rows = _; exact Int.zero_add _⟩ fun i s hi hI => ?_) fun s hs => ?_
    · obtain ⟨res, ps, wt⟩ := s
      obtain ⟨i1, i3, i4, i5⟩ := hI
      replace i1 : wt.length + i ≤ rows.length := i1
      replace i3 : res.length + 1000 * wt.length ≤ 1000 * 1000 := i3
      replace i4 : res ++ scn (bt f) sp wt = scn (bt f) sp rows := i4
      replace i5 : ps + cnt (bt f) sp wt = cnt (bt f) sp rows := i5
      refine sat_ite (fun e => ?_) fun e => sat_ret ⟨?_, i3, i4, i5⟩
      · have e := of_decide_eq_true e
        have hn : wt ≠ [] := fun z => by rw [z] at e; simp at e
        obtain ⟨o1, e1⟩ := lpass_sat fo fd (sp := sp) (rows := wt) (by omega)
        have lt := wait_lt (B := bt f) (sp := sp) h1 hn
        have sl := sclen (B := bt f) (sp := sp) wt
        obtain ⟨s1, c1⟩ := scan_step (B := bt f) (sp := sp) h1 hn
        refine sat_req o1 (sat_bnd ?_)
        rw [e1]
        refine sat_req ⟨⟨by omega, by show (0 : Int) < 2; omega⟩, by rw [size_big]; show res.length + (setl (winF (bt f) sp wt)).length ≤ _; omega⟩ (sat_bnd (sat_req ⟨by omega, by show (1 : Int) < 2; omega⟩ (sat_bnd (sat_bnd (sat_ret ⟨?_, ?_, ?_, ?_⟩)))))
        · show (wtl (winF (bt f) sp wt)).length + (i + 1) ≤ rows.length
          omega
        · show (res ++ setl (winF (bt f) sp wt)).length + 1000 * (wtl (winF (bt f) sp wt)).length ≤ _
          rw [List.length_append]; omega
        · show (res ++ setl (winF (bt f) sp wt)) ++ scn (bt f) sp (wtl (winF (bt f) sp wt)) = _
          rw [List.append_assoc, ← s1]; exact i4
        · show ps + 1 + cnt (bt f) sp (wtl (winF (bt f) sp wt)) = _
          omega
      · have e := of_decide_eq_false e
        show wt.length + (i + 1) ≤ rows.length
        have : wt.length = 0 := by omega
        omega
    · obtain ⟨res, ps, wt⟩ := s
      obtain ⟨i1, i3, i4, i5⟩ := hs
      replace i1 : wt.length + rows.length ≤ rows.length := i1
      replace i4 : res ++ scn (bt f) sp wt = scn (bt f) sp rows := i4
      replace i5 : ps + cnt (bt f) sp wt = cnt (bt f) sp rows := i5
      have z : wt = [] := List.length_eq_zero_iff.mp (by omega)
      subst z
      rw [scn_nil, List.append_nil] at i4
      rw [cnt_nil, Int.add_zero] at i5
      exact ⟨i4, i5⟩
  · obtain ⟨res, ps, wt⟩ := s
    obtain ⟨a, b⟩ := hs
    replace a : res = scn (bt f) sp rows := a
    replace b : ps = cnt (bt f) sp rows := b
    subst a; subst b
    exact sat_ret rfl
end DL

set_option Elab.async false
set_option linter.all false
set_option maxRecDepth 100000
set_option maxHeartbeats 4000000
namespace DL
open PySem PySem.Spec PyProof.Rows L2 TL
section
variable {α β γ S : Type}
theorem sat_methM {mc : Cmp (β × γ)} {upd : γ → S} {P : β × S → Prop} (h : mc.sat fun v => P (v.1, upd v.2)) : (methM mc upd).sat P := sat_bind h fun v hv => sat_ret hv
theorem sat_callM {m : Cmp (γ × S)} {cd : γ → S → Prop} {v : γ → S → β} {P : β × S → Prop} (h : m.sat fun p => cd p.1 p.2 ∧ P (v p.1 p.2, p.2)) : (callM m cd v).sat P := sat_bind h fun p hp => sat_req hp.1 (sat_ret hp.2)
theorem sat_negM {m : Cmp (Bool × S)} {P : Bool × S → Prop} (h : m.sat fun p => P (!p.1, p.2)) : (negM m).sat P := sat_bind h fun p hp => sat_ret hp
theorem sat_andM {m : Cmp (Bool × S)} {m2 : S → Cmp (Bool × S)} {P : Bool × S → Prop} (h : m.sat fun p => p.1 = true ∧ (m2 p.2).sat P) : (andM m m2).sat P := sat_bind h fun p hp => by rw [if_pos hp.1]; exact hp.2
theorem sat_orM {m : Cmp (Bool × S)} {m2 : S → Cmp (Bool × S)} {P : Bool × S → Prop} (h : m.sat fun p => p.1 = false ∧ (m2 p.2).sat P) : (orM m m2).sat P := sat_bind h fun p hp => by rw [if_neg (by rw [hp.1]; decide)]; exact hp.2
theorem sat_iteF {m : Cmp (Bool × S)} {m1 m2 : S → Cmp α} {Q : α → Prop} (h : m.sat fun p => p.1 = false ∧ (m2 p.2).sat Q) : (iteM m m1 m2).sat Q := sat_bind h fun p hp => by rw [if_neg (by rw [hp.1]; decide)]; exact hp.2
theorem sat_retM {m : Cmp (β × S)} {f : β → α} {Q : α → Prop} (h : m.sat fun p => Q (f p.1)) : (retM m f).sat Q := sat_bind h fun p hp => sat_ret hp
end
theorem sat_setM {α β S : Type} {m : Cmp (β × S)} {m2 : β → S → Cmp α} {b : β} {s : S} {Q : α → Prop} (h : m.sat (· = (b, s))) (k : (m2 b s).sat Q) : (setM m m2).sat Q := sat_bind h fun p hp => by subst hp; exact k
theorem scn_big {B : Row → Row → Bool} {sp : Int} (h1 : 1 ≤ sp) {rows : List Row} (hl : rows.length ≤ 1000) : (scn B sp rows).length ≤ 1000000 := by
  rcases scn_len (B := B) h1 _ rows (Nat.le_refl _) with h | h <;> omega
theorem fine_sat {f : Fm} (fo : f.Ok) (fd : f.dep < 9) (h40 : f.words.length ≤ 40) {p sp : Int} (h1 : 1 ≤ sp) {rows : List Row} (hl : rows.length ≤ 1000) : (m_law_fine ⟨fmV f, p, sp⟩ f.tr rows sp).sat (· = (true, ⟨fmV f, cnt (bt f) sp rows, sp⟩)) := by
  obtain ⟨a1, a2⟩ := lscan_sat fo fd h1 hl
  have ls := scn_big (B := bt f) h1 hl
  obtain ⟨b1, b2⟩ := isrows_sat (a := scn (bt f) sp rows) (b := scn (bt f) sp rows) rfl ls
  unfold m_law_fine
  refine sat_req a1 (sat_bnd (sat_bnd ?_))
  rw [a2]
  refine sat_setM (b := scn (bt f) sp rows) (s := ⟨fmV f, cnt (bt f) sp rows, sp⟩) (by rw [scanN_eq]; exact scanP_sat h40 h1 hl) ?_
  refine sat_req b1 ?_
  show Cmp.sat (if ((!(m_law_is_rows (scn (bt f) sp rows) (scn (bt f) sp rows)).val) || (!decide ((rows : List Row) = rows))) = true then _ else _) _
  rw [b2, decide_eq_true rfl]
  refine sat_ite (fun w => (by cases w)) fun _ => sat_req (by rw [size_big]; omega) (sat_bnd (sat_ite (fun w => ?_) fun _ => sat_bnd (sat_ret ?_)))
  · cases w
  · show ((true && (!false && decide (cnt (bt f) sp rows = cnt (bt f) sp rows))), _) = _
    rw [decide_eq_true rfl]; rfl
theorem apart_sat {f : Fm} (fo : f.Ok) (fd : f.dep < 9) (h40 : f.words.length ≤ 40) {p sp : Int} (h1 : 1 ≤ sp) {rows others : List Row} (hl : rows.length ≤ 1000) (hl2 : others.length ≤ 1000) : (m_law_apart ⟨fmV f, p, sp⟩ f.tr rows others sp).sat (· = (true, ⟨fmV f, cnt (bt f) sp others, sp⟩)) := by
  obtain ⟨a1, a2⟩ := lscan_sat fo fd h1 hl
  obtain ⟨c1, c2⟩ := lscan_sat fo fd h1 hl2
  obtain ⟨b1, b2⟩ := isrows_sat (a := scn (bt f) sp rows) (b := scn (bt f) sp rows) rfl (scn_big (B := bt f) h1 hl)
  obtain ⟨d1, d2⟩ := isrows_sat (a := scn (bt f) sp others) (b := scn (bt f) sp others) rfl (scn_big (B := bt f) h1 hl2)
  unfold m_law_apart
  refine sat_setM (b := scn (bt f) sp rows) (s := ⟨fmV f, cnt (bt f) sp rows, sp⟩) (sat_methM (sat_mono (scanP_sat h40 h1 hl) fun v hv => by subst hv; rfl)) ?_
  refine sat_setM (b := scn (bt f) sp others) (s := ⟨fmV f, cnt (bt f) sp others, sp⟩) (sat_methM (sat_mono (scanP_sat h40 h1 hl2) fun v hv => by subst hv; rfl)) ?_
  refine sat_req a1 (sat_bnd ?_)
  rw [a2, c2]
  refine sat_req ⟨b1, fun _ => c1, fun _ => d1⟩ (sat_ret ?_)
  show (((m_law_is_rows (scn (bt f) sp rows) (scn (bt f) sp rows)).val && (m_law_is_rows (scn (bt f) sp others) (scn (bt f) sp others)).val), _) = _
  rw [b2, d2]; rfl
theorem win_free {B : Row → Row → Bool} {s : Nat} {rows : List Row} (h : ∀ x ∈ rows, ∀ y ∈ rows, B x y = false) : ∀ n, n ≤ rows.length → (rows.take n).foldl (winS B (s : Int)) ([], []) = (((rows.take n).take s).map (fun r => (r, true)), (rows.take n).drop s)
  | 0, _ => by simp
  | n + 1, hn => by
    have hr : rows[n]? = some rows[n] := List.getElem?_eq_getElem (by omega)
    have hrm : rows[n] ∈ rows := List.getElem_mem _
    have hlm : ∀ x ∈ rows.take n, x ∈ rows := fun x hx => List.mem_of_mem_take hx
    have ll : (rows.take n).length = n := by rw [List.length_take]; omega
    rw [take_at hr, List.foldl_append, win_free h n (by omega)]
    generalize rows[n] = r at hrm ⊢
    generalize rows.take n = l at hlm ll ⊢
    show winS B (s : Int) ((l.take s).map (fun r => (r, true)), l.drop s) r = _
    unfold winS
    have ea : ((l.take s).map (fun r => ((r, true) : Row × Bool))).any (fun p => B p.1 r) = false := List.any_eq_false.mpr fun p hp => by
      obtain ⟨x, hx, rfl⟩ := List.mem_map.mp hp
      rw [h x (hlm x (List.mem_of_mem_take hx)) r hrm]; exact Bool.false_ne_true
    have ef : ((l.take s).map (fun r => ((r, true) : Row × Bool))).filter (fun p => !B r p.1) = (l.take s).map (fun r => (r, true)) := List.filter_eq_self.mpr fun p hp => by
      obtain ⟨x, hx, rfl⟩ := List.mem_map.mp hp
      show (!B r x) = true
      rw [h r hrm x (hlm x (List.mem_of_mem_take hx))]; rfl
    rw [if_neg (by show ¬ (((l.take s).map (fun r => ((r, true) : Row × Bool))).any (fun p => B p.1 r)) = true; rw [ea]; exact Bool.false_ne_true)]
    show (if (((((l.take s).map (fun r => ((r, true) : Row × Bool))).filter (fun p => !B r p.1)).length : Nat) : Int) < (s : Int) then ((((l.take s).map (fun r => ((r, true) : Row × Bool))).filter (fun p => !B r p.1)) ++ [(r, (l.drop s).isEmpty)], l.drop s) else ((((l.take s).map (fun r => ((r, true) : Row × Bool))).filter (fun p => !B r p.1)), l.drop s ++ [r])) = _
    rw [ef, List.length_map, List.length_take, ll]
    by_cases q : n < s
    · rw [if_pos (by omega), List.take_of_length_le (show l.length ≤ s by omega), List.drop_of_length_le (show l.length ≤ s by omega), List.take_of_length_le (show (l ++ [r]).length ≤ s by rw [List.length_append, List.length_singleton]; omega), List.drop_of_length_le (show (l ++ [r]).length ≤ s by rw [List.length_append, List.length_singleton]; omega), List.map_append]
      rfl
    · rw [if_neg (by omega), List.take_append_of_le_length (by omega), List.drop_append_of_le_length (by omega)]
theorem win_all {B : Row → Row → Bool} {s : Nat} {rows : List Row} (h : ∀ x ∈ rows, ∀ y ∈ rows, B x y = false) : setl (winF B (s : Int) rows) = rows.take s ∧ wtl (winF B (s : Int) rows) = rows.drop s := by
  have e := win_free (s := s) h rows.length (Nat.le_refl _)
  rw [List.take_length] at e
  have e' : winF B (s : Int) rows = ((rows.take s).map (fun r => (r, true)), rows.drop s) := e
  rw [e']
  constructor
  · show (((rows.take s).map (fun r => ((r, true) : Row × Bool))).filter fun p => p.2).map (·.1) = _
    rw [List.filter_eq_self.mpr fun p hp => by
      obtain ⟨x, _, rfl⟩ := List.mem_map.mp hp
      rfl, List.map_map]
    exact List.map_id _
  · show (((rows.take s).map (fun r => ((r, true) : Row × Bool))).filter fun p => !p.2).map (·.1) ++ rows.drop s = _
    rw [List.filter_eq_nil_iff.mpr fun p hp => by
      obtain ⟨x, _, rfl⟩ := List.mem_map.mp hp
      exact Bool.false_ne_true]
    rfl
theorem scan_free {B : Row → Row → Bool} {s : Nat} {rows : List Row} (h : ∀ x ∈ rows, ∀ y ∈ rows, B x y = false) (h1 : 1 ≤ s) (hn : rows ≠ []) (hd : rows.length ≤ s + s) : scn B (s : Int) rows = rows ∧ cnt B (s : Int) rows = 1 + (if s < rows.length then 1 else 0) := by
  obtain ⟨a, b⟩ := scan_step (B := B) (sp := (s : Int)) (by omega) hn
  obtain ⟨w1, w2⟩ := win_all (s := s) h
  rw [w1, w2] at a
  rw [w2] at b
  by_cases q : s < rows.length
  · have hdn : rows.drop s ≠ [] := fun z => by
      have := congrArg List.length z
      rw [List.length_drop, List.length_nil] at this; omega
    have hds : ∀ x ∈ rows.drop s, ∀ y ∈ rows.drop s, B x y = false := fun x hx y hy => h x (List.mem_of_mem_drop hx) y (List.mem_of_mem_drop hy)
    obtain ⟨a2, b2⟩ := scan_step (B := B) (sp := (s : Int)) (by omega) hdn
    obtain ⟨v1, v2⟩ := win_all (s := s) hds
    have dl : (rows.drop s).length ≤ s := by rw [List.length_drop]; omega
    rw [v1, v2, List.take_of_length_le dl, List.drop_of_length_le dl, scn_nil, List.append_nil] at a2
    rw [v2, List.drop_of_length_le dl, cnt_nil] at b2
    rw [a2, List.take_append_drop] at a
    rw [b2] at b
    rw [if_pos q]
    exact ⟨a, by omega⟩
  · have dl : rows.length ≤ s := by omega
    rw [List.drop_of_length_le dl, scn_nil, List.append_nil, List.take_of_length_le dl] at a
    rw [List.drop_of_length_le dl, cnt_nil] at b
    rw [if_neg q]
    exact ⟨a, by omega⟩
abbrev fSteep : Fm := .bin 3 (.cmp 0 0) (.cmp 0 1)
theorem steep_text : Txt.join sp1 fSteep.words = Str.ofString "pareto <a <b" := by decide +kernel
theorem steep_bt (i j m : Int) : bt fSteep (i, m - i, 0) (j, m - j, 0) = false := by
  show ((decide (i < j) || decide (m - i < m - j)) && (!decide (j < i) && !decide (m - j < m - i))) = false
  rw [Bool.eq_false_iff]
  intro hh
  simp only [Bool.and_eq_true, Bool.or_eq_true, decide_eq_true_eq, Bool.not_eq_true', decide_eq_false_iff_not] at hh
  omega
theorem steep_sat {many spare : Int} (h0 : 31 ≤ many) (h1 : many ≤ 100) (h2 : 0 ≤ spare) (h3 : spare ≤ 2) : (m_law_steep many spare).sat (· = true) := by
  obtain ⟨n, rfl⟩ : ∃ n : Nat, many = (n : Int) := ⟨many.toNat, by omega⟩
  obtain ⟨k, rfl⟩ : ∃ k : Nat, spare = (k : Int) := ⟨spare.toNat, by omega⟩
  have es : (n : Int) - (k : Int) = ((n - k : Nat) : Int) := by omega
  obtain ⟨r1, r2⟩ := read_sat (f := fSteep) ⟨trivial, trivial⟩ (by decide)
  rw [steep_text] at r1 r2
  obtain ⟨i1, i2⟩ := reader_sat (F := fmV fSteep) (n := (n : Int) - (k : Int)) ⟨by omega, by omega⟩
  unfold m_law_steep
  have hRl : ((((rangeL 0 (n : Int)).filter (fun _ => true)).map (fun (x2 : Int) => (x2, ((n : Int) - x2), (0 : Int)))) : List Row).length = n := by rw [List.length_map, filter_tt, rangeN_len]
  have hB : ∀ x ∈ ((((rangeL 0 (n : Int)).filter (fun _ => true)).map (fun (x2 : Int) => (x2, ((n : Int) - x2), (0 : Int)))) : List Row), ∀ y ∈ ((((rangeL 0 (n : Int)).filter (fun _ => true)).map (fun (x2 : Int) => (x2, ((n : Int) - x2), (0 : Int)))) : List Row), bt fSteep x y = false := fun x hx y hy => by
    obtain ⟨i, _, rfl⟩ := List.mem_map.mp hx
    obtain ⟨j, _, rfl⟩ := List.mem_map.mp hy
    exact steep_bt i j _
  refine sat_req ⟨⟨by omega, by omega⟩, by rw [rangeN_len, size_big]; omega⟩ (sat_bnd ?_)
  generalize ((((rangeL 0 (n : Int)).filter (fun _ => true)).map (fun (x2 : Int) => (x2, ((n : Int) - x2), (0 : Int)))) : List Row) = R at hRl hB ⊢
  refine sat_req ⟨r1, by rw [r2]; exact i1⟩ (sat_bnd ?_)
  rw [r2, i2, es]
  have hn0 : R ≠ [] := fun z => by rw [z] at hRl; simp at hRl; omega
  obtain ⟨e1, e2⟩ := scan_free (s := n - k) hB (by omega) hn0 (by omega)
  obtain ⟨b1, b2⟩ := isrows_sat (a := R) (b := R) rfl (by omega)
  refine sat_iteF (sat_negM (sat_callM (sat_methM (sat_mono (scanP_sat (f := fSteep) (p := 0) (sp := ((n - k : Nat) : Int)) (by decide) (by omega) (rows := R) (by omega)) fun v hv => ?_))))
  subst hv
  show (m_law_is_rows (scn (bt fSteep) ((n - k : Nat) : Int) R) R).ok ∧ (!(m_law_is_rows (scn (bt fSteep) ((n - k : Nat) : Int) R) R).val) = false ∧ Cmp.sat (Cmp.ret (decide (cnt (bt fSteep) ((n - k : Nat) : Int) R = (1 : Int) + (if decide ((k : Int) > (0 : Int)) = true then 1 else 0)))) _
  rw [e1, e2, b2]
  refine ⟨b1, rfl, sat_ret (decide_eq_true ?_)⟩
  congr 1
  by_cases q : 0 < k
  · rw [if_pos (by omega), if_pos (decide_eq_true (by omega))]
  · rw [if_neg (by omega), if_neg (fun z => q (by have := of_decide_eq_true z; omega))]
theorem room_sat {a b : Int} : (m_law_room a b).sat fun v => 1 ≤ v ∧ v ≤ 1000 := by
  unfold m_law_room
  exact sat_ite (fun _ => sat_ret ⟨by omega, by omega⟩) fun _ => sat_ret ⟨by omega, by omega⟩
abbrev farF (f : Fm) : Fm := .bin 0 (.un 0 (.bin 0 (.mark 0 1 2) (.bin 0 (.mark 1 1 1) (.mark 2 1 3)))) f
theorem far_tr (f : Fm) : Tr.bin (Str.ofString "and") (Tr.un (Str.ofString "not") (Tr.bin (Str.ofString "and") (Tr.leaf (Str.ofString "a>2")) (Tr.bin (Str.ofString "and") (Tr.leaf (Str.ofString "b>1")) (Tr.leaf (Str.ofString "c>3"))))) f.tr = (farF f).tr := by
  have e1 : Str.ofString "a>2" = markW 0 1 2 := by decide +kernel
  have e2 : Str.ofString "b>1" = markW 1 1 1 := by decide +kernel
  have e3 : Str.ofString "c>3" = markW 2 1 3 := by decide +kernel
  rw [e1, e2, e3]; rfl
theorem law_true (s : List Int) (h : s.length ≤ 63) : (m_law s).ok ∧ (m_law s).val = true := by
  show (m_law s).sat (· = true)
  unfold m_law
  obtain ⟨oa, hp⟩ := pool_sat s (k := 0) (n := 28) (by omega) (by omega) (by omega)
  refine sat_req oa (sat_bnd ?_)
  generalize (m_law_pool s 0 28).val = pool at hp ⊢
  obtain ⟨i20, _, _⟩ := hp.at (i := 20) (by omega) (by omega)
  obtain ⟨i21, a21, b21⟩ := hp.at (i := 21) (by omega) (by omega)
  obtain ⟨i22, a22, b22⟩ := hp.at (i := 22) (by omega) (by omega)
  obtain ⟨i23, _, _⟩ := hp.at (i := 23) (by omega) (by omega)
  obtain ⟨i24, a24, b24⟩ := hp.at (i := 24) (by omega) (by omega)
  obtain ⟨i25, _, _⟩ := hp.at (i := 25) (by omega) (by omega)
  obtain ⟨i26, _, _⟩ := hp.at (i := 26) (by omega) (by omega)
  obtain ⟨i27, a27, b27⟩ := hp.at (i := 27) (by omega) (by omega)
  obtain ⟨ofr, hfr⟩ := frame_sat hp (by omega) (shapes := 8) (by omega) (by omega)
  refine sat_req ofr (sat_bnd ?_)
  generalize (m_law_frame pool 8).val = fr at hfr ⊢
  obtain ⟨letters, marks, base⟩ := fr
  obtain ⟨oan, f0, fo0, et, fd0, fw0⟩ := any_sat hp (at_ := 7) (by omega) (by omega) hfr
  show Cmp.sat (Cmp.req _ _) _
  replace oan : (m_law_any pool 7 letters marks).ok := oan
  replace et : (m_law_any pool 7 letters marks).val = f0.tr := et
  refine sat_req oan (sat_bnd ?_)
  rw [et]
  refine sat_req i20 (sat_bind (P := fun t => ∃ f : Fm, f.Ok ∧ t = f.tr ∧ f.dep < 9 ∧ f.words.length ≤ 40) (sat_ite (fun _ => sat_bnd (sat_bnd (sat_ret ⟨farF f0, ⟨⟨by show (2 : Int).natAbs < 10 ^ 18; decide, by show (1 : Int).natAbs < 10 ^ 18; decide, by show (3 : Int).natAbs < 10 ^ 18; decide⟩, fo0⟩, far_tr f0, by simp only [Fm.dep]; omega, by simp only [Fm.words, List.length_cons, List.length_append, List.length_nil]; omega⟩))) fun _ => sat_ret ⟨f0, fo0, rfl, by omega, by omega⟩) fun t ht => ?_)
  obtain ⟨f, fo, rfl, fd, h40⟩ := ht
  obtain ⟨q1, q2⟩ := rows_sat s (start := 1) (n := ixL pool 21 % 25) (b := base) (by omega) (by omega) (by omega)
  refine sat_req ⟨i21, q1⟩ (sat_bnd ?_)
  replace q2 : (m_law_rows s 1 (ixL pool 21 % 25) base).val.length ≤ 1000 := by have : _ = _ := q2; omega
  generalize (m_law_rows s 1 (ixL pool 21 % 25) base).val = rows at q2 ⊢
  obtain ⟨p1, p2⟩ := rows_sat s (start := 26) (n := ixL pool 22 % 25) (b := base) (by omega) (by omega) (by omega)
  refine sat_req ⟨i22, p1⟩ (sat_bnd ?_)
  replace p2 : (m_law_rows s 26 (ixL pool 22 % 25) base).val.length ≤ 1000 := by have : _ = _ := p2; omega
  generalize (m_law_rows s 26 (ixL pool 22 % 25) base).val = others at p2 ⊢
  obtain ⟨m1, m2⟩ := room_sat (a := ixL pool 23) (b := ixL pool 24)
  refine sat_req ⟨i23, i24, m1⟩ (sat_bnd ?_)
  generalize (m_law_room (ixL pool 23) (ixL pool 24)).val = room at m2 ⊢
  obtain ⟨w1, w2⟩ := room_sat (a := ixL pool 25) (b := ixL pool 26)
  refine sat_req ⟨i25, i26, w1⟩ (sat_bnd ?_)
  generalize (m_law_room (ixL pool 25) (ixL pool 26)).val = wide at w2 ⊢
  obtain ⟨otf, etf⟩ := text_sat f fo h40 9 fd
  obtain ⟨orf, erf⟩ := read_sat fo h40
  refine sat_req ⟨otf, by rw [etf]; exact orf⟩ (sat_bnd ?_)
  rw [etf, erf]
  obtain ⟨r1, r2⟩ := reader_sat (F := fmV f) m2
  obtain ⟨r3, r4⟩ := reader_sat (F := fmV f) (n := 2) ⟨by omega, by omega⟩
  refine sat_req r1 (sat_bnd (sat_req r3 (sat_bnd ?_)))
  rw [r2, r4]
  refine sat_req ⟨fun _ => trivial, fun _ _ => trivial⟩ (sat_ite (fun w => ?_) fun _ => ?_)
  · exfalso
    replace w : (!decide ((0 : Int) = 0) || (!decide (room = room) || !decide ((2 : Int) = 2))) = true := w
    rw [decide_eq_true rfl, decide_eq_true rfl, decide_eq_true rfl] at w; cases w
  refine sat_iteF (sat_orM (sat_negM (sat_methM (sat_mono (fine_sat fo fd h40 m2.1 q2) fun v hv => ?_))))
  subst hv
  refine ⟨rfl, ?_⟩
  refine sat_negM (sat_methM (sat_mono (fine_sat fo fd h40 (sp := 2) (by omega) p2) fun v hv => ?_))
  subst hv
  refine ⟨rfl, ?_⟩
  obtain ⟨l1, l2⟩ := lscan_sat fo fd m2.1 q2
  show Cmp.sat (Cmp.req _ _) _
  refine sat_req l1 (sat_bnd ?_)
  rw [l2]
  refine sat_ite (fun w => ?_) fun _ => ?_
  · exfalso
    replace w : (!decide (cnt (bt f) room rows = cnt (bt f) room rows)) = true := w
    rw [decide_eq_true rfl] at w; cases w
  refine sat_setM (b := ()) (s := ⟨fmV f, cnt (bt f) room rows, wide⟩) (sat_methM (sat_mono (resize_sat w2) fun v hv => by subst hv; rfl)) ?_
  refine sat_ite (fun w => ?_) fun _ => ?_
  · exfalso
    replace w : (!decide (cnt (bt f) room rows = cnt (bt f) room rows)) = true := w
    rw [decide_eq_true rfl] at w; cases w
  refine sat_bindR (P := fun c => ∃ q : Int, c = .nx (⟨fmV f, q, wide⟩ : ReaderV)) (sat_mono (sat_forC (fun _ (r : ReaderV) => ∃ q : Int, r = ⟨fmV f, q, wide⟩) ⟨_, rfl⟩ fun i t r ht hI => ?_) fun c hc => ?_) fun c hc => ?_
  · obtain ⟨q, rfl⟩ := hI
    have tl : t.length ≤ 1000 := by
      have := List.mem_of_getElem? ht
      simp only [List.mem_cons, List.not_mem_nil, or_false] at this
      rcases this with rfl | rfl | rfl
      · exact p2
      · exact q2
      · exact Nat.zero_le _
    refine sat_iteF (sat_orM (sat_req trivial (sat_ret ⟨?_, sat_negM (sat_methM (sat_mono (fine_sat fo fd h40 w2.1 tl) fun v hv => ?_))⟩)))
    · show (!decide (wide = wide)) = false
      rw [decide_eq_true rfl]; rfl
    · subst hv
      exact ⟨rfl, sat_ret ⟨_, .inl rfl, _, rfl⟩⟩
  · obtain ⟨r, e, q, rfl⟩ := hc
    exact ⟨q, e⟩
  obtain ⟨q, rfl⟩ := hc
  dsimp only [Ctl.thenR]
  refine sat_setM (b := ()) (s := (⟨fmV f, q, room⟩ : ReaderV)) (sat_methM (sat_mono (resize_sat m2) fun v hv => by subst hv; rfl)) ?_
  refine sat_iteF (sat_negM (sat_methM (sat_mono (apart_sat fo fd h40 m2.1 q2 p2) fun v hv => ?_)))
  subst hv
  refine ⟨rfl, ?_⟩
  obtain ⟨s1, s2⟩ := steep_sat (many := 31 + ixL pool 27 % 70) (spare := ixL pool 24 % 3) (by omega) (by omega) (by omega) (by omega)
  show Cmp.sat (Cmp.req _ _) _
  refine sat_req ⟨i27, s1⟩ ?_
  rw [s2]
  refine sat_ite (fun w => (by cases w)) fun _ => ?_
  refine sat_retM (sat_andM (sat_methM (sat_mono (fine_sat fo fd h40 m2.1 q2) fun v hv => ?_)))
  subst hv
  refine ⟨rfl, ?_⟩
  refine sat_methM (sat_mono (fine_sat fo fd h40 (sp := 2) (by omega) q2) fun v hv => ?_)
  subst hv
  rfl
end DL

set_option Elab.async false
set_option linter.all false
set_option maxRecDepth 100000
set_option maxHeartbeats 4000000
namespace DL
open PySem PySem.Spec PyProof.Rows L2 TL
theorem law_ok {ad : Ads} (L : Om) (s : List Int) (h : s.length ≤ 63) : ar_law ad L [.frl (s.map D.int)] (.bl true) := ⟨_, s, rfl, .inr rfl, (law_true s h).1, by rw [(law_true s h).2]⟩
set_option hygiene false in
local macro_rules | `(term| decl_name%) => `(({ CBadFormula := 0, CBadKey := 0, CBadPlan := 0, CBadRoom := 0, CBest := 0, CClash := 0, CFormula := CFormula, CKeep := 0, CKeys := 0, CNoOrder := 0, CNoRanking := 0, CNoRow := 0, CNoStep := 0, CPlan := 0, CRank := 0, CReader := CReader, CTooHeavy := 0, CTooLong := 0, CTooManySteps := 0, CTwoSided := 0, aOPERANDS := aOPERANDS, f_Formula___init__ := f_Formula___init__, f_Formula_holds := f_Formula_holds, f_Formula_read := f_Formula_read, f_Reader___init__ := f_Reader___init__, f_Reader_one_pass := f_Reader_one_pass, f_Reader_resize := f_Reader_resize, f_Reader_room := f_Reader_room, f_Reader_room_setter := f_Reader_room_setter, f_Reader_room_setter_new := f_Reader_room_setter_new, f_Reader_scan := f_Reader_scan, f_Reader_scan_N := f_Reader_scan_N, p_Formula_read := p_Formula_read, p_Reader_room := p_Reader_room, p_Reader_room_w := p_Reader_room_w } : Ads))
theorem all_mk {P : Program} {w : World} {K : PySem.W.Frag} {h : Heap} {mg : Str → Option Value} {fa : Addr} (X : K.In h) (G : h.Ns mainGlobals mg) (hfa : mg "law" = some (.ref fa))
    {CFormula CReader f_law_pool f_meets f_compared f_changed f_joined f_constant_of f_decoded aOPERANDS f_Formula___init__ f_Formula_holds f_Formula_read p_Formula_read f_Reader_room_setter_new f_Reader___init__ kD_Reader___init__ p_Reader_room f_Reader_room_setter f_Reader_resize p_Reader_room_w f_Reader_room f_Reader_one_pass f_Reader_scan f_Reader_scan_N f_law_text f_law_atom f_law_holds f_law_frame f_law_ranking f_law_order f_law_leaf f_law_under f_law_tree f_law_any f_law_value f_law_rows f_law_is_row f_law_is_rows f_law_pass f_law_scanned f_law_fine f_law_room f_law_steep f_law_apart f_law : Addr} {od_law_pool an_law_pool od_meets an_meets od_compared an_compared od_changed an_changed od_joined an_joined od_constant_of an_constant_of od_decoded an_decoded od_Formula___init__ an_Formula___init__ od_Formula_holds an_Formula_holds od_Formula_read an_Formula_read od_Reader_room_setter_new an_Reader_room_setter_new od_Reader___init__ an_Reader___init__ od_Reader_room_setter an_Reader_room_setter od_Reader_resize an_Reader_resize od_Reader_room an_Reader_room od_Reader_one_pass an_Reader_one_pass od_Reader_scan an_Reader_scan od_Reader_scan_N an_Reader_scan_N od_law_text an_law_text od_law_atom an_law_atom od_law_holds an_law_holds od_law_frame an_law_frame od_law_ranking an_law_ranking od_law_order an_law_order od_law_leaf an_law_leaf od_law_under an_law_under od_law_tree an_law_tree od_law_any an_law_any od_law_value an_law_value od_law_rows an_law_rows od_law_is_row an_law_is_row od_law_is_rows an_law_is_rows od_law_pass an_law_pass od_law_scanned an_law_scanned od_law_fine an_law_fine od_law_room an_law_room od_law_steep an_law_steep od_law_apart an_law_apart od_law an_law : Option Addr} {sl_law_pool sl_meets sl_compared sl_changed sl_joined sl_constant_of sl_decoded sl_Formula___init__ sl_Formula_holds sl_Formula_read sl_Reader_room_setter_new sl_Reader___init__ sl_Reader_room_setter sl_Reader_resize sl_Reader_room sl_Reader_one_pass sl_Reader_scan sl_Reader_scan_N sl_law_text sl_law_atom sl_law_holds sl_law_frame sl_law_ranking sl_law_order sl_law_leaf sl_law_under sl_law_tree sl_law_any sl_law_value sl_law_rows sl_law_is_row sl_law_is_rows sl_law_pass sl_law_scanned sl_law_fine sl_law_room sl_law_steep sl_law_apart sl_law : Array (Option Value)} {oc_law_pool kV_law_pool dc_law_pool pm_law_pool cd_law_pool ct_law_pool oc_meets kV_meets dc_meets pm_meets cd_meets ct_meets oc_compared kV_compared dc_compared pm_compared cd_compared ct_compared oc_changed kV_changed dc_changed pm_changed cd_changed ct_changed oc_joined kV_joined dc_joined pm_joined cd_joined ct_joined oc_constant_of kV_constant_of dc_constant_of pm_constant_of cd_constant_of ct_constant_of oc_decoded kV_decoded dc_decoded pm_decoded cd_decoded ct_decoded oc_Formula___init__ kV_Formula___init__ dc_Formula___init__ pm_Formula___init__ cd_Formula___init__ ct_Formula___init__ oc_Formula_holds kV_Formula_holds dc_Formula_holds pm_Formula_holds cd_Formula_holds ct_Formula_holds oc_Formula_read kV_Formula_read dc_Formula_read pm_Formula_read cd_Formula_read ct_Formula_read oc_Reader_room_setter_new kV_Reader_room_setter_new dc_Reader_room_setter_new pm_Reader_room_setter_new cd_Reader_room_setter_new ct_Reader_room_setter_new oc_Reader___init__ dc_Reader___init__ pm_Reader___init__ cd_Reader___init__ ct_Reader___init__ psv_Reader_room oc_Reader_room_setter kV_Reader_room_setter dc_Reader_room_setter pm_Reader_room_setter cd_Reader_room_setter ct_Reader_room_setter oc_Reader_resize kV_Reader_resize dc_Reader_resize pm_Reader_resize cd_Reader_resize ct_Reader_resize psv_Reader_room_w oc_Reader_room kV_Reader_room dc_Reader_room pm_Reader_room cd_Reader_room ct_Reader_room oc_Reader_one_pass kV_Reader_one_pass dc_Reader_one_pass pm_Reader_one_pass cd_Reader_one_pass ct_Reader_one_pass oc_Reader_scan kV_Reader_scan dc_Reader_scan pm_Reader_scan cd_Reader_scan ct_Reader_scan oc_Reader_scan_N kV_Reader_scan_N dc_Reader_scan_N pm_Reader_scan_N cd_Reader_scan_N ct_Reader_scan_N oc_law_text kV_law_text dc_law_text pm_law_text cd_law_text ct_law_text oc_law_atom kV_law_atom dc_law_atom pm_law_atom cd_law_atom ct_law_atom oc_law_holds kV_law_holds dc_law_holds pm_law_holds cd_law_holds ct_law_holds oc_law_frame kV_law_frame dc_law_frame pm_law_frame cd_law_frame ct_law_frame oc_law_ranking kV_law_ranking dc_law_ranking pm_law_ranking cd_law_ranking ct_law_ranking oc_law_order kV_law_order dc_law_order pm_law_order cd_law_order ct_law_order oc_law_leaf kV_law_leaf dc_law_leaf pm_law_leaf cd_law_leaf ct_law_leaf oc_law_under kV_law_under dc_law_under pm_law_under cd_law_under ct_law_under oc_law_tree kV_law_tree dc_law_tree pm_law_tree cd_law_tree ct_law_tree oc_law_any kV_law_any dc_law_any pm_law_any cd_law_any ct_law_any oc_law_value kV_law_value dc_law_value pm_law_value cd_law_value ct_law_value oc_law_rows kV_law_rows dc_law_rows pm_law_rows cd_law_rows ct_law_rows oc_law_is_row kV_law_is_row dc_law_is_row pm_law_is_row cd_law_is_row ct_law_is_row oc_law_is_rows kV_law_is_rows dc_law_is_rows pm_law_is_rows cd_law_is_rows ct_law_is_rows oc_law_pass kV_law_pass dc_law_pass pm_law_pass cd_law_pass ct_law_pass oc_law_scanned kV_law_scanned dc_law_scanned pm_law_scanned cd_law_scanned ct_law_scanned oc_law_fine kV_law_fine dc_law_fine pm_law_fine cd_law_fine ct_law_fine oc_law_room kV_law_room dc_law_room pm_law_room cd_law_room ct_law_room oc_law_steep kV_law_steep dc_law_steep pm_law_steep cd_law_steep ct_law_steep oc_law_apart kV_law_apart dc_law_apart pm_law_apart cd_law_apart ct_law_apart oc_law kV_law dc_law pm_law cd_law ct_law : Value} {rest_Formula_read rest_Reader_room rest_ps_Reader_room rest_ps_Reader_room_w : List Value} {es_OPERANDS : Array DictEntry} {n_OPERANDS : Nat} {tCOLUMNS tFormulaMOST tReaderMOST : Tok} {kt_Reader___init__ : Tok}
    (aC_Formula : PySem.W.nsIn K mainGlobals "Formula" = some (some (.ref CFormula)))
    (aC_Reader : PySem.W.nsIn K mainGlobals "Reader" = some (some (.ref CReader)))
    (psa_Reader_room : PySem.W.takerIn K CReader "room" = some (some (.ref p_Reader_room)))
    (psb_Reader_room : PySem.W.typeIn K (.ref p_Reader_room) = some (.type "property"))
    (psc_Reader_room : PySem.W.recIn K p_Reader_room "property" = some (psv_Reader_room :: .ref f_Reader_room_setter_new :: rest_ps_Reader_room))
    (psa_Reader_room_w : PySem.W.takerIn K CReader "room" = some (some (.ref p_Reader_room_w)))
    (psb_Reader_room_w : PySem.W.typeIn K (.ref p_Reader_room_w) = some (.type "property"))
    (psc_Reader_room_w : PySem.W.recIn K p_Reader_room_w "property" = some (psv_Reader_room_w :: .ref f_Reader_room_setter :: rest_ps_Reader_room_w))
    (ma_Formula_Formula_holds : PySem.W.findIn K (.ref CFormula) "holds" = some (some (.ref f_Formula_holds)))
    (ma_Reader_Reader_one_pass : PySem.W.findIn K (.ref CReader) "one_pass" = some (some (.ref f_Reader_one_pass)))
    (ma_Reader_Reader_scan_N : PySem.W.findIn K (.ref CReader) "scan" = some (some (.ref f_Reader_scan_N)))
    (ma_Reader_Reader_scan : PySem.W.findIn K (.ref CReader) "scan" = some (some (.ref f_Reader_scan)))
    (ma_Reader_Reader_resize : PySem.W.findIn K (.ref CReader) "resize" = some (some (.ref f_Reader_resize)))
    (pg_Formula : PySem.W.plainGet K CFormula Str.empty = true)
    (hd_Formula : PySem.W.hasDictIn K CFormula = true)
    (po_Formula : PySem.W.plainOver K CFormula = true)
    (sa_Formula : PySem.W.findIn K (.ref CFormula) "__setattr__" = some (some (.builtin "object.__setattr__")))
    (pg_Reader : PySem.W.plainGet K CReader Str.empty = true)
    (hd_Reader : PySem.W.hasDictIn K CReader = true)
    (po_Reader : PySem.W.plainOver K CReader = true)
    (sa_Reader : PySem.W.findIn K (.ref CReader) "__setattr__" = some (some (.builtin "object.__setattr__")))
    (a_law_pool : PySem.W.nsIn K mainGlobals "_law_pool" = some (some (.ref f_law_pool)))
    (l_law_pool : K.lookup f_law_pool = some ⟨oc_law_pool, od_law_pool, .func (PySem.W.fnOf "_law_pool" "_law_pool" (defArgs s_law_pool) (defBody s_law_pool) (defScope s_law_pool) .none kV_law_pool dc_law_pool pm_law_pool an_law_pool cd_law_pool ct_law_pool), sl_law_pool⟩)
    (c_law_pool : PySem.W.codeIn K cd_law_pool "_law_pool" = true)
    (kp_law_pool : PySem.W.keepIn K (.ref f_law_pool) = true)
    (z_len : PySem.W.nsIn K mainGlobals "len" = some none)
    (z_range : PySem.W.nsIn K mainGlobals "range" = some none)
    (z_int : PySem.W.nsIn K mainGlobals "int" = some none)
    (a_meets : PySem.W.nsIn K mainGlobals "meets" = some (some (.ref f_meets)))
    (l_meets : K.lookup f_meets = some ⟨oc_meets, od_meets, .func (PySem.W.fnOf "meets" "meets" (defArgs s_meets) (defBody s_meets) (defScope s_meets) .none kV_meets dc_meets pm_meets an_meets cd_meets ct_meets), sl_meets⟩)
    (c_meets : PySem.W.codeIn K cd_meets "meets" = true)
    (kp_meets : PySem.W.keepIn K (.ref f_meets) = true)
    (a_compared : PySem.W.nsIn K mainGlobals "compared" = some (some (.ref f_compared)))
    (l_compared : K.lookup f_compared = some ⟨oc_compared, od_compared, .func (PySem.W.fnOf "compared" "compared" (defArgs s_compared) (defBody s_compared) (defScope s_compared) .none kV_compared dc_compared pm_compared an_compared cd_compared ct_compared), sl_compared⟩)
    (c_compared : PySem.W.codeIn K cd_compared "compared" = true)
    (kp_compared : PySem.W.keepIn K (.ref f_compared) = true)
    (a_changed : PySem.W.nsIn K mainGlobals "changed" = some (some (.ref f_changed)))
    (l_changed : K.lookup f_changed = some ⟨oc_changed, od_changed, .func (PySem.W.fnOf "changed" "changed" (defArgs s_changed) (defBody s_changed) (defScope s_changed) .none kV_changed dc_changed pm_changed an_changed cd_changed ct_changed), sl_changed⟩)
    (c_changed : PySem.W.codeIn K cd_changed "changed" = true)
    (kp_changed : PySem.W.keepIn K (.ref f_changed) = true)
    (a_joined : PySem.W.nsIn K mainGlobals "joined" = some (some (.ref f_joined)))
    (l_joined : K.lookup f_joined = some ⟨oc_joined, od_joined, .func (PySem.W.fnOf "joined" "joined" (defArgs s_joined) (defBody s_joined) (defScope s_joined) .none kV_joined dc_joined pm_joined an_joined cd_joined ct_joined), sl_joined⟩)
    (c_joined : PySem.W.codeIn K cd_joined "joined" = true)
    (kp_joined : PySem.W.keepIn K (.ref f_joined) = true)
    (a_constant_of : PySem.W.nsIn K mainGlobals "constant_of" = some (some (.ref f_constant_of)))
    (l_constant_of : K.lookup f_constant_of = some ⟨oc_constant_of, od_constant_of, .func (PySem.W.fnOf "constant_of" "constant_of" (defArgs s_constant_of) (defBody s_constant_of) (defScope s_constant_of) .none kV_constant_of dc_constant_of pm_constant_of an_constant_of cd_constant_of ct_constant_of), sl_constant_of⟩)
    (c_constant_of : PySem.W.codeIn K cd_constant_of "constant_of" = true)
    (kp_constant_of : PySem.W.keepIn K (.ref f_constant_of) = true)
    (a_decoded : PySem.W.nsIn K mainGlobals "decoded" = some (some (.ref f_decoded)))
    (l_decoded : K.lookup f_decoded = some ⟨oc_decoded, od_decoded, .func (PySem.W.fnOf "decoded" "decoded" (defArgs s_decoded) (defBody s_decoded) (defScope s_decoded) .none kV_decoded dc_decoded pm_decoded an_decoded cd_decoded ct_decoded), sl_decoded⟩)
    (c_decoded : PySem.W.codeIn K cd_decoded "decoded" = true)
    (kp_decoded : PySem.W.keepIn K (.ref f_decoded) = true)
    (ga_OPERANDS : PySem.W.nsIn K mainGlobals "OPERANDS" = some (some (.ref aOPERANDS)))
    (ld_OPERANDS : K.lookup aOPERANDS = some ⟨.type "dict", none, .dict es_OPERANDS n_OPERANDS, #[]⟩)
    (li_OPERANDS : PySem.W.KeysLit w.params es_OPERANDS.toList)
    (lw_OPERANDS : (aOPERANDS == sysModules) = false)
    (lv_OPERANDS : es_OPERANDS.toList.map keyVal = (opsL).map some)
    (ga_COLUMNS : PySem.W.nsIn K mainGlobals "COLUMNS" = some (some (.str "abc" tCOLUMNS)))
    (a_Formula___init__ : PySem.W.findIn K (.ref CFormula) "__init__" = some (some (.ref f_Formula___init__)))
    (i_Formula___init__ : PySem.W.isFn K (.ref f_Formula___init__) = true)
    (l_Formula___init__ : K.lookup f_Formula___init__ = some ⟨oc_Formula___init__, od_Formula___init__, .func (PySem.W.fnOf "__init__" "Formula.__init__" (defArgs s_Formula___init__) (defBody s_Formula___init__) (defScope s_Formula___init__) .none kV_Formula___init__ dc_Formula___init__ pm_Formula___init__ an_Formula___init__ cd_Formula___init__ ct_Formula___init__), sl_Formula___init__⟩)
    (c_Formula___init__ : PySem.W.codeIn K cd_Formula___init__ "Formula.__init__" = true)
    (kp_Formula___init__ : PySem.W.keepIn K (.ref f_Formula___init__) = true)
    (ra_Formula : PySem.W.readsIn K CFormula (.type "type") = true)
    (rb_Formula : PySem.W.specialIn K (.ref CFormula) "__getattribute__" = some (some (.builtin "type.__getattribute__")))
    (cv_Formula_MOST : PySem.W.findCls K (.ref CFormula) (.type "type") "MOST" = some (.val (.int 40 tFormulaMOST)))
    (z_enumerate : PySem.W.nsIn K mainGlobals "enumerate" = some none)
    (z_tuple : PySem.W.nsIn K mainGlobals "tuple" = some none)
    (na_Formula_code : PySem.W.findIn K (.ref CFormula) "code" = some none)
    (na_Formula_words : PySem.W.findIn K (.ref CFormula) "words" = some none)
    (a_Formula_holds : PySem.W.findIn K (.ref CFormula) "holds" = some (some (.ref f_Formula_holds)))
    (i_Formula_holds : PySem.W.isFn K (.ref f_Formula_holds) = true)
    (l_Formula_holds : K.lookup f_Formula_holds = some ⟨oc_Formula_holds, od_Formula_holds, .func (PySem.W.fnOf "holds" "Formula.holds" (defArgs s_Formula_holds) (defBody s_Formula_holds) (defScope s_Formula_holds) .none kV_Formula_holds dc_Formula_holds pm_Formula_holds an_Formula_holds cd_Formula_holds ct_Formula_holds), sl_Formula_holds⟩)
    (c_Formula_holds : PySem.W.codeIn K cd_Formula_holds "Formula.holds" = true)
    (kp_Formula_holds : PySem.W.keepIn K (.ref f_Formula_holds) = true)
    (qa_Formula_read : PySem.W.findCls K (.ref CFormula) (.type "type") "read" = some (.get (.builtin "classmethod.__get__") (.ref p_Formula_read) .none (.ref CFormula)))
    (qb_Formula_read : PySem.W.recIn K p_Formula_read "classmethod" = some (.ref f_Formula_read :: rest_Formula_read))
    (qc_Formula_read : PySem.W.fnIn K f_Formula_read = true)
    (l_Formula_read : K.lookup f_Formula_read = some ⟨oc_Formula_read, od_Formula_read, .func (PySem.W.fnOf "read" "Formula.read" (defArgs s_Formula_read) (defBody s_Formula_read) (defScope s_Formula_read) .none kV_Formula_read dc_Formula_read pm_Formula_read an_Formula_read cd_Formula_read ct_Formula_read), sl_Formula_read⟩)
    (c_Formula_read : PySem.W.codeIn K cd_Formula_read "Formula.read" = true)
    (kp_Formula_read : PySem.W.keepIn K (.ref f_Formula_read) = true)
    (mm_Formula : PySem.W.makesIn K CFormula = true)
    (mc_Formula : PySem.W.keepIn K (.ref CFormula) = true)
    (i_Reader_room_setter_new : PySem.W.isFn K (.ref f_Reader_room_setter_new) = true)
    (l_Reader_room_setter_new : K.lookup f_Reader_room_setter_new = some ⟨oc_Reader_room_setter_new, od_Reader_room_setter_new, .func (PySem.W.fnOf "room" "Reader.room" (defArgs s_Reader_room_setter_new) (defBody s_Reader_room_setter_new) (defScope s_Reader_room_setter_new) .none kV_Reader_room_setter_new dc_Reader_room_setter_new pm_Reader_room_setter_new an_Reader_room_setter_new cd_Reader_room_setter_new ct_Reader_room_setter_new), sl_Reader_room_setter_new⟩)
    (c_Reader_room_setter_new : PySem.W.codeIn K cd_Reader_room_setter_new "Reader.room" = true)
    (kp_Reader_room_setter_new : PySem.W.keepIn K (.ref f_Reader_room_setter_new) = true)
    (ra_Reader : PySem.W.readsIn K CReader (.type "type") = true)
    (rb_Reader : PySem.W.specialIn K (.ref CReader) "__getattribute__" = some (some (.builtin "type.__getattribute__")))
    (cv_Reader_MOST : PySem.W.findCls K (.ref CReader) (.type "type") "MOST" = some (.val (.int 1000 tReaderMOST)))
    (na_Reader_space : PySem.W.findIn K (.ref CReader) "space" = some none)
    (a_Reader___init__ : PySem.W.findIn K (.ref CReader) "__init__" = some (some (.ref f_Reader___init__)))
    (i_Reader___init__ : PySem.W.isFn K (.ref f_Reader___init__) = true)
    (l_Reader___init__ : K.lookup f_Reader___init__ = some ⟨oc_Reader___init__, od_Reader___init__, .func (PySem.W.fnOf "__init__" "Reader.__init__" (defArgs s_Reader___init__) (defBody s_Reader___init__) (defScope s_Reader___init__) .none (.ref kD_Reader___init__) dc_Reader___init__ pm_Reader___init__ an_Reader___init__ cd_Reader___init__ ct_Reader___init__), sl_Reader___init__⟩)
    (kq_Reader___init__ : PySem.W.nsIn K kD_Reader___init__ "room" = some (some (.int 2 kt_Reader___init__)))
    (c_Reader___init__ : PySem.W.codeIn K cd_Reader___init__ "Reader.__init__" = true)
    (kp_Reader___init__ : PySem.W.keepIn K (.ref f_Reader___init__) = true)
    (na_Reader_passes : PySem.W.findIn K (.ref CReader) "passes" = some none)
    (na_Reader_formula : PySem.W.findIn K (.ref CReader) "formula" = some none)
    (i_Reader_room_setter : PySem.W.isFn K (.ref f_Reader_room_setter) = true)
    (l_Reader_room_setter : K.lookup f_Reader_room_setter = some ⟨oc_Reader_room_setter, od_Reader_room_setter, .func (PySem.W.fnOf "room" "Reader.room" (defArgs s_Reader_room_setter) (defBody s_Reader_room_setter) (defScope s_Reader_room_setter) .none kV_Reader_room_setter dc_Reader_room_setter pm_Reader_room_setter an_Reader_room_setter cd_Reader_room_setter ct_Reader_room_setter), sl_Reader_room_setter⟩)
    (c_Reader_room_setter : PySem.W.codeIn K cd_Reader_room_setter "Reader.room" = true)
    (kp_Reader_room_setter : PySem.W.keepIn K (.ref f_Reader_room_setter) = true)
    (a_Reader_resize : PySem.W.findIn K (.ref CReader) "resize" = some (some (.ref f_Reader_resize)))
    (i_Reader_resize : PySem.W.isFn K (.ref f_Reader_resize) = true)
    (l_Reader_resize : K.lookup f_Reader_resize = some ⟨oc_Reader_resize, od_Reader_resize, .func (PySem.W.fnOf "resize" "Reader.resize" (defArgs s_Reader_resize) (defBody s_Reader_resize) (defScope s_Reader_resize) .none kV_Reader_resize dc_Reader_resize pm_Reader_resize an_Reader_resize cd_Reader_resize ct_Reader_resize), sl_Reader_resize⟩)
    (c_Reader_resize : PySem.W.codeIn K cd_Reader_resize "Reader.resize" = true)
    (kp_Reader_resize : PySem.W.keepIn K (.ref f_Reader_resize) = true)
    (pa_Reader_room : PySem.W.findIn K (.ref CReader) "room" = some (some (.ref p_Reader_room)))
    (pb_Reader_room : PySem.W.specialIn K (.ref p_Reader_room) "__get__" = some (some (.builtin "property.__get__")))
    (pc_Reader_room : PySem.W.takesIn K (.ref p_Reader_room) = some true)
    (pd_Reader_room : PySem.W.recIn K p_Reader_room "property" = some (.ref f_Reader_room :: rest_Reader_room))
    (l_Reader_room : K.lookup f_Reader_room = some ⟨oc_Reader_room, od_Reader_room, .func (PySem.W.fnOf "room" "Reader.room" (defArgs s_Reader_room) (defBody s_Reader_room) (defScope s_Reader_room) .none kV_Reader_room dc_Reader_room pm_Reader_room an_Reader_room cd_Reader_room ct_Reader_room), sl_Reader_room⟩)
    (c_Reader_room : PySem.W.codeIn K cd_Reader_room "Reader.room" = true)
    (kp_Reader_room : PySem.W.keepIn K (.ref f_Reader_room) = true)
    (a_Reader_one_pass : PySem.W.findIn K (.ref CReader) "one_pass" = some (some (.ref f_Reader_one_pass)))
    (i_Reader_one_pass : PySem.W.isFn K (.ref f_Reader_one_pass) = true)
    (l_Reader_one_pass : K.lookup f_Reader_one_pass = some ⟨oc_Reader_one_pass, od_Reader_one_pass, .func (PySem.W.fnOf "one_pass" "Reader.one_pass" (defArgs s_Reader_one_pass) (defBody s_Reader_one_pass) (defScope s_Reader_one_pass) .none kV_Reader_one_pass dc_Reader_one_pass pm_Reader_one_pass an_Reader_one_pass cd_Reader_one_pass ct_Reader_one_pass), sl_Reader_one_pass⟩)
    (c_Reader_one_pass : PySem.W.codeIn K cd_Reader_one_pass "Reader.one_pass" = true)
    (kp_Reader_one_pass : PySem.W.keepIn K (.ref f_Reader_one_pass) = true)
    (z_any : PySem.W.nsIn K mainGlobals "any" = some none)
    (a_Reader_scan : PySem.W.findIn K (.ref CReader) "scan" = some (some (.ref f_Reader_scan)))
    (i_Reader_scan : PySem.W.isFn K (.ref f_Reader_scan) = true)
    (l_Reader_scan : K.lookup f_Reader_scan = some ⟨oc_Reader_scan, od_Reader_scan, .func (PySem.W.fnOf "scan" "Reader.scan" (defArgs s_Reader_scan) (defBody s_Reader_scan) (defScope s_Reader_scan) .none kV_Reader_scan dc_Reader_scan pm_Reader_scan an_Reader_scan cd_Reader_scan ct_Reader_scan), sl_Reader_scan⟩)
    (c_Reader_scan : PySem.W.codeIn K cd_Reader_scan "Reader.scan" = true)
    (kp_Reader_scan : PySem.W.keepIn K (.ref f_Reader_scan) = true)
    (z_list : PySem.W.nsIn K mainGlobals "list" = some none)
    (i_Reader_scan_N : PySem.W.isFn K (.ref f_Reader_scan_N) = true)
    (l_Reader_scan_N : K.lookup f_Reader_scan_N = some ⟨oc_Reader_scan_N, od_Reader_scan_N, .func (PySem.W.fnOf "scan" "Reader.scan" (defArgs s_Reader_scan_N) (defBody s_Reader_scan_N) (defScope s_Reader_scan_N) .none kV_Reader_scan_N dc_Reader_scan_N pm_Reader_scan_N an_Reader_scan_N cd_Reader_scan_N ct_Reader_scan_N), sl_Reader_scan_N⟩)
    (c_Reader_scan_N : PySem.W.codeIn K cd_Reader_scan_N "Reader.scan" = true)
    (kp_Reader_scan_N : PySem.W.keepIn K (.ref f_Reader_scan_N) = true)
    (a_law_text : PySem.W.nsIn K mainGlobals "_law_text" = some (some (.ref f_law_text)))
    (l_law_text : K.lookup f_law_text = some ⟨oc_law_text, od_law_text, .func (PySem.W.fnOf "_law_text" "_law_text" (defArgs s_law_text) (defBody s_law_text) (defScope s_law_text) .none kV_law_text dc_law_text pm_law_text an_law_text cd_law_text ct_law_text), sl_law_text⟩)
    (c_law_text : PySem.W.codeIn K cd_law_text "_law_text" = true)
    (kp_law_text : PySem.W.keepIn K (.ref f_law_text) = true)
    (z_isinstance : PySem.W.nsIn K mainGlobals "isinstance" = some none)
    (z_str : PySem.W.nsIn K mainGlobals "str" = some none)
    (a_law_atom : PySem.W.nsIn K mainGlobals "_law_atom" = some (some (.ref f_law_atom)))
    (l_law_atom : K.lookup f_law_atom = some ⟨oc_law_atom, od_law_atom, .func (PySem.W.fnOf "_law_atom" "_law_atom" (defArgs s_law_atom) (defBody s_law_atom) (defScope s_law_atom) .none kV_law_atom dc_law_atom pm_law_atom an_law_atom cd_law_atom ct_law_atom), sl_law_atom⟩)
    (c_law_atom : PySem.W.codeIn K cd_law_atom "_law_atom" = true)
    (kp_law_atom : PySem.W.keepIn K (.ref f_law_atom) = true)
    (a_law_holds : PySem.W.nsIn K mainGlobals "_law_holds" = some (some (.ref f_law_holds)))
    (l_law_holds : K.lookup f_law_holds = some ⟨oc_law_holds, od_law_holds, .func (PySem.W.fnOf "_law_holds" "_law_holds" (defArgs s_law_holds) (defBody s_law_holds) (defScope s_law_holds) .none kV_law_holds dc_law_holds pm_law_holds an_law_holds cd_law_holds ct_law_holds), sl_law_holds⟩)
    (c_law_holds : PySem.W.codeIn K cd_law_holds "_law_holds" = true)
    (kp_law_holds : PySem.W.keepIn K (.ref f_law_holds) = true)
    (a_law_frame : PySem.W.nsIn K mainGlobals "_law_frame" = some (some (.ref f_law_frame)))
    (l_law_frame : K.lookup f_law_frame = some ⟨oc_law_frame, od_law_frame, .func (PySem.W.fnOf "_law_frame" "_law_frame" (defArgs s_law_frame) (defBody s_law_frame) (defScope s_law_frame) .none kV_law_frame dc_law_frame pm_law_frame an_law_frame cd_law_frame ct_law_frame), sl_law_frame⟩)
    (c_law_frame : PySem.W.codeIn K cd_law_frame "_law_frame" = true)
    (kp_law_frame : PySem.W.keepIn K (.ref f_law_frame) = true)
    (a_law_ranking : PySem.W.nsIn K mainGlobals "_law_ranking" = some (some (.ref f_law_ranking)))
    (l_law_ranking : K.lookup f_law_ranking = some ⟨oc_law_ranking, od_law_ranking, .func (PySem.W.fnOf "_law_ranking" "_law_ranking" (defArgs s_law_ranking) (defBody s_law_ranking) (defScope s_law_ranking) .none kV_law_ranking dc_law_ranking pm_law_ranking an_law_ranking cd_law_ranking ct_law_ranking), sl_law_ranking⟩)
    (c_law_ranking : PySem.W.codeIn K cd_law_ranking "_law_ranking" = true)
    (kp_law_ranking : PySem.W.keepIn K (.ref f_law_ranking) = true)
    (a_law_order : PySem.W.nsIn K mainGlobals "_law_order" = some (some (.ref f_law_order)))
    (l_law_order : K.lookup f_law_order = some ⟨oc_law_order, od_law_order, .func (PySem.W.fnOf "_law_order" "_law_order" (defArgs s_law_order) (defBody s_law_order) (defScope s_law_order) .none kV_law_order dc_law_order pm_law_order an_law_order cd_law_order ct_law_order), sl_law_order⟩)
    (c_law_order : PySem.W.codeIn K cd_law_order "_law_order" = true)
    (kp_law_order : PySem.W.keepIn K (.ref f_law_order) = true)
    (a_law_leaf : PySem.W.nsIn K mainGlobals "_law_leaf" = some (some (.ref f_law_leaf)))
    (l_law_leaf : K.lookup f_law_leaf = some ⟨oc_law_leaf, od_law_leaf, .func (PySem.W.fnOf "_law_leaf" "_law_leaf" (defArgs s_law_leaf) (defBody s_law_leaf) (defScope s_law_leaf) .none kV_law_leaf dc_law_leaf pm_law_leaf an_law_leaf cd_law_leaf ct_law_leaf), sl_law_leaf⟩)
    (c_law_leaf : PySem.W.codeIn K cd_law_leaf "_law_leaf" = true)
    (kp_law_leaf : PySem.W.keepIn K (.ref f_law_leaf) = true)
    (a_law_under : PySem.W.nsIn K mainGlobals "_law_under" = some (some (.ref f_law_under)))
    (l_law_under : K.lookup f_law_under = some ⟨oc_law_under, od_law_under, .func (PySem.W.fnOf "_law_under" "_law_under" (defArgs s_law_under) (defBody s_law_under) (defScope s_law_under) .none kV_law_under dc_law_under pm_law_under an_law_under cd_law_under ct_law_under), sl_law_under⟩)
    (c_law_under : PySem.W.codeIn K cd_law_under "_law_under" = true)
    (kp_law_under : PySem.W.keepIn K (.ref f_law_under) = true)
    (a_law_tree : PySem.W.nsIn K mainGlobals "_law_tree" = some (some (.ref f_law_tree)))
    (l_law_tree : K.lookup f_law_tree = some ⟨oc_law_tree, od_law_tree, .func (PySem.W.fnOf "_law_tree" "_law_tree" (defArgs s_law_tree) (defBody s_law_tree) (defScope s_law_tree) .none kV_law_tree dc_law_tree pm_law_tree an_law_tree cd_law_tree ct_law_tree), sl_law_tree⟩)
    (c_law_tree : PySem.W.codeIn K cd_law_tree "_law_tree" = true)
    (kp_law_tree : PySem.W.keepIn K (.ref f_law_tree) = true)
    (a_law_any : PySem.W.nsIn K mainGlobals "_law_any" = some (some (.ref f_law_any)))
    (l_law_any : K.lookup f_law_any = some ⟨oc_law_any, od_law_any, .func (PySem.W.fnOf "_law_any" "_law_any" (defArgs s_law_any) (defBody s_law_any) (defScope s_law_any) .none kV_law_any dc_law_any pm_law_any an_law_any cd_law_any ct_law_any), sl_law_any⟩)
    (c_law_any : PySem.W.codeIn K cd_law_any "_law_any" = true)
    (kp_law_any : PySem.W.keepIn K (.ref f_law_any) = true)
    (a_law_value : PySem.W.nsIn K mainGlobals "_law_value" = some (some (.ref f_law_value)))
    (l_law_value : K.lookup f_law_value = some ⟨oc_law_value, od_law_value, .func (PySem.W.fnOf "_law_value" "_law_value" (defArgs s_law_value) (defBody s_law_value) (defScope s_law_value) .none kV_law_value dc_law_value pm_law_value an_law_value cd_law_value ct_law_value), sl_law_value⟩)
    (c_law_value : PySem.W.codeIn K cd_law_value "_law_value" = true)
    (kp_law_value : PySem.W.keepIn K (.ref f_law_value) = true)
    (a_law_rows : PySem.W.nsIn K mainGlobals "_law_rows" = some (some (.ref f_law_rows)))
    (l_law_rows : K.lookup f_law_rows = some ⟨oc_law_rows, od_law_rows, .func (PySem.W.fnOf "_law_rows" "_law_rows" (defArgs s_law_rows) (defBody s_law_rows) (defScope s_law_rows) .none kV_law_rows dc_law_rows pm_law_rows an_law_rows cd_law_rows ct_law_rows), sl_law_rows⟩)
    (c_law_rows : PySem.W.codeIn K cd_law_rows "_law_rows" = true)
    (kp_law_rows : PySem.W.keepIn K (.ref f_law_rows) = true)
    (a_law_is_row : PySem.W.nsIn K mainGlobals "_law_is_row" = some (some (.ref f_law_is_row)))
    (l_law_is_row : K.lookup f_law_is_row = some ⟨oc_law_is_row, od_law_is_row, .func (PySem.W.fnOf "_law_is_row" "_law_is_row" (defArgs s_law_is_row) (defBody s_law_is_row) (defScope s_law_is_row) .none kV_law_is_row dc_law_is_row pm_law_is_row an_law_is_row cd_law_is_row ct_law_is_row), sl_law_is_row⟩)
    (c_law_is_row : PySem.W.codeIn K cd_law_is_row "_law_is_row" = true)
    (kp_law_is_row : PySem.W.keepIn K (.ref f_law_is_row) = true)
    (z_bool : PySem.W.nsIn K mainGlobals "bool" = some none)
    (a_law_is_rows : PySem.W.nsIn K mainGlobals "_law_is_rows" = some (some (.ref f_law_is_rows)))
    (l_law_is_rows : K.lookup f_law_is_rows = some ⟨oc_law_is_rows, od_law_is_rows, .func (PySem.W.fnOf "_law_is_rows" "_law_is_rows" (defArgs s_law_is_rows) (defBody s_law_is_rows) (defScope s_law_is_rows) .none kV_law_is_rows dc_law_is_rows pm_law_is_rows an_law_is_rows cd_law_is_rows ct_law_is_rows), sl_law_is_rows⟩)
    (c_law_is_rows : PySem.W.codeIn K cd_law_is_rows "_law_is_rows" = true)
    (kp_law_is_rows : PySem.W.keepIn K (.ref f_law_is_rows) = true)
    (a_law_pass : PySem.W.nsIn K mainGlobals "_law_pass" = some (some (.ref f_law_pass)))
    (l_law_pass : K.lookup f_law_pass = some ⟨oc_law_pass, od_law_pass, .func (PySem.W.fnOf "_law_pass" "_law_pass" (defArgs s_law_pass) (defBody s_law_pass) (defScope s_law_pass) .none kV_law_pass dc_law_pass pm_law_pass an_law_pass cd_law_pass ct_law_pass), sl_law_pass⟩)
    (c_law_pass : PySem.W.codeIn K cd_law_pass "_law_pass" = true)
    (kp_law_pass : PySem.W.keepIn K (.ref f_law_pass) = true)
    (a_law_scanned : PySem.W.nsIn K mainGlobals "_law_scanned" = some (some (.ref f_law_scanned)))
    (l_law_scanned : K.lookup f_law_scanned = some ⟨oc_law_scanned, od_law_scanned, .func (PySem.W.fnOf "_law_scanned" "_law_scanned" (defArgs s_law_scanned) (defBody s_law_scanned) (defScope s_law_scanned) .none kV_law_scanned dc_law_scanned pm_law_scanned an_law_scanned cd_law_scanned ct_law_scanned), sl_law_scanned⟩)
    (c_law_scanned : PySem.W.codeIn K cd_law_scanned "_law_scanned" = true)
    (kp_law_scanned : PySem.W.keepIn K (.ref f_law_scanned) = true)
    (a_law_fine : PySem.W.nsIn K mainGlobals "_law_fine" = some (some (.ref f_law_fine)))
    (l_law_fine : K.lookup f_law_fine = some ⟨oc_law_fine, od_law_fine, .func (PySem.W.fnOf "_law_fine" "_law_fine" (defArgs s_law_fine) (defBody s_law_fine) (defScope s_law_fine) .none kV_law_fine dc_law_fine pm_law_fine an_law_fine cd_law_fine ct_law_fine), sl_law_fine⟩)
    (c_law_fine : PySem.W.codeIn K cd_law_fine "_law_fine" = true)
    (kp_law_fine : PySem.W.keepIn K (.ref f_law_fine) = true)
    (a_law_room : PySem.W.nsIn K mainGlobals "_law_room" = some (some (.ref f_law_room)))
    (l_law_room : K.lookup f_law_room = some ⟨oc_law_room, od_law_room, .func (PySem.W.fnOf "_law_room" "_law_room" (defArgs s_law_room) (defBody s_law_room) (defScope s_law_room) .none kV_law_room dc_law_room pm_law_room an_law_room cd_law_room ct_law_room), sl_law_room⟩)
    (c_law_room : PySem.W.codeIn K cd_law_room "_law_room" = true)
    (kp_law_room : PySem.W.keepIn K (.ref f_law_room) = true)
    (a_law_steep : PySem.W.nsIn K mainGlobals "_law_steep" = some (some (.ref f_law_steep)))
    (l_law_steep : K.lookup f_law_steep = some ⟨oc_law_steep, od_law_steep, .func (PySem.W.fnOf "_law_steep" "_law_steep" (defArgs s_law_steep) (defBody s_law_steep) (defScope s_law_steep) .none kV_law_steep dc_law_steep pm_law_steep an_law_steep cd_law_steep ct_law_steep), sl_law_steep⟩)
    (c_law_steep : PySem.W.codeIn K cd_law_steep "_law_steep" = true)
    (kp_law_steep : PySem.W.keepIn K (.ref f_law_steep) = true)
    (mm_Reader : PySem.W.makesIn K CReader = true)
    (mc_Reader : PySem.W.keepIn K (.ref CReader) = true)
    (a_law_apart : PySem.W.nsIn K mainGlobals "_law_apart" = some (some (.ref f_law_apart)))
    (l_law_apart : K.lookup f_law_apart = some ⟨oc_law_apart, od_law_apart, .func (PySem.W.fnOf "_law_apart" "_law_apart" (defArgs s_law_apart) (defBody s_law_apart) (defScope s_law_apart) .none kV_law_apart dc_law_apart pm_law_apart an_law_apart cd_law_apart ct_law_apart), sl_law_apart⟩)
    (c_law_apart : PySem.W.codeIn K cd_law_apart "_law_apart" = true)
    (kp_law_apart : PySem.W.keepIn K (.ref f_law_apart) = true)
    (a_law : PySem.W.nsIn K mainGlobals "law" = some (some (.ref f_law)))
    (l_law : K.lookup f_law = some ⟨oc_law, od_law, .func (PySem.W.fnOf "law" "law" (defArgs s_law) (defBody s_law) (defScope s_law) .none kV_law dc_law pm_law an_law cd_law ct_law), sl_law⟩)
    (c_law : PySem.W.codeIn K cd_law "law" = true)
    (kp_law : PySem.W.keepIn K (.ref f_law) = true)
    : ∃ fd : FuncData, (∀ (s : Shared) (v : Value), BindsTo s fd ⟨[v], []⟩ [("_law_script", v)]) ∧ ∀ base : Heap, K.In base → base.Ns mainGlobals mg → FnOk P w K mg base CX0 14 fa fd ["_law_script"] (spP K arLaw) := by
  have e := hfa.symm.trans (PySem.W.mg_of X G a_law)
  cases e
  have k_Formula : Cls K CFormula := ⟨pg_Formula, hd_Formula, po_Formula, sa_Formula⟩
  have k_Reader : Cls K CReader := ⟨pg_Reader, hd_Reader, po_Reader, sa_Reader⟩
  have F_law_pool := fun_mk (st := s_law_pool) l_law_pool c_law_pool kp_law_pool
  have b_law_pool := F_law_pool.binds (ps := ["_law_script", "_law_k", "_law_many"]) fun _ _ _ _ _ _ us hl => match us, hl with | [_, _, _], _ => rfl
  have F_meets := fun_mk (st := s_meets) l_meets c_meets kp_meets
  have b_meets := F_meets.binds (ps := ["sign", "one", "two"]) fun _ _ _ _ _ _ us hl => match us, hl with | [_, _, _], _ => rfl
  have F_compared := fun_mk (st := s_compared) l_compared c_compared kp_compared
  have b_compared := F_compared.binds (ps := ["word", "constant", "one", "two"]) fun _ _ _ _ _ _ us hl => match us, hl with | [_, _, _, _], _ => rfl
  have F_changed := fun_mk (st := s_changed) l_changed c_changed kp_changed
  have b_changed := F_changed.binds (ps := ["word", "pair"]) fun _ _ _ _ _ _ us hl => match us, hl with | [_, _], _ => rfl
  have F_joined := fun_mk (st := s_joined) l_joined c_joined kp_joined
  have b_joined := F_joined.binds (ps := ["word", "first", "second"]) fun _ _ _ _ _ _ us hl => match us, hl with | [_, _, _], _ => rfl
  have F_constant_of := fun_mk (st := s_constant_of) l_constant_of c_constant_of kp_constant_of
  have b_constant_of := F_constant_of.binds (ps := ["text"]) fun _ _ _ _ _ _ us hl => match us, hl with | [_], _ => rfl
  have F_decoded := fun_mk (st := s_decoded) l_decoded c_decoded kp_decoded
  have b_decoded := F_decoded.binds (ps := ["word"]) fun _ _ _ _ _ _ us hl => match us, hl with | [_], _ => rfl
  have F_Formula___init__ := fun_mk (st := s_Formula___init__) l_Formula___init__ c_Formula___init__ kp_Formula___init__
  have b_Formula___init__ := F_Formula___init__.binds (ps := ["self", "words"]) fun _ _ _ _ _ _ us hl => match us, hl with | [_, _], _ => rfl
  have F_Formula_holds := fun_mk (st := s_Formula_holds) l_Formula_holds c_Formula_holds kp_Formula_holds
  have b_Formula_holds := F_Formula_holds.binds (ps := ["self", "row", "other"]) fun _ _ _ _ _ _ us hl => match us, hl with | [_, _, _], _ => rfl
  have F_Formula_read := fun_mk (st := s_Formula_read) l_Formula_read c_Formula_read kp_Formula_read
  have b_Formula_read := F_Formula_read.binds (ps := ["cls", "text"]) fun _ _ _ _ _ _ us hl => match us, hl with | [_, _], _ => rfl
  have F_Reader_room_setter_new := fun_mk (st := s_Reader_room_setter_new) l_Reader_room_setter_new c_Reader_room_setter_new kp_Reader_room_setter_new
  have b_Reader_room_setter_new := F_Reader_room_setter_new.binds (ps := ["self", "value"]) fun _ _ _ _ _ _ us hl => match us, hl with | [_, _], _ => rfl
  have F_Reader___init__ := fun_mk (st := s_Reader___init__) l_Reader___init__ c_Reader___init__ kp_Reader___init__
  have F_Reader_room_setter := fun_mk (st := s_Reader_room_setter) l_Reader_room_setter c_Reader_room_setter kp_Reader_room_setter
  have b_Reader_room_setter := F_Reader_room_setter.binds (ps := ["self", "value"]) fun _ _ _ _ _ _ us hl => match us, hl with | [_, _], _ => rfl
  have F_Reader_resize := fun_mk (st := s_Reader_resize) l_Reader_resize c_Reader_resize kp_Reader_resize
  have b_Reader_resize := F_Reader_resize.binds (ps := ["self", "room"]) fun _ _ _ _ _ _ us hl => match us, hl with | [_, _], _ => rfl
  have F_Reader_room := fun_mk (st := s_Reader_room) l_Reader_room c_Reader_room kp_Reader_room
  have b_Reader_room := F_Reader_room.binds (ps := ["self"]) fun _ _ _ _ _ _ us hl => match us, hl with | [_], _ => rfl
  have F_Reader_one_pass := fun_mk (st := s_Reader_one_pass) l_Reader_one_pass c_Reader_one_pass kp_Reader_one_pass
  have b_Reader_one_pass := F_Reader_one_pass.binds (ps := ["self", "rows"]) fun _ _ _ _ _ _ us hl => match us, hl with | [_, _], _ => rfl
  have F_Reader_scan := fun_mk (st := s_Reader_scan) l_Reader_scan c_Reader_scan kp_Reader_scan
  have b_Reader_scan := F_Reader_scan.binds (ps := ["self", "rows"]) fun _ _ _ _ _ _ us hl => match us, hl with | [_, _], _ => rfl
  have F_Reader_scan_N := fun_mk (st := s_Reader_scan_N) l_Reader_scan_N c_Reader_scan_N kp_Reader_scan_N
  have b_Reader_scan_N := F_Reader_scan_N.binds (ps := ["self", "rows"]) fun _ _ _ _ _ _ us hl => match us, hl with | [_, _], _ => rfl
  have F_law_text := fun_mk (st := s_law_text) l_law_text c_law_text kp_law_text
  have b_law_text := F_law_text.binds (ps := ["_law_tree_here"]) fun _ _ _ _ _ _ us hl => match us, hl with | [_], _ => rfl
  have F_law_atom := fun_mk (st := s_law_atom) l_law_atom c_law_atom kp_law_atom
  have b_law_atom := F_law_atom.binds (ps := ["_law_word", "_law_row", "_law_other"]) fun _ _ _ _ _ _ us hl => match us, hl with | [_, _, _], _ => rfl
  have F_law_holds := fun_mk (st := s_law_holds) l_law_holds c_law_holds kp_law_holds
  have b_law_holds := F_law_holds.binds (ps := ["_law_tree_here", "_law_row", "_law_other"]) fun _ _ _ _ _ _ us hl => match us, hl with | [_, _, _], _ => rfl
  have F_law_frame := fun_mk (st := s_law_frame) l_law_frame c_law_frame kp_law_frame
  have b_law_frame := F_law_frame.binds (ps := ["_law_pool_here", "_law_shapes"]) fun _ _ _ _ _ _ us hl => match us, hl with | [_, _], _ => rfl
  have F_law_ranking := fun_mk (st := s_law_ranking) l_law_ranking c_law_ranking kp_law_ranking
  have b_law_ranking := F_law_ranking.binds (ps := ["_law_one", "_law_two", "_law_letters", "_law_marks"]) fun _ _ _ _ _ _ us hl => match us, hl with | [_, _, _, _], _ => rfl
  have F_law_order := fun_mk (st := s_law_order) l_law_order c_law_order kp_law_order
  have b_law_order := F_law_order.binds (ps := ["_law_pool_here", "_law_at", "_law_letters", "_law_marks"]) fun _ _ _ _ _ _ us hl => match us, hl with | [_, _, _, _], _ => rfl
  have F_law_leaf := fun_mk (st := s_law_leaf) l_law_leaf c_law_leaf kp_law_leaf
  have b_law_leaf := F_law_leaf.binds (ps := ["_law_one", "_law_two", "_law_letters", "_law_marks"]) fun _ _ _ _ _ _ us hl => match us, hl with | [_, _, _, _], _ => rfl
  have F_law_under := fun_mk (st := s_law_under) l_law_under c_law_under kp_law_under
  have b_law_under := F_law_under.binds (ps := ["_law_tree_here", "_law_one"]) fun _ _ _ _ _ _ us hl => match us, hl with | [_, _], _ => rfl
  have F_law_tree := fun_mk (st := s_law_tree) l_law_tree c_law_tree kp_law_tree
  have b_law_tree := F_law_tree.binds (ps := ["_law_pool_here", "_law_at", "_law_letters", "_law_marks"]) fun _ _ _ _ _ _ us hl => match us, hl with | [_, _, _, _], _ => rfl
  have F_law_any := fun_mk (st := s_law_any) l_law_any c_law_any kp_law_any
  have b_law_any := F_law_any.binds (ps := ["_law_pool_here", "_law_at", "_law_letters", "_law_marks"]) fun _ _ _ _ _ _ us hl => match us, hl with | [_, _, _, _], _ => rfl
  have F_law_value := fun_mk (st := s_law_value) l_law_value c_law_value kp_law_value
  have b_law_value := F_law_value.binds (ps := ["_law_draw", "_law_base"]) fun _ _ _ _ _ _ us hl => match us, hl with | [_, _], _ => rfl
  have F_law_rows := fun_mk (st := s_law_rows) l_law_rows c_law_rows kp_law_rows
  have b_law_rows := F_law_rows.binds (ps := ["_law_script", "_law_start", "_law_many", "_law_base"]) fun _ _ _ _ _ _ us hl => match us, hl with | [_, _, _, _], _ => rfl
  have F_law_is_row := fun_mk (st := s_law_is_row) l_law_is_row c_law_is_row kp_law_is_row
  have b_law_is_row := F_law_is_row.binds (ps := ["_law_row"]) fun _ _ _ _ _ _ us hl => match us, hl with | [_], _ => rfl
  have F_law_is_rows := fun_mk (st := s_law_is_rows) l_law_is_rows c_law_is_rows kp_law_is_rows
  have b_law_is_rows := F_law_is_rows.binds (ps := ["_law_answer", "_law_rows_here"]) fun _ _ _ _ _ _ us hl => match us, hl with | [_, _], _ => rfl
  have F_law_pass := fun_mk (st := s_law_pass) l_law_pass c_law_pass kp_law_pass
  have b_law_pass := F_law_pass.binds (ps := ["_law_tree_here", "_law_rows_here", "_law_room_here"]) fun _ _ _ _ _ _ us hl => match us, hl with | [_, _, _], _ => rfl
  have F_law_scanned := fun_mk (st := s_law_scanned) l_law_scanned c_law_scanned kp_law_scanned
  have b_law_scanned := F_law_scanned.binds (ps := ["_law_tree_here", "_law_rows_here", "_law_room_here"]) fun _ _ _ _ _ _ us hl => match us, hl with | [_, _, _], _ => rfl
  have F_law_fine := fun_mk (st := s_law_fine) l_law_fine c_law_fine kp_law_fine
  have b_law_fine := F_law_fine.binds (ps := ["_law_reader", "_law_tree_here", "_law_rows_here", "_law_room_here"]) fun _ _ _ _ _ _ us hl => match us, hl with | [_, _, _, _], _ => rfl
  have F_law_room := fun_mk (st := s_law_room) l_law_room c_law_room kp_law_room
  have b_law_room := F_law_room.binds (ps := ["_law_one", "_law_two"]) fun _ _ _ _ _ _ us hl => match us, hl with | [_, _], _ => rfl
  have F_law_steep := fun_mk (st := s_law_steep) l_law_steep c_law_steep kp_law_steep
  have b_law_steep := F_law_steep.binds (ps := ["_law_many", "_law_spare"]) fun _ _ _ _ _ _ us hl => match us, hl with | [_, _], _ => rfl
  have F_law_apart := fun_mk (st := s_law_apart) l_law_apart c_law_apart kp_law_apart
  have b_law_apart := F_law_apart.binds (ps := ["_law_reader", "_law_tree_here", "_law_rows_here", "_law_others", "_law_room_here"]) fun _ _ _ _ _ _ us hl => match us, hl with | [_, _, _, _, _], _ => rfl
  have F_law := fun_mk (st := s_law) l_law c_law kp_law
  refine ⟨PySem.W.fnOf "law" "law" (defArgs s_law) (defBody s_law) (defScope s_law) .none kV_law dc_law pm_law an_law cd_law ct_law, fun s v => .of_eq rfl, fun base hb1 hb2 => ?_⟩
  have G_law_pool : Fok P w K mg base CX0 1 f_law_pool (spN K (ar_law_pool decl_name%)) := ⟨⟨_, _, ok_law_pool (ad := decl_name%) F_law_pool (PySem.W.mg_none_of X G z_len) (PySem.W.mg_none_of X G z_range) (PySem.W.mg_none_of X G z_int), b_law_pool⟩, kp_law_pool⟩
  have G_meets : Fok P w K mg base CX0 1 f_meets (spP K (ar_meets decl_name%)) := ⟨⟨_, _, ok_meets (ad := decl_name%) F_meets , b_meets⟩, kp_meets⟩
  have G_compared : Fok P w K mg base CX0 2 f_compared (spP K (ar_compared decl_name%)) := ⟨⟨_, _, ok_compared (ad := decl_name%) F_compared ⟨_, G_meets, PySem.W.mg_of X G a_meets⟩, b_compared⟩, kp_compared⟩
  have G_changed : Fok P w K mg base CX0 1 f_changed (spP K (ar_changed decl_name%)) := ⟨⟨_, _, ok_changed (ad := decl_name%) F_changed , b_changed⟩, kp_changed⟩
  have G_joined : Fok P w K mg base CX0 1 f_joined (spP K (ar_joined decl_name%)) := ⟨⟨_, _, ok_joined (ad := decl_name%) F_joined , b_joined⟩, kp_joined⟩
  have G_constant_of : Fok P w K mg base CX0 1 f_constant_of (spP K (ar_constant_of decl_name%)) := ⟨⟨_, _, ok_constant_of (ad := decl_name%) F_constant_of (PySem.W.mg_none_of X G z_len) (PySem.W.mg_none_of X G z_int), b_constant_of⟩, kp_constant_of⟩
  have G_decoded : Fok P w K mg base CX0 2 f_decoded (spP K (ar_decoded decl_name%)) := ⟨⟨_, _, ok_decoded (ad := decl_name%) F_decoded (PySem.W.mg_of X G ga_OPERANDS) (kdi_ofT ld_OPERANDS li_OPERANDS lw_OPERANDS lv_OPERANDS (fun _ => rfl)) (PySem.W.mg_none_of X G z_len) ⟨_, PySem.W.mg_of X G ga_COLUMNS⟩ ⟨_, G_constant_of, PySem.W.mg_of X G a_constant_of⟩, b_decoded⟩, kp_decoded⟩
  have G_Formula___init__ : Fok P w K mg base CX0 3 f_Formula___init__ (spI K (decl_name%).CFormula (ar_Formula___init__ decl_name%)) := ⟨⟨_, _, ok_Formula___init__ (ad := decl_name%) F_Formula___init__ (PySem.W.mg_none_of X G z_len) ⟨ra_Formula, rb_Formula⟩ ⟨cv_Formula_MOST, ⟨_, rfl⟩⟩ (PySem.W.mg_of X G aC_Formula) (PySem.W.mg_none_of X G z_enumerate) ⟨_, G_decoded, PySem.W.mg_of X G a_decoded⟩ (PySem.W.mg_of X G ga_OPERANDS) (kdi_ofT ld_OPERANDS li_OPERANDS lw_OPERANDS lv_OPERANDS (fun _ => rfl)) (PySem.W.mg_none_of X G z_tuple) k_Formula na_Formula_code na_Formula_words, b_Formula___init__⟩, kp_Formula___init__⟩
  have G_Formula_holds : Fok P w K mg base CX0 3 f_Formula_holds (spP K (ar_Formula_holds decl_name%)) := ⟨⟨_, _, ok_Formula_holds (ad := decl_name%) F_Formula_holds k_Formula na_Formula_code ⟨_, G_compared, PySem.W.mg_of X G a_compared⟩ (PySem.W.mg_of X G ga_OPERANDS) (kdi_ofT ld_OPERANDS li_OPERANDS lw_OPERANDS lv_OPERANDS (fun _ => rfl)) ⟨_, G_changed, PySem.W.mg_of X G a_changed⟩ ⟨_, G_joined, PySem.W.mg_of X G a_joined⟩, b_Formula_holds⟩, kp_Formula_holds⟩
  have G_Formula_read : Fok P w K mg base CX0 5 f_Formula_read (spP K (ar_Formula_read decl_name%)) := ⟨⟨_, _, ok_Formula_read (ad := decl_name%) F_Formula_read ⟨mm_Formula, a_Formula___init__, i_Formula___init__, mc_Formula⟩ G_Formula___init__, b_Formula_read⟩, kp_Formula_read⟩
  have G_Reader_room_setter_new : Fok P w K mg base CX0 1 f_Reader_room_setter_new (spE K (ar_Reader_room_setter_new decl_name%)) := ⟨⟨_, _, ok_Reader_room_setter_new (ad := decl_name%) F_Reader_room_setter_new ⟨ra_Reader, rb_Reader⟩ ⟨cv_Reader_MOST, ⟨_, rfl⟩⟩ (PySem.W.mg_of X G aC_Reader) k_Reader na_Reader_space, b_Reader_room_setter_new⟩, kp_Reader_room_setter_new⟩
  have KW_Reader___init__ : KwInit P w K mg base 4 f_Reader___init__ 1 ["room"] (spI K (decl_name%).CReader (ar_Reader___init__ decl_name%)) := ⟨_, _, ok_Reader___init__ (ad := decl_name%) F_Reader___init__ G_Reader_room_setter_new ⟨psa_Reader_room, psb_Reader_room, ⟨_, _, psc_Reader_room⟩⟩ k_Reader na_Reader_passes na_Reader_formula, ⟨fun s us ws X l1 l2 => match us, l1, ws, l2 with | [_, _], _, [_], _ => .of_eq rfl, fun r1 r2 => r1.append r2⟩⟩
  have KD_Reader___init__ : KwDef P w K mg base 4 f_Reader___init__ [.int 2] (spI K (decl_name%).CReader (ar_Reader___init__ decl_name%)) := kwdef_mk (n := 2) l_Reader___init__ c_Reader___init__ kp_Reader___init__ kq_Reader___init__ ⟨_, rfl⟩ (ok_Reader___init__ (ad := decl_name%) F_Reader___init__ G_Reader_room_setter_new ⟨psa_Reader_room, psb_Reader_room, ⟨_, _, psc_Reader_room⟩⟩ k_Reader na_Reader_passes na_Reader_formula) rfl (fun _ _ _ _ _ _ us ks h1 h2 => match us, ks, h1, h2 with | [_, _], [_], _, _ => ⟨_, _, _, _, _, _, rfl, rfl, rfl⟩)
  have G_Reader_room_setter : Fok P w K mg base CX0 1 f_Reader_room_setter (spE K (ar_Reader_room_setter decl_name%)) := ⟨⟨_, _, ok_Reader_room_setter (ad := decl_name%) F_Reader_room_setter ⟨ra_Reader, rb_Reader⟩ ⟨cv_Reader_MOST, ⟨_, rfl⟩⟩ (PySem.W.mg_of X G aC_Reader) k_Reader na_Reader_space, b_Reader_room_setter⟩, kp_Reader_room_setter⟩
  have G_Reader_resize : Fok P w K mg base CX0 4 f_Reader_resize (spE K (ar_Reader_resize decl_name%)) := ⟨⟨_, _, ok_Reader_resize (ad := decl_name%) F_Reader_resize G_Reader_room_setter ⟨psa_Reader_room_w, psb_Reader_room_w, ⟨_, _, psc_Reader_room_w⟩⟩ k_Reader, b_Reader_resize⟩, kp_Reader_resize⟩
  have G_Reader_room : Fok P w K mg base CX0 1 f_Reader_room (spP K (ar_Reader_room decl_name%)) := ⟨⟨_, _, ok_Reader_room (ad := decl_name%) F_Reader_room k_Reader na_Reader_space, b_Reader_room⟩, kp_Reader_room⟩
  have G_Reader_one_pass : Fok P w K mg base CX0 5 f_Reader_one_pass (spP K (ar_Reader_one_pass decl_name%)) := ⟨⟨_, _, ok_Reader_one_pass (ad := decl_name%) F_Reader_one_pass k_Reader na_Reader_formula G_Formula_holds ⟨ma_Formula_Formula_holds, i_Formula_holds, kp_Formula_holds⟩ k_Formula (PySem.W.mg_none_of X G z_any) (PySem.W.mg_none_of X G z_len) na_Reader_space, b_Reader_one_pass⟩, kp_Reader_one_pass⟩
  have G_Reader_scan : Fok P w K mg base CX0 7 f_Reader_scan (spE K (ar_Reader_scan decl_name%)) := ⟨⟨_, _, ok_Reader_scan (ad := decl_name%) F_Reader_scan (PySem.W.mg_none_of X G z_list) G_Reader_one_pass ⟨ma_Reader_Reader_one_pass, i_Reader_one_pass, kp_Reader_one_pass⟩ k_Reader na_Reader_passes, b_Reader_scan⟩, kp_Reader_scan⟩
  have G_Reader_scan_N : Fok P w K mg base CX0 7 f_Reader_scan_N (spEN K (ar_Reader_scan_N decl_name%)) := ⟨⟨_, _, ok_Reader_scan_N (ad := decl_name%) F_Reader_scan_N (PySem.W.mg_none_of X G z_list) G_Reader_one_pass ⟨ma_Reader_Reader_one_pass, i_Reader_one_pass, kp_Reader_one_pass⟩ k_Reader na_Reader_passes, b_Reader_scan_N⟩, kp_Reader_scan_N⟩
  have G_law_text : Fok P w K mg base CX0 9 f_law_text (spP K (ar_law_text 9 decl_name%)) := by
    have all : ∀ n, Fok P w K mg base CX0 (0 + n) f_law_text (spP K (ar_law_text n decl_name%)) := by
      intro n
      induction n with
      | zero => exact ⟨⟨_, _, fn_never (by rintro L ds d ⟨_, _, h⟩; exact h.1), b_law_text⟩, kp_law_text⟩
      | succ n ih => exact ⟨⟨_, _, ok_law_text (ad := decl_name%) (n := n) F_law_text (PySem.W.mg_none_of X G z_isinstance) (PySem.W.mg_none_of X G z_str) ⟨_, ih, PySem.W.mg_of X G a_law_text⟩, b_law_text⟩, kp_law_text⟩
    exact all 9
  have G_law_atom : Fok P w K mg base CX0 1 f_law_atom (spP K (ar_law_atom decl_name%)) := ⟨⟨_, _, ok_law_atom (ad := decl_name%) F_law_atom (PySem.W.mg_none_of X G z_int), b_law_atom⟩, kp_law_atom⟩
  have G_law_holds : Fok P w K mg base CX0 10 f_law_holds (spP K (ar_law_holds 9 decl_name%)) := by
    have all : ∀ n, Fok P w K mg base CX0 (1 + n) f_law_holds (spP K (ar_law_holds n decl_name%)) := by
      intro n
      induction n with
      | zero => exact ⟨⟨_, _, fn_never (by rintro L ds d ⟨_, _, _, _, h⟩; exact h.1), b_law_holds⟩, kp_law_holds⟩
      | succ n ih => exact ⟨⟨_, _, ok_law_holds (ad := decl_name%) (n := n) F_law_holds (PySem.W.mg_none_of X G z_isinstance) (PySem.W.mg_none_of X G z_str) ⟨_, G_law_atom, PySem.W.mg_of X G a_law_atom⟩ ⟨_, ih, PySem.W.mg_of X G a_law_holds⟩, b_law_holds⟩, kp_law_holds⟩
    exact all 9
  have G_law_frame : Fok P w K mg base CX0 1 f_law_frame (spP K (ar_law_frame decl_name%)) := ⟨⟨_, _, ok_law_frame (ad := decl_name%) F_law_frame (PySem.W.mg_none_of X G z_int) (PySem.W.mg_none_of X G z_range), b_law_frame⟩, kp_law_frame⟩
  have G_law_ranking : Fok P w K mg base CX0 1 f_law_ranking (spP K (ar_law_ranking decl_name%)) := ⟨⟨_, _, ok_law_ranking (ad := decl_name%) F_law_ranking (PySem.W.mg_none_of X G z_len) (PySem.W.mg_none_of X G z_int) (PySem.W.mg_none_of X G z_str), b_law_ranking⟩, kp_law_ranking⟩
  have G_law_order : Fok P w K mg base CX0 2 f_law_order (spP K (ar_law_order decl_name%)) := ⟨⟨_, _, ok_law_order (ad := decl_name%) F_law_order ⟨_, G_law_ranking, PySem.W.mg_of X G a_law_ranking⟩ (PySem.W.mg_none_of X G z_int), b_law_order⟩, kp_law_order⟩
  have G_law_leaf : Fok P w K mg base CX0 1 f_law_leaf (spP K (ar_law_leaf decl_name%)) := ⟨⟨_, _, ok_law_leaf (ad := decl_name%) F_law_leaf (PySem.W.mg_none_of X G z_len) (PySem.W.mg_none_of X G z_int) (PySem.W.mg_none_of X G z_str), b_law_leaf⟩, kp_law_leaf⟩
  have G_law_under : Fok P w K mg base CX0 1 f_law_under (spP K (ar_law_under decl_name%)) := ⟨⟨_, _, ok_law_under (ad := decl_name%) F_law_under (PySem.W.mg_none_of X G z_int), b_law_under⟩, kp_law_under⟩
  have G_law_tree : Fok P w K mg base CX0 2 f_law_tree (spP K (ar_law_tree decl_name%)) := ⟨⟨_, _, ok_law_tree (ad := decl_name%) F_law_tree ⟨_, G_law_leaf, PySem.W.mg_of X G a_law_leaf⟩ ⟨_, G_law_under, PySem.W.mg_of X G a_law_under⟩ (PySem.W.mg_none_of X G z_int), b_law_tree⟩, kp_law_tree⟩
  have G_law_any : Fok P w K mg base CX0 3 f_law_any (spP K (ar_law_any decl_name%)) := ⟨⟨_, _, ok_law_any (ad := decl_name%) F_law_any (PySem.W.mg_none_of X G z_int) ⟨_, G_law_order, PySem.W.mg_of X G a_law_order⟩ ⟨_, G_law_tree, PySem.W.mg_of X G a_law_tree⟩, b_law_any⟩, kp_law_any⟩
  have G_law_value : Fok P w K mg base CX0 1 f_law_value (spP K (ar_law_value decl_name%)) := ⟨⟨_, _, ok_law_value (ad := decl_name%) F_law_value (PySem.W.mg_none_of X G z_int), b_law_value⟩, kp_law_value⟩
  have G_law_rows : Fok P w K mg base CX0 2 f_law_rows (spN K (ar_law_rows decl_name%)) := ⟨⟨_, _, ok_law_rows (ad := decl_name%) F_law_rows (PySem.W.mg_none_of X G z_range) ⟨_, G_law_pool, PySem.W.mg_of X G a_law_pool⟩ (PySem.W.mg_none_of X G z_int) ⟨_, G_law_value, PySem.W.mg_of X G a_law_value⟩, b_law_rows⟩, kp_law_rows⟩
  have G_law_is_row : Fok P w K mg base CX0 1 f_law_is_row (spP K (ar_law_is_row decl_name%)) := ⟨⟨_, _, ok_law_is_row (ad := decl_name%) F_law_is_row (PySem.W.mg_none_of X G z_isinstance) (PySem.W.mg_none_of X G z_tuple) (PySem.W.mg_none_of X G z_len) (PySem.W.mg_none_of X G z_int) (PySem.W.mg_none_of X G z_bool), b_law_is_row⟩, kp_law_is_row⟩
  have G_law_is_rows : Fok P w K mg base CX0 2 f_law_is_rows (spP K (ar_law_is_rows decl_name%)) := ⟨⟨_, _, ok_law_is_rows (ad := decl_name%) F_law_is_rows (PySem.W.mg_none_of X G z_isinstance) (PySem.W.mg_none_of X G z_list) (PySem.W.mg_none_of X G z_len) (PySem.W.mg_none_of X G z_range) ⟨_, G_law_is_row, PySem.W.mg_of X G a_law_is_row⟩, b_law_is_rows⟩, kp_law_is_rows⟩
  have G_law_pass : Fok P w K mg base CX0 11 f_law_pass (spP K (ar_law_pass decl_name%)) := ⟨⟨_, _, ok_law_pass (ad := decl_name%) F_law_pass ⟨_, G_law_holds, PySem.W.mg_of X G a_law_holds⟩ (PySem.W.mg_none_of X G z_len) (PySem.W.mg_none_of X G z_range), b_law_pass⟩, kp_law_pass⟩
  have G_law_scanned : Fok P w K mg base CX0 12 f_law_scanned (spP K (ar_law_scanned decl_name%)) := ⟨⟨_, _, ok_law_scanned (ad := decl_name%) F_law_scanned (PySem.W.mg_none_of X G z_list) (PySem.W.mg_none_of X G z_len) (PySem.W.mg_none_of X G z_range) ⟨_, G_law_pass, PySem.W.mg_of X G a_law_pass⟩, b_law_scanned⟩, kp_law_scanned⟩
  have G_law_fine : Fok P w K mg base CX0 13 f_law_fine (spE K (ar_law_fine decl_name%)) := ⟨⟨_, _, ok_law_fine (ad := decl_name%) F_law_fine ⟨_, G_law_scanned, PySem.W.mg_of X G a_law_scanned⟩ (PySem.W.mg_none_of X G z_list) G_Reader_scan_N ⟨ma_Reader_Reader_scan_N, i_Reader_scan_N, kp_Reader_scan_N⟩ k_Reader ⟨_, G_law_is_rows, PySem.W.mg_of X G a_law_is_rows⟩ na_Reader_passes (PySem.W.mg_none_of X G z_isinstance) (PySem.W.mg_none_of X G z_int) (PySem.W.mg_none_of X G z_bool), b_law_fine⟩, kp_law_fine⟩
  have G_law_room : Fok P w K mg base CX0 1 f_law_room (spP K (ar_law_room decl_name%)) := ⟨⟨_, _, ok_law_room (ad := decl_name%) F_law_room (PySem.W.mg_none_of X G z_int), b_law_room⟩, kp_law_room⟩
  have G_law_steep : Fok P w K mg base CX0 9 f_law_steep (spP K (ar_law_steep decl_name%)) := ⟨⟨_, _, ok_law_steep (ad := decl_name%) F_law_steep (PySem.W.mg_none_of X G z_range) (PySem.W.mg_of X G aC_Formula) G_Formula_read ⟨qa_Formula_read, ⟨_, qb_Formula_read⟩, qc_Formula_read⟩ ⟨ra_Formula, rb_Formula⟩ ⟨mm_Reader, a_Reader___init__, i_Reader___init__, mc_Reader⟩ KW_Reader___init__ (PySem.W.mg_of X G aC_Reader) (PySem.W.mg_none_of X G z_list) G_Reader_scan ⟨ma_Reader_Reader_scan, i_Reader_scan, kp_Reader_scan⟩ k_Reader ⟨_, G_law_is_rows, PySem.W.mg_of X G a_law_is_rows⟩ na_Reader_passes (PySem.W.mg_none_of X G z_int), b_law_steep⟩, kp_law_steep⟩
  have G_law_apart : Fok P w K mg base CX0 13 f_law_apart (spE K (ar_law_apart decl_name%)) := ⟨⟨_, _, ok_law_apart (ad := decl_name%) F_law_apart (PySem.W.mg_none_of X G z_list) G_Reader_scan ⟨ma_Reader_Reader_scan, i_Reader_scan, kp_Reader_scan⟩ k_Reader ⟨_, G_law_scanned, PySem.W.mg_of X G a_law_scanned⟩ ⟨_, G_law_is_rows, PySem.W.mg_of X G a_law_is_rows⟩, b_law_apart⟩, kp_law_apart⟩
  exact fn_law (ok_law (ad := decl_name%) F_law ⟨_, G_law_pool, PySem.W.mg_of X G a_law_pool⟩ ⟨_, G_law_frame, PySem.W.mg_of X G a_law_frame⟩ ⟨_, G_law_any, PySem.W.mg_of X G a_law_any⟩ (PySem.W.mg_none_of X G z_int) ⟨_, G_law_rows, PySem.W.mg_of X G a_law_rows⟩ ⟨_, G_law_room, PySem.W.mg_of X G a_law_room⟩ (PySem.W.mg_of X G aC_Formula) ⟨_, G_law_text, PySem.W.mg_of X G a_law_text⟩ G_Formula_read ⟨qa_Formula_read, ⟨_, qb_Formula_read⟩, qc_Formula_read⟩ ⟨ra_Formula, rb_Formula⟩ ⟨mm_Reader, a_Reader___init__, i_Reader___init__, mc_Reader⟩ KW_Reader___init__ (PySem.W.mg_of X G aC_Reader) KD_Reader___init__ k_Reader na_Reader_passes G_Reader_room ⟨pa_Reader_room, pb_Reader_room, pc_Reader_room, ⟨_, pd_Reader_room⟩⟩ ⟨_, G_law_fine, PySem.W.mg_of X G a_law_fine⟩ ⟨_, G_law_scanned, PySem.W.mg_of X G a_law_scanned⟩ G_Reader_resize ⟨ma_Reader_Reader_resize, i_Reader_resize, kp_Reader_resize⟩ ⟨_, G_law_apart, PySem.W.mg_of X G a_law_apart⟩ ⟨_, G_law_steep, PySem.W.mg_of X G a_law_steep⟩) law_ok
theorem walk {l : PySem.W.OpenLaw} {q : Program} {loose : List Str} {XP : (Str → Option Value) → Heap → Prop} {YP : World → Heap → Prop} {d : DefRec} {K : Params → PySem.W.Frag} (hn : l.most = some 63) (hdf : d.params.defaults = [])
    (hY : ∀ (w : World) (h : Heap), YP w h → (K w.params).In h)
    (F : ∀ (w : World) (mg : Str → Option Value) (fa : Addr) (h : Heap), (K w.params).In h → h.Ns mainGlobals mg → mg d.name = some (.ref fa) →
      ∃ fd : FuncData, (∀ (s : Shared) (u : Value), BindsTo s fd ⟨[u], []⟩ [("_law_script", u)]) ∧ ∀ base : Heap, (K w.params).In base → base.Ns mainGlobals mg → FnOk l.prog w (K w.params) mg base CX0 14 fa fd ["_law_script"] (spP (K w.params) arLaw)) :
    PySem.W.WalkO q loose XP YP l.row.toRowW d [] (fun f vs => PySem.call f vs) :=
  L2.walk_of (n := 63) (k := 14) (x := "_law_script") (CX := fun _ => CX0) (sp := fun w => spP (K w.params) arLaw) hn (by decide) hdf ⟨rfl, by decide, by decide⟩ hY F (fun _ _ a ns hl _ hS => law_sp ⟨ns, rfl, hl, rfl⟩ hS fun _ => rfl) fun _ _ _ _ _ z => z
end DL
namespace DL
open PySem PySem.W PySem.Calls PyProof.Rows HeadRun
theorem left_rows {p q : Program} {loose : List PySem.Str} {Xt : Shared → Bool} {K : Params → Frag} {as : List Addr} {ek : ∀ P, as = (K P).map (·.1)} {N : Nat} (M : Nat) (row : String)
    (e : opening p = plainProg p.main.scope.names) (hN : Nat.ble 600 N = true) (f : ∀ s, fenceModules? p s = some s) (le : Nat.ble M N = true)
    (run : ∀ (b : Bool) (w : World) (os : OsState), (endF (stepQ (denQ tabQ) p (w.withFollow row b)) M p (w.withFollow row b) os).map (fun s => (looksF p (boot_heap (w.withFollow row b).params) s.abs, seenQ q loose (importedModules p.main.body) Xt s.abs, as.map (getT s))) = some (true, openGood q loose, (K (w.withFollow row b).params).map fun x => some x.2)) :
    LeftO p q loose Xt (Hook.obs (kHook K as ek)) (Hook.val (kHook K as ek)) N true :=
  left_oneK (M := M) e hN f le fun w os => by
    have z := run (w.params.followText row) w os
    rw [World.withFollow_self] at z
    exact z
def vq : Program := { PySem.Challenge.pw_unbettered_k33_passes_of_a_reader with main := { PySem.Challenge.pw_unbettered_k33_passes_of_a_reader.main with body := [PySem.Challenge.pw_unbettered_k33_passes_of_a_reader.main.body.getD 49 (.Pass ⟨0, 0, 0, 0⟩)] } }
def vl : List PySem.Str := [PySem.Str.ofString "_wall", PySem.Str.ofString "__name__", PySem.Str.ofString "TableError", PySem.Str.ofString "BadFormula", PySem.Str.ofString "TooLong", PySem.Str.ofString "TooHeavy", PySem.Str.ofString "BadRoom", PySem.Str.ofString "Reader", PySem.Str.ofString "COLUMNS", PySem.Str.ofString "HEAVIEST", PySem.Str.ofString "ordered_marks", PySem.Str.ofString "joint_columns", PySem.Str.ofString "joint_marks", PySem.Str.ofString "check_weight", PySem.Str.ofString "values_near", PySem.Str.ofString "candidate_rows", PySem.Str.ofString "OPERANDS", PySem.Str.ofString "Formula", PySem.Str.ofString "decoded", PySem.Str.ofString "constant_of", PySem.Str.ofString "compared", PySem.Str.ofString "meets", PySem.Str.ofString "changed", PySem.Str.ofString "joined", PySem.Str.ofString "_law_pool", PySem.Str.ofString "_law_text", PySem.Str.ofString "_law_atom", PySem.Str.ofString "_law_holds", PySem.Str.ofString "_law_frame", PySem.Str.ofString "_law_ranking", PySem.Str.ofString "_law_order", PySem.Str.ofString "_law_leaf", PySem.Str.ofString "_law_under", PySem.Str.ofString "_law_tree", PySem.Str.ofString "_law_any", PySem.Str.ofString "_law_value", PySem.Str.ofString "_law_rows", PySem.Str.ofString "_law_is_row", PySem.Str.ofString "_law_is_rows", PySem.Str.ofString "_law_pass", PySem.Str.ofString "_law_scanned", PySem.Str.ofString "_law_fine", PySem.Str.ofString "_law_room", PySem.Str.ofString "_law_steep", PySem.Str.ofString "_law_apart"]
end DL
local macro_rules | `(tactic| o_headL $H) => `(tactic| (refine PySem.W.holds_open (q := DL.vq) (loose := DL.vl) (Xt := fun s => PySem.W.xlAt DL.vq [] s && PySem.W.recOk (PySem.W.RowW.records (PySem.W.OpenRow.toRowW (PySem.W.OpenLaw.row PySem.Challenge.rw_unbettered_k33_passes_of_a_reader))) s) (XP := PySem.W.XL DL.vq []) (Yf := PySem.W.Hook.obs $H) (Ya := PySem.W.Hook.val $H) (YP := PySem.W.Hook.says $H) (N := 20700) ?hl (PySem.W.Hook.of $H) (PySem.W.Hook.keeps $H) (fun s e => PySem.W.xl_of s (Bool.and_eq_true_iff.mp e).1) PySem.W.XL.keeps (by rfl) (by rfl) (by rfl) (fun s e => PySem.W.recFacts_of (Bool.and_eq_true_iff.mp e).2) (by rfl) (by assumption) (by decide +kernel) ⟨rfl, rfl, rfl, rfl, rfl, by decide +kernel⟩ ?hw ?hc))

open PySem PySem.W PyProof.Rows in
set_option maxRecDepth 100000 in
set_option maxHeartbeats 0 in
set_option pp.maxSteps 400 in
set_option pp.deepTerms false in
theorem PySem.Challenge.cw_unbettered_k33_passes_of_a_reader_holds : PySem.Challenge.rw_unbettered_k33_passes_of_a_reader.Holds := by
  w_on; o_law; k_headL; (case hw => w_witness2)
  (case hl => exact DL.left_rows 20000 "special-get-raises" (by kernel_rfl) (by rfl) (fun s => by kernel_rfl) (by rfl) (fun b w os => by cases b <;> kernel_rfl))
  k_fill
  refine DL.walk (l := PySem.Challenge.rw_unbettered_k33_passes_of_a_reader) rfl rfl (fun w h Y => PySem.W.kIn_of Y) ?F
  case F =>
    intro w mg fa h KX G hmg
    refine' DL.all_mk KX G hmg ?aC_Formula ?aC_Reader ?psa_Reader_room ?psb_Reader_room ?psc_Reader_room ?psa_Reader_room_w ?psb_Reader_room_w ?psc_Reader_room_w ?ma_Formula_Formula_holds ?ma_Reader_Reader_one_pass ?ma_Reader_Reader_scan_N ?ma_Reader_Reader_scan ?ma_Reader_Reader_resize ?pg_Formula ?hd_Formula ?po_Formula ?sa_Formula ?pg_Reader ?hd_Reader ?po_Reader ?sa_Reader ?a_law_pool ?l_law_pool ?c_law_pool ?kp_law_pool ?z_len ?z_range ?z_int ?a_meets ?l_meets ?c_meets ?kp_meets ?a_compared ?l_compared ?c_compared ?kp_compared ?a_changed ?l_changed ?c_changed ?kp_changed ?a_joined ?l_joined ?c_joined ?kp_joined ?a_constant_of ?l_constant_of ?c_constant_of ?kp_constant_of ?a_decoded ?l_decoded ?c_decoded ?kp_decoded ?ga_OPERANDS ?ld_OPERANDS ?li_OPERANDS ?lw_OPERANDS ?lv_OPERANDS ?ga_COLUMNS ?a_Formula___init__ ?i_Formula___init__ ?l_Formula___init__ ?c_Formula___init__ ?kp_Formula___init__ ?ra_Formula ?rb_Formula ?cv_Formula_MOST ?z_enumerate ?z_tuple ?na_Formula_code ?na_Formula_words ?a_Formula_holds ?i_Formula_holds ?l_Formula_holds ?c_Formula_holds ?kp_Formula_holds ?qa_Formula_read ?qb_Formula_read ?qc_Formula_read ?l_Formula_read ?c_Formula_read ?kp_Formula_read ?mm_Formula ?mc_Formula ?i_Reader_room_setter_new ?l_Reader_room_setter_new ?c_Reader_room_setter_new ?kp_Reader_room_setter_new ?ra_Reader ?rb_Reader ?cv_Reader_MOST ?na_Reader_space ?a_Reader___init__ ?i_Reader___init__ ?l_Reader___init__ ?kq_Reader___init__ ?c_Reader___init__ ?kp_Reader___init__ ?na_Reader_passes ?na_Reader_formula ?i_Reader_room_setter ?l_Reader_room_setter ?c_Reader_room_setter ?kp_Reader_room_setter ?a_Reader_resize ?i_Reader_resize ?l_Reader_resize ?c_Reader_resize ?kp_Reader_resize ?pa_Reader_room ?pb_Reader_room ?pc_Reader_room ?pd_Reader_room ?l_Reader_room ?c_Reader_room ?kp_Reader_room ?a_Reader_one_pass ?i_Reader_one_pass ?l_Reader_one_pass ?c_Reader_one_pass ?kp_Reader_one_pass ?z_any ?a_Reader_scan ?i_Reader_scan ?l_Reader_scan ?c_Reader_scan ?kp_Reader_scan ?z_list ?i_Reader_scan_N ?l_Reader_scan_N ?c_Reader_scan_N ?kp_Reader_scan_N ?a_law_text ?l_law_text ?c_law_text ?kp_law_text ?z_isinstance ?z_str ?a_law_atom ?l_law_atom ?c_law_atom ?kp_law_atom ?a_law_holds ?l_law_holds ?c_law_holds ?kp_law_holds ?a_law_frame ?l_law_frame ?c_law_frame ?kp_law_frame ?a_law_ranking ?l_law_ranking ?c_law_ranking ?kp_law_ranking ?a_law_order ?l_law_order ?c_law_order ?kp_law_order ?a_law_leaf ?l_law_leaf ?c_law_leaf ?kp_law_leaf ?a_law_under ?l_law_under ?c_law_under ?kp_law_under ?a_law_tree ?l_law_tree ?c_law_tree ?kp_law_tree ?a_law_any ?l_law_any ?c_law_any ?kp_law_any ?a_law_value ?l_law_value ?c_law_value ?kp_law_value ?a_law_rows ?l_law_rows ?c_law_rows ?kp_law_rows ?a_law_is_row ?l_law_is_row ?c_law_is_row ?kp_law_is_row ?z_bool ?a_law_is_rows ?l_law_is_rows ?c_law_is_rows ?kp_law_is_rows ?a_law_pass ?l_law_pass ?c_law_pass ?kp_law_pass ?a_law_scanned ?l_law_scanned ?c_law_scanned ?kp_law_scanned ?a_law_fine ?l_law_fine ?c_law_fine ?kp_law_fine ?a_law_room ?l_law_room ?c_law_room ?kp_law_room ?a_law_steep ?l_law_steep ?c_law_steep ?kp_law_steep ?mm_Reader ?mc_Reader ?a_law_apart ?l_law_apart ?c_law_apart ?kp_law_apart ?a_law ?l_law ?c_law ?kp_law
    (case aC_Formula => k_is)
    (case aC_Reader => k_is)
    (case psa_Reader_room => k_is)
    (case psb_Reader_room => k_is)
    (case psc_Reader_room => k_is)
    (case psa_Reader_room_w => k_is)
    (case psb_Reader_room_w => k_is)
    (case psc_Reader_room_w => k_is)
    (case ma_Formula_Formula_holds => k_is)
    (case ma_Reader_Reader_one_pass => k_is)
    (case ma_Reader_Reader_scan_N => k_is)
    (case ma_Reader_Reader_scan => k_is)
    (case ma_Reader_Reader_resize => k_is)
    (case pg_Formula => k_is)
    (case hd_Formula => k_is)
    (case po_Formula => k_is)
    (case sa_Formula => k_is)
    (case pg_Reader => k_is)
    (case hd_Reader => k_is)
    (case po_Reader => k_is)
    (case sa_Reader => k_is)
    (case a_law_pool => k_is)
    (case l_law_pool => k_is)
    (case c_law_pool => k_is)
    (case kp_law_pool => k_is)
    (case z_len => k_is)
    (case z_range => k_is)
    (case z_int => k_is)
    (case a_meets => k_is)
    (case l_meets => k_is)
    (case c_meets => k_is)
    (case kp_meets => k_is)
    (case a_compared => k_is)
    (case l_compared => k_is)
    (case c_compared => k_is)
    (case kp_compared => k_is)
    (case a_changed => k_is)
    (case l_changed => k_is)
    (case c_changed => k_is)
    (case kp_changed => k_is)
    (case a_joined => k_is)
    (case l_joined => k_is)
    (case c_joined => k_is)
    (case kp_joined => k_is)
    (case a_constant_of => k_is)
    (case l_constant_of => k_is)
    (case c_constant_of => k_is)
    (case kp_constant_of => k_is)
    (case a_decoded => k_is)
    (case l_decoded => k_is)
    (case c_decoded => k_is)
    (case kp_decoded => k_is)
    (case ga_OPERANDS => k_is)
    (case ld_OPERANDS => k_is)
    (case li_OPERANDS => exact ⟨⟨_, _, rfl, rfl⟩, ⟨_, _, rfl, rfl⟩, ⟨_, _, rfl, rfl⟩, ⟨_, _, rfl, rfl⟩, ⟨_, _, rfl, rfl⟩, ⟨_, _, rfl, rfl⟩, trivial⟩)
    (case lw_OPERANDS => rfl)
    (case lv_OPERANDS => rfl)
    (case ga_COLUMNS => k_is)
    (case a_Formula___init__ => k_is)
    (case i_Formula___init__ => k_is)
    (case l_Formula___init__ => k_is)
    (case c_Formula___init__ => k_is)
    (case kp_Formula___init__ => k_is)
    (case ra_Formula => k_is)
    (case rb_Formula => k_is)
    (case cv_Formula_MOST => k_is)
    (case z_enumerate => k_is)
    (case z_tuple => k_is)
    (case na_Formula_code => k_is)
    (case na_Formula_words => k_is)
    (case a_Formula_holds => k_is)
    (case i_Formula_holds => k_is)
    (case l_Formula_holds => k_is)
    (case c_Formula_holds => k_is)
    (case kp_Formula_holds => k_is)
    (case qa_Formula_read => k_is)
    (case qb_Formula_read => k_is)
    (case qc_Formula_read => k_is)
    (case l_Formula_read => k_is)
    (case c_Formula_read => k_is)
    (case kp_Formula_read => k_is)
    (case mm_Formula => k_is)
    (case mc_Formula => k_is)
    (case i_Reader_room_setter_new => k_is)
    (case l_Reader_room_setter_new => k_is)
    (case c_Reader_room_setter_new => k_is)
    (case kp_Reader_room_setter_new => k_is)
    (case ra_Reader => k_is)
    (case rb_Reader => k_is)
    (case cv_Reader_MOST => k_is)
    (case na_Reader_space => k_is)
    (case a_Reader___init__ => k_is)
    (case i_Reader___init__ => k_is)
    (case l_Reader___init__ => k_is)
    (case kq_Reader___init__ => k_is)
    (case c_Reader___init__ => k_is)
    (case kp_Reader___init__ => k_is)
    (case na_Reader_passes => k_is)
    (case na_Reader_formula => k_is)
    (case i_Reader_room_setter => k_is)
    (case l_Reader_room_setter => k_is)
    (case c_Reader_room_setter => k_is)
    (case kp_Reader_room_setter => k_is)
    (case a_Reader_resize => k_is)
    (case i_Reader_resize => k_is)
    (case l_Reader_resize => k_is)
    (case c_Reader_resize => k_is)
    (case kp_Reader_resize => k_is)
    (case pa_Reader_room => k_is)
    (case pb_Reader_room => k_is)
    (case pc_Reader_room => k_is)
    (case pd_Reader_room => k_is)
    (case l_Reader_room => k_is)
    (case c_Reader_room => k_is)
    (case kp_Reader_room => k_is)
    (case a_Reader_one_pass => k_is)
    (case i_Reader_one_pass => k_is)
    (case l_Reader_one_pass => k_is)
    (case c_Reader_one_pass => k_is)
    (case kp_Reader_one_pass => k_is)
    (case z_any => k_is)
    (case a_Reader_scan => k_is)
    (case i_Reader_scan => k_is)
    (case l_Reader_scan => k_is)
    (case c_Reader_scan => k_is)
    (case kp_Reader_scan => k_is)
    (case z_list => k_is)
    (case i_Reader_scan_N => k_is)
    (case l_Reader_scan_N => k_is)
    (case c_Reader_scan_N => k_is)
    (case kp_Reader_scan_N => k_is)
    (case a_law_text => k_is)
    (case l_law_text => k_is)
    (case c_law_text => k_is)
    (case kp_law_text => k_is)
    (case z_isinstance => k_is)
    (case z_str => k_is)
    (case a_law_atom => k_is)
    (case l_law_atom => k_is)
    (case c_law_atom => k_is)
    (case kp_law_atom => k_is)
    (case a_law_holds => k_is)
    (case l_law_holds => k_is)
    (case c_law_holds => k_is)
    (case kp_law_holds => k_is)
    (case a_law_frame => k_is)
    (case l_law_frame => k_is)
    (case c_law_frame => k_is)
    (case kp_law_frame => k_is)
    (case a_law_ranking => k_is)
    (case l_law_ranking => k_is)
    (case c_law_ranking => k_is)
    (case kp_law_ranking => k_is)
    (case a_law_order => k_is)
    (case l_law_order => k_is)
    (case c_law_order => k_is)
    (case kp_law_order => k_is)
    (case a_law_leaf => k_is)
    (case l_law_leaf => k_is)
    (case c_law_leaf => k_is)
    (case kp_law_leaf => k_is)
    (case a_law_under => k_is)
    (case l_law_under => k_is)
    (case c_law_under => k_is)
    (case kp_law_under => k_is)
    (case a_law_tree => k_is)
    (case l_law_tree => k_is)
    (case c_law_tree => k_is)
    (case kp_law_tree => k_is)
    (case a_law_any => k_is)
    (case l_law_any => k_is)
    (case c_law_any => k_is)
    (case kp_law_any => k_is)
    (case a_law_value => k_is)
    (case l_law_value => k_is)
    (case c_law_value => k_is)
    (case kp_law_value => k_is)
    (case a_law_rows => k_is)
    (case l_law_rows => k_is)
    (case c_law_rows => k_is)
    (case kp_law_rows => k_is)
    (case a_law_is_row => k_is)
    (case l_law_is_row => k_is)
    (case c_law_is_row => k_is)
    (case kp_law_is_row => k_is)
    (case z_bool => k_is)
    (case a_law_is_rows => k_is)
    (case l_law_is_rows => k_is)
    (case c_law_is_rows => k_is)
    (case kp_law_is_rows => k_is)
    (case a_law_pass => k_is)
    (case l_law_pass => k_is)
    (case c_law_pass => k_is)
    (case kp_law_pass => k_is)
    (case a_law_scanned => k_is)
    (case l_law_scanned => k_is)
    (case c_law_scanned => k_is)
    (case kp_law_scanned => k_is)
    (case a_law_fine => k_is)
    (case l_law_fine => k_is)
    (case c_law_fine => k_is)
    (case kp_law_fine => k_is)
    (case a_law_room => k_is)
    (case l_law_room => k_is)
    (case c_law_room => k_is)
    (case kp_law_room => k_is)
    (case a_law_steep => k_is)
    (case l_law_steep => k_is)
    (case c_law_steep => k_is)
    (case kp_law_steep => k_is)
    (case mm_Reader => k_is)
    (case mc_Reader => k_is)
    (case a_law_apart => k_is)
    (case l_law_apart => k_is)
    (case c_law_apart => k_is)
    (case kp_law_apart => k_is)
    (case a_law => k_is)
    (case l_law => k_is)
    (case c_law => k_is)
    (case kp_law => k_is)
