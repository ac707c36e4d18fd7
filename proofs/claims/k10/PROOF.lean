import PyProof.Rows.All
import Wide.All
import OpenK.AllK
import Wide.FinOn
import KE.KeyNested
import KE.KDictKeyed
import KE.KDictWalk
import HandS.ForMost
import HandS.WordsExc
import HandS.Walk
import HandS.IsInst
import HandS.Wide
import HandS.More
import HandS.Star
import HandS.ClsMeth
import HandS.Property
import HandS.Style
import PyProof.StrBlock2
import HandS.Call
import KE.GoesMore
import HandS.Text
import KE.IntTextLaws
import HandS.Deep
import HandS.TupAny
import KE.KExcSuper
import KE.KExcIs
import HandS.Exc
import HandS.ExcIs
import HandS.ExcField
import HandS.TryMany
import HandS.CallSlots
import HandS.SortInts
import KE.KOpsOwn
import HandS.ExcOwn
import HandS.Comp
import HandS.DictComp
import KE.KDictList
import HandS.NoneIn
import HandS.Conv
import HandS.SlotsOwn
import HandS.FStr
import KE.KxField
import PyProof.Rows.StrOr
import KE.KSuper
import HandS.MakeKwOnly
import HandS.Defaults
import KE.KOwnIter
import HandS.OwnIter
import HandS.IterVal
import HandS.Iter
import PyProof.ZipIter
import PyProof.Rows.Range3
import HandS.MakeKw
import HandS.GenList
import KE.DataCmp
import KE.SortData
import HandS.Keys
import KE.OsRunLaw
import PySem.Challenge.RW_unbettered_k10_packed_tables
set_option Elab.async false
set_option linter.all false
set_option maxRecDepth 100000
set_option maxHeartbeats 2000000
namespace DL
open PySem PySem.Spec PyProof.Rows L2
inductive D where
  | non | bl (b : Bool) | int (i : Int) | str (s : Str) | ty (n : String) | rf (a : Addr)
  | tup (ds : List D) | lst (ds : List D) | frl (ds : List D)
  | obj (C : Addr) (ns : List Str) (ds : List D)
  | dct (ks : List NestedKey)
mutual
/-- a key as a datum -/
def dOf : NestedKey → D
  | .none => .non
  | .num i => .int i
  | .text x => .str x
  | .tup ks => .tup (dOfs ks)
def dOfs : List NestedKey → List D
  | [] => []
  | k :: ks => dOf k :: dOfs ks
end
mutual
/-- of whole numbers alone -/
def numK : NestedKey → Bool
  | .none => false
  | .num _ => true
  | .text _ => false
  | .tup ks => numKs ks
def numKs : List NestedKey → Bool
  | [] => true
  | k :: ks => numK k && numKs ks
end
structure DctOk (es : Array DictEntry) (bs : List V) (ks : List NestedKey) (as : List Addr) : Prop where
  nd : ks.Nodup
  num : ∀ k ∈ ks, numK k = true ∧ k.depth ≤ 8
  bs : bs = as.map V.ref
  len : as.length = ks.length
  es : ∀ w : World, es.toList = (ks.zip as).map fun p => (⟨p.1.hash w, .ref p.2, .bool true⟩ : DictEntry)
  lim : ks.length ≤ sizeLine
mutual
inductive Rp (K : PySem.W.Frag) (H : Hp) : V → D → Prop
  | non : Rp K H .non .non
  | bl (b : Bool) : Rp K H (.bl b) (.bl b)
  | int (i : Int) : Rp K H (.int i) (.int i)
  | str (s : Str) : Rp K H (.str s) (.str s)
  | ty (n : String) : Rp K H (.ty n) (.ty n)
  | rf (a : Addr) : Rp K H (.ref a) (.rf a)
  | tup {a : Addr} {vs : List V} {ds : List D} : SqT K H a vs → RpL K H vs ds → Rp K H (.ref a) (.tup ds)
  | lst {a : Addr} {vs : List V} {ds : List D} : H a = some (.lst vs) → RpL K H vs ds → Rp K H (.ref a) (.lst ds)
  | frl {a : Addr} {vs : List V} {ds : List D} : SqL K H a vs → RpL K H vs ds → Rp K H (.ref a) (.frl ds)
  | obj {a C dx : Addr} {fv : List (Str × V)} {ns : List Str} {ds : List D} : H a = some (.ins C dx fv) → fv.map (·.1) = ns → RpL K H (fv.map (·.2)) ds → Rp K H (.ref a) (.obj C ns ds)
  | dct {a : Addr} {es : Array DictEntry} {ep : Nat} {bs : List V} {ks : List NestedKey} {as : List Addr} : H a = some (.ext fun h => h.DictRaw a es ep) → (a == sysModules) = false → DctOk es bs ks as → RpL K H bs (dOfs ks) → Rp K H (.ref a) (.dct ks)
inductive RpL (K : PySem.W.Frag) (H : Hp) : List V → List D → Prop
  | nil : RpL K H [] []
  | cons {v : V} {vs : List V} {d : D} {ds : List D} : Rp K H v d → RpL K H vs ds → RpL K H (v :: vs) (d :: ds)
end
theorem same_t {K : PySem.W.Frag} {H H' : Hp} {a : Addr} {xs : List V} (e : Same H H') (h : SqT K H a xs) : SqT K H' a xs := by
  rcases h with (h | ⟨o, h⟩) | h
  · exact .inl (.inl (e _ _ h))
  · exact .inl (.inr ⟨o, e _ _ h⟩)
  · exact .inr h
section
variable {K : PySem.W.Frag} {H H' : Hp}
mutual
theorem Rp.mono (e : Same H H') : ∀ {v : V} {d : D}, Rp K H v d → Rp K H' v d
  | _, _, .non => .non
  | _, _, .bl b => .bl b
  | _, _, .int b => .int b
  | _, _, .str b => .str b
  | _, _, .ty b => .ty b
  | _, _, .rf b => .rf b
  | _, _, .tup h r => .tup (same_t e h) (r.mono e)
  | _, _, .lst h r => .lst (e _ _ h) (r.mono e)
  | _, _, .frl h r => .frl (e.seq h) (r.mono e)
  | _, _, .obj h n r => .obj (e _ _ h) n (r.mono e)
  | _, _, .dct h l k r => .dct (e _ _ h) l k (r.mono e)
theorem RpL.mono (e : Same H H') : ∀ {vs : List V} {ds : List D}, RpL K H vs ds → RpL K H' vs ds
  | _, _, .nil => .nil
  | _, _, .cons h r => .cons (h.mono e) (r.mono e)
end
theorem RpL.length : ∀ {vs : List V} {ds : List D}, RpL K H vs ds → vs.length = ds.length
  | _, _, .nil => rfl
  | _, _, .cons _ r => by rw [List.length_cons, List.length_cons, r.length]
theorem RpL.get : ∀ {vs : List V} {ds : List D} {i : Nat} {d : D}, RpL K H vs ds → ds[i]? = some d → ∃ v, vs[i]? = some v ∧ Rp K H v d
  | _, _, _, _, .nil, h => by simp at h
  | _, _, 0, _, .cons h _, e => by simp at e; subst e; exact ⟨_, rfl, h⟩
  | _, _, i + 1, d, .cons _ r, e => by
    obtain ⟨v, e1, q⟩ := r.get (i := i) (d := d) (by simpa using e)
    exact ⟨v, by simpa using e1, q⟩
theorem RpL.get' : ∀ {vs : List V} {ds : List D} {i : Nat} {v : V}, RpL K H vs ds → vs[i]? = some v → ∃ d, ds[i]? = some d ∧ Rp K H v d
  | _, _, _, _, .nil, h => by simp at h
  | _, _, 0, _, .cons h _, e => by simp at e; subst e; exact ⟨_, rfl, h⟩
  | _, _, i + 1, d, .cons _ r, e => by
    obtain ⟨v, e1, q⟩ := r.get' (i := i) (v := d) (by simpa using e)
    exact ⟨v, by simpa using e1, q⟩
theorem RpL.append : ∀ {vs ws : List V} {ds es : List D}, RpL K H vs ds → RpL K H ws es → RpL K H (vs ++ ws) (ds ++ es)
  | _, _, _, _, .nil, s => s
  | _, _, _, _, .cons h r, s => .cons h (r.append s)
theorem RpL.take : ∀ {vs : List V} {ds : List D} (n : Nat), RpL K H vs ds → RpL K H (vs.take n) (ds.take n)
  | _, _, 0, _ => .nil
  | _, _, _ + 1, .nil => .nil
  | _, _, n + 1, .cons h r => .cons h (r.take n)
theorem RpL.drop : ∀ {vs : List V} {ds : List D} (n : Nat), RpL K H vs ds → RpL K H (vs.drop n) (ds.drop n)
  | _, _, 0, r => r
  | _, _, _ + 1, .nil => .nil
  | _, _, n + 1, .cons _ r => r.drop n
theorem RpL.set {v : V} {d : D} (h : Rp K H v d) : ∀ {vs : List V} {ds : List D} (n : Nat), RpL K H vs ds → RpL K H (vs.set n v) (ds.set n d)
  | _, _, _, .nil => .nil
  | _, _, 0, .cons _ r => .cons h r
  | _, _, n + 1, .cons h' r => .cons h' (r.set h n)
theorem RpL.reverse : ∀ {vs : List V} {ds : List D}, RpL K H vs ds → RpL K H vs.reverse ds.reverse
  | _, _, .nil => .nil
  | _, _, .cons h r => by
    rw [List.reverse_cons, List.reverse_cons]
    exact r.reverse.append (.cons h .nil)
theorem RpL.ints : ∀ {vs : List V} {ns : List Int}, RpL K H vs (ns.map D.int) → vs = ns.map V.int
  | _, [], .nil => rfl
  | _, _ :: _, .cons (.int _) r => by rw [List.map_cons, ← r.ints]
theorem RpL.ofInts : ∀ (ns : List Int), RpL K H (ns.map V.int) (ns.map D.int)
  | [] => .nil
  | n :: ns => .cons (.int n) (RpL.ofInts ns)
theorem RpL.strs : ∀ {vs : List V} {ns : List Str}, RpL K H vs (ns.map D.str) → vs = ns.map V.str
  | _, [], .nil => rfl
  | _, _ :: _, .cons (.str _) r => by rw [List.map_cons, ← r.strs]
end
inductive M where
  | lst (ds : List D)
  | ins (C : Addr) (ns : List Str) (ds : List D)
  | dk (kvs : List (Key × D))
  | dkl (o : Obj) (kv : List (Key × V)) (kvs : List (Key × D))
  | dct (ks : List NestedKey)
abbrev Om := List (Addr × M)
def has (O : Om) (a : Addr) : Bool := O.any fun p => p.1 == a
def vis (F : Addr → Bool) (O : Om) (H : Hp) : Hp := fun a => if (F a || has O a) = true then none else H a
theorem vis_some {F : Addr → Bool} {O : Om} {H : Hp} {a : Addr} {o : HO} : vis F O H a = some o ↔ F a = false ∧ has O a = false ∧ H a = some o := by
  unfold vis
  cases F a <;> cases has O a <;> simp
theorem vis_same {F : Addr → Bool} {O : Om} {H H' : Hp} (e : Same H H') : Same (vis F O H) (vis F O H') := fun a o h => by
  obtain ⟨h1, h2, h3⟩ := vis_some.mp h
  exact vis_some.mpr ⟨h1, h2, e _ _ h3⟩
theorem vis_le {F : Addr → Bool} {O : Om} {H : Hp} : Same (vis F O H) H := fun a o h => (vis_some.mp h).2.2
theorem has_cons {O : Om} {a b : Addr} {m : M} : has ((b, m) :: O) a = (b == a || has O a) := rfl
theorem has_mem {O : Om} {a : Addr} : has O a = true ↔ ∃ m, (a, m) ∈ O := by
  unfold has
  rw [List.any_eq_true]
  constructor
  · rintro ⟨⟨b, m⟩, h, e⟩
    have e' : b = a := by simpa using e
    exact ⟨m, e' ▸ h⟩
  · rintro ⟨m, h⟩
    exact ⟨_, h, by simp⟩
def MRp (K : PySem.W.Frag) (Hv H : Hp) (a : Addr) : M → Prop
  | .lst ds => ∃ vs, H a = some (.lst vs) ∧ RpL K Hv vs ds
  | .ins C ns ds => ∃ dx fv, H a = some (.ins C dx fv) ∧ fv.map (·.1) = ns ∧ RpL K Hv (fv.map (·.2)) ds
  | .dk kvs => ∃ kv : List (Key × V), H a = some (.dK kv) ∧ kv.map (·.1) = kvs.map (·.1) ∧ RpL K Hv (kv.map (·.2)) (kvs.map (·.2))
  | .dkl o kv kvs => H a = some (.frz o (.dK kv)) ∧ kv.map (·.1) = kvs.map (·.1) ∧ RpL K Hv (kv.map (·.2)) (kvs.map (·.2))
  | .dct ks => ∃ es ep bs as, H a = some (.ext fun h => h.DictRaw a es ep) ∧ (a == sysModules) = false ∧ DctOk es bs ks as ∧ RpL K Hv bs (dOfs ks)
theorem MRp.some {K : PySem.W.Frag} {Hv H : Hp} {a : Addr} : ∀ {m : M}, MRp K Hv H a m → ∃ o, H a = Option.some o
  | .lst _, ⟨_, h, _⟩ => ⟨_, h⟩
  | .ins _ _ _, ⟨_, _, h, _⟩ => ⟨_, h⟩
  | .dk _, ⟨_, h, _⟩ => ⟨_, h⟩
  | .dkl _ _ _, ⟨h, _⟩ => ⟨_, h⟩
  | .dct _, ⟨_, _, _, _, h, _⟩ => ⟨_, h⟩
theorem MRp.mono {K : PySem.W.Frag} {Hv Hv' H H' : Hp} {a : Addr} (e : Same Hv Hv') (eh : ∀ o, H a = Option.some o → H' a = Option.some o) : ∀ {m : M}, MRp K Hv H a m → MRp K Hv' H' a m
  | .lst _, ⟨vs, h, r⟩ => ⟨vs, eh _ h, r.mono e⟩
  | .ins _ _ _, ⟨dx, fv, h, n, r⟩ => ⟨dx, fv, eh _ h, n, r.mono e⟩
  | .dk _, ⟨kv, h, n, r⟩ => ⟨kv, eh _ h, n, r.mono e⟩
  | .dkl _ _ _, ⟨h, n, r⟩ => ⟨eh _ h, n, r.mono e⟩
  | .dct _, ⟨es, ep, bs, as, h, l, k, r⟩ => ⟨es, ep, bs, as, eh _ h, l, k, r.mono e⟩
structure Gd where
  F : Addr → Bool
  Hb : Hp
  W : Value → Option Addr → L2.St → Hp → Prop
  L : Om
  ok : ∀ a, F a = true → ∃ o, Hb a = some o
  lF : ∀ a m, (a, m) ∈ L → F a = true
structure MOk (K : PySem.W.Frag) (B : Gd) (O : Om) (H : Hp) : Prop where
  base : ∀ a o, B.Hb a = some o → H a = some o ∧ has O a = false
  mem : ∀ a m, (a, m) ∈ O → MRp K (vis B.F O H) H a m
  nd : (O.map (·.1)).Nodup
  lent : ∀ a m, (a, m) ∈ B.L → MRp K (vis B.F O H) H a m
def EnvR (K : PySem.W.Frag) (Hv : Hp) (σ : L2.St) (ρ : List (Option D)) : Prop := σ.length = ρ.length ∧ ∀ (i : Nat) (d : D), ρ[i]? = some (some d) → ∃ v, σ[i]? = some (some v) ∧ Rp K Hv v d
structure StOk (K : PySem.W.Frag) (B : Gd) (ρ : List (Option D)) (O : Om) (σ : L2.St) (H : Hp) : Prop where
  m : MOk K B O H
  env : EnvR K (vis B.F O H) σ ρ
section
variable {K : PySem.W.Frag} {B : Gd} {ρ : List (Option D)} {O : Om} {σ : L2.St} {H H' : Hp}
theorem MOk.same (h : MOk K B O H) (e : Same H H') : MOk K B O H' :=
  ⟨fun a o q => ⟨e _ _ (h.base a o q).1, (h.base a o q).2⟩, fun a m q => (h.mem a m q).mono (vis_same e) (fun o q => e _ _ q), h.nd, fun a m q => (h.lent a m q).mono (vis_same e) (fun o q => e _ _ q)⟩
theorem EnvR.mono {Hv Hv' : Hp} (h : EnvR K Hv σ ρ) (e : Same Hv Hv') : EnvR K Hv' σ ρ := ⟨h.1, fun i d q => let ⟨v, a, b⟩ := h.2 i d q; ⟨v, a, b.mono e⟩⟩
theorem StOk.same (h : StOk K B ρ O σ H) (e : Same H H') : StOk K B ρ O σ H' := ⟨h.m.same e, h.env.mono (vis_same e)⟩
theorem MOk.newF (h : MOk K B O H) {p : Addr} (hp : H p = none) : B.F p = false := by
  cases q : B.F p with
  | false => rfl
  | true =>
    obtain ⟨o, e⟩ := B.ok p q
    have := (h.base p o e).1
    rw [hp] at this; cases this
theorem MOk.newO (h : MOk K B O H) {p : Addr} (hp : H p = none) : has O p = false := by
  cases q : has O p with
  | false => rfl
  | true =>
    obtain ⟨m, e⟩ := has_mem.mp q
    obtain ⟨o, e'⟩ := (h.mem p m e).some
    rw [hp] at e'; cases e'
theorem same_new {p : Addr} {o : HO} (hp : H p = none) : Same H (upd H p o) := fun a u e => by
  rw [upd_ne (ne_of_none e hp)]; exact e
theorem MOk.visNew (h : MOk K B O H) {p : Addr} {o : HO} (hp : H p = none) : vis B.F O (upd H p o) p = some o := vis_some.mpr ⟨h.newF hp, h.newO hp, upd_same⟩
theorem EnvR.set {Hv : Hp} (h : EnvR K Hv σ ρ) {i : Nat} {v : V} {d : D} (r : Rp K Hv v d) : EnvR K Hv (σ.set i (some v)) (ρ.set i (some d)) := by
  refine ⟨by simp [h.1], fun j d' e => ?_⟩
  by_cases hj : i = j
  · subst hj
    have hl : i < ρ.length := by
      have := (List.getElem?_eq_some_iff.mp e).1
      simpa using this
    rw [List.getElem?_set_self hl] at e
    cases e
    exact ⟨v, by rw [List.getElem?_set_self (by rw [h.1]; exact hl)], r⟩
  · rw [List.getElem?_set_ne hj] at e
    obtain ⟨v', a, b⟩ := h.2 j d' e
    exact ⟨v', by rw [List.getElem?_set_ne hj]; exact a, b⟩
theorem StOk.set (h : StOk K B ρ O σ H) {i : Nat} {v : V} {d : D} (r : Rp K (vis B.F O H) v d) : StOk K B (ρ.set i (some d)) O (σ.set i (some v)) H := ⟨h.m, h.env.set r⟩
def Wk (ρ ρ' : List (Option D)) : Prop := ρ.length = ρ'.length ∧ ∀ (i : Nat) (d : D), ρ[i]? = some (some d) → ρ'[i]? = some (some d)
theorem StOk.weak {ρ' : List (Option D)} (h : StOk K B ρ' O σ H) (w : Wk ρ ρ') : StOk K B ρ O σ H := ⟨h.m, h.env.1.trans w.1.symm, fun i d e => h.env.2 i d (w.2 i d e)⟩
end
def tD (K : PySem.W.Frag) (B : Gd) (ρ : List (Option D)) (O : Om) (d : D) : TE := fun σ H Q => StOk K B ρ O σ H ∧ ∀ v H', Same H H' → Rp K (vis B.F O H') v d → Q v H'
def tN (K : PySem.W.Frag) (B : Gd) (ρ : List (Option D)) (O : Om) (ds : List D) : TE := fun σ H Q => StOk K B ρ O σ H ∧
  ∀ p H' vs, H p = none → Same H H' → H' p = some (.lst vs) → RpL K (vis B.F ((p, .lst ds) :: O) H') vs ds → Q (.ref p) H'
def tT (K : PySem.W.Frag) (B : Gd) (ρ : List (Option D)) (O : Om) (b : Bool) : TT := fun σ H Q => StOk K B ρ O σ H ∧ ∀ H', Same H H' → Q b H'
def tA (K : PySem.W.Frag) (B : Gd) (ρ : List (Option D)) (O : Om) (ds : List D) : TA := fun σ H Q => StOk K B ρ O σ H ∧ ∀ vs H', Same H H' → RpL K (vis B.F O H') vs ds → Q vs H'
abbrev EV (X : Cx) (B : Gd) (ρ : List (Option D)) (O : Om) (e : Expr) (d : D) : Prop := PE X e (tD X.K B ρ O d)
abbrev EN (X : Cx) (B : Gd) (ρ : List (Option D)) (O : Om) (e : Expr) (ds : List D) : Prop := PE X e (tN X.K B ρ O ds)
abbrev ET (X : Cx) (B : Gd) (ρ : List (Option D)) (O : Om) (e : Expr) (b : Bool) : Prop := PT X e (tT X.K B ρ O b)
abbrev EW (X : Cx) (B : Gd) (ρ : List (Option D)) (O : Om) (e : Expr) (b : Bool) : Prop := PW X e (tT X.K B ρ O b)
abbrev EA (X : Cx) (B : Gd) (ρ : List (Option D)) (O : Om) (es : List Expr) (ds : List D) : Prop := PA X es (tA X.K B ρ O ds)
theorem pe_imp {X : Cx} {e : Expr} {t t' : TE} (h : PE X e t) (w : ∀ σ H Q, t' σ H Q → t σ H Q) : PE X e t' := ⟨fun pins s σ H Q I q => h.run pins s σ H Q I (w σ H Q q)⟩
theorem pt_imp {X : Cx} {e : Expr} {t t' : TT} (h : PT X e t) (w : ∀ σ H Q, t' σ H Q → t σ H Q) : PT X e t' := ⟨fun pins s σ H Q I q => h.run pins s σ H Q I (w σ H Q q)⟩
theorem pw_imp {X : Cx} {e : Expr} {t t' : TT} (h : PW X e t) (w : ∀ σ H Q, t' σ H Q → t σ H Q) : PW X e t' := ⟨fun wh pins s σ H Q I q => h.run wh pins s σ H Q I (w σ H Q q)⟩
theorem pa_imp {X : Cx} {es : List Expr} {t t' : TA} (h : PA X es t) (w : ∀ σ H Q, t' σ H Q → t σ H Q) : PA X es t' := ⟨fun p pins s σ H Q I q => h.run p pins s σ H Q I (w σ H Q q)⟩
theorem ps_imp {X : Cx} {st : Stmt} {t t' : TS} (h : PS X st t) (w : ∀ Dn σ H, t' Dn σ H → t Dn σ H) : PS X st t' := ⟨fun pins s σ H Dn I q => h.run pins s σ H Dn I (w Dn σ H q)⟩
theorem pss_imp {X : Cx} {st : List Stmt} {t t' : TS} (h : PSs X st t) (w : ∀ Dn σ H, t' Dn σ H → t Dn σ H) : PSs X st t' := ⟨fun pins s σ H Dn I q => h.run pins s σ H Dn I (w Dn σ H q)⟩
section
variable {X : Cx} {B : Gd} {ρ : List (Option D)} {O : Om} {a b c e : Expr} {es : List Expr} {d d1 d2 d3 : D} {ds : List D} {pos : Pos} {b1 b2 : Bool}
theorem ev_name {i : Nat} {x : Str} (hN : X.N[i]? = some x) (hv : Vis X.env.scope x) (hd : ρ[i]? = some (some d)) (h1 : (x == ("__debug__" : Str)) = false) (h2 : (x == ("__classdict__" : Str)) = false) : EV X B ρ O (.Name x pos) d :=
  pe_imp (pe_var hN hv h1 h2) fun σ H Q ⟨st, k⟩ => by
    obtain ⟨v, e, r⟩ := st.env.2 i d hd
    exact ⟨v, e, k v H (Same.refl H) r⟩
theorem ev_const {v : V} (h : PE X e (tC v)) (r : ∀ K H, Rp K H v d) : EV X B ρ O e d := pe_imp h fun σ H Q ⟨st, k⟩ => k v H (Same.refl H) (r _ _)
theorem ev_int {i : Int} {j} : EV X B ρ O (.Constant (.int i) j pos) (.int i) := ev_const pe_int fun _ _ => .int i
theorem ev_str {i : Str} {j} : EV X B ρ O (.Constant (.str i) j pos) (.str i) := ev_const pe_str fun _ _ => .str i
theorem ev_bl {i : Bool} {j} : EV X B ρ O (.Constant (.bool i) j pos) (.bl i) := ev_const pe_bl fun _ _ => .bl i
theorem ev_glob {x : Str} {v : V} {u : Value} (hg : Gl X x) (hm : X.mg x = some u) (r : RelV v u) (rp : ∀ H, Rp X.K H v d) (hd : (x == ("__debug__" : Str)) = false := by decide) : EV X B ρ O (.Name x pos) d :=
  pe_imp (pe_glob hg hm r hd) fun σ H Q ⟨st, k⟩ => k v H (Same.refl H) (rp _)
def RD (K : PySem.W.Frag) (B : Gd) (O : Om) (r : R2) (d1 d2 d : D) : Prop :=
  ∀ (x y : V) (H : Hp) (Q : VK), MOk K B O H → Rp K (vis B.F O H) x d1 → Rp K (vis B.F O H) y d2 → (∀ v H', Same H H' → Rp K (vis B.F O H') v d → Q v H') → r x y H Q
theorem two {r : R2} (hr : RD X.K B O r d1 d2 d) (σ : L2.St) (H : Hp) (Q : VK) (h : tD X.K B ρ O d σ H Q) : tOp r (tD X.K B ρ O d1) (tD X.K B ρ O d2) σ H Q := by
  obtain ⟨st, k⟩ := h
  refine ⟨st, fun x H1 e1 r1 => ⟨st.same e1, fun y H2 e2 r2 => ?_⟩⟩
  exact hr x y H2 Q ((st.same e1).same e2).m (r1.mono (vis_same e2)) r2 fun v H' e3 r3 => k v H' ((e1.trans e2).trans e3) r3
theorem ev_op {op : Operator} {r : R2} (ho : OpR X (binaryOp op) r) (hr : RD X.K B O r d1 d2 d) (ha : EV X B ρ O a d1) (hb : EV X B ρ O b d2) : EV X B ρ O (.BinOp a op b pos) d := pe_imp (pe_op ho ha hb) (two hr)
theorem ev_cmp {op : CmpOp} {r : R2} (ho : OpR X (compareOp op) r) (hr : RD X.K B O r d1 d2 d) (ha : EV X B ρ O a d1) (hb : EV X B ρ O b d2) (hm : behindInMarks op b = false) : EV X B ρ O (.Compare a [op] [b] pos) d := pe_imp (pe_cmpR ho ha hb hm) (two hr)
theorem et_of (h : EV X B ρ O e (.bl b1)) (he : ∀ whole, isTrue e X.env whole = (do let v ← whole; standAt e.pos; holding [v] (truthy v)) := by intro _; rfl) : ET X B ρ O e b1 :=
  pt_imp (pt_val h he) fun σ H Q ⟨st, k⟩ => ⟨st, fun v H1 e1 r1 => by cases r1; exact ⟨b1, rfl, k H1 e1⟩⟩
theorem et_cmp {op : CmpOp} {r : R2} (ho : OpR X (compareOp op) r) (hr : RD X.K B O r d1 d2 (.bl b1)) (ha : EV X B ρ O a d1) (hb : EV X B ρ O b d2) (hm : behindInMarks op b = false) : ET X B ρ O (.Compare a [op] [b] pos) b1 :=
  pt_imp (pt_cmpR ho ha hb hm) fun σ H Q ⟨st, k⟩ => two (ρ := ρ) hr σ H _ ⟨st, fun v H1 e1 r1 => by cases r1; exact ⟨b1, rfl, k H1 e1⟩⟩
theorem rd_I0 {g : Int → Int → Int} {i j : Int} {K : PySem.W.Frag} : RD K B O (rI0 fun i j => .int (g i j)) (.int i) (.int j) (.int (g i j)) := fun x y H Q m r1 r2 k => by
  cases r1; cases r2; exact ⟨i, j, rfl, rfl, k _ H (Same.refl H) (.int _)⟩
theorem rd_B0 {g : Int → Int → Bool} {i j : Int} {K : PySem.W.Frag} : RD K B O (rI0 fun i j => .bl (g i j)) (.int i) (.int j) (.bl (g i j)) := fun x y H Q m r1 r2 k => by
  cases r1; cases r2; exact ⟨i, j, rfl, rfl, k _ H (Same.refl H) (.bl _)⟩
theorem rd_I {C : Int → Int → Prop} {g : Int → Int → Int} {i j : Int} {K : PySem.W.Frag} (hc : C i j) : RD K B O (rI C fun i j => .int (g i j)) (.int i) (.int j) (.int (g i j)) := fun x y H Q m r1 r2 k => by
  cases r1; cases r2; exact ⟨i, j, rfl, rfl, hc, k _ H (Same.refl H) (.int _)⟩
def scalD : D → V
  | .non => .non | .bl b => .bl b | .int i => .int i | .str s => .str s | .ty n => .ty n | .rf a => .ref a | _ => .flt 0
def isScal : D → Bool
  | .non | .bl _ | .int _ | .str _ | .ty _ | .rf _ => true
  | _ => false
theorem rp_scal {K : PySem.W.Frag} {H : Hp} {v : V} (h : Rp K H v d) (hs : isScal d = true) : v = scalD d := by
  cases h <;> first | rfl | cases hs
theorem rd_eq {K : PySem.W.Frag} (h1 : isScal d1 = true) (h2 : isScal d2 = true) (hs : scal (scalD d1) (scalD d2) = true) : RD K B O rEq d1 d2 (.bl (decide (scalD d1 = scalD d2))) := fun x y H Q m r1 r2 k => by
  rw [rp_scal r1 h1, rp_scal r2 h2]
  exact ⟨hs, k _ H (Same.refl H) (.bl _)⟩
theorem rd_ne {K : PySem.W.Frag} (h1 : isScal d1 = true) (h2 : isScal d2 = true) (hs : scal (scalD d1) (scalD d2) = true) : RD K B O rNe d1 d2 (.bl (!decide (scalD d1 = scalD d2))) := fun x y H Q m r1 r2 k => by
  rw [rp_scal r1 h1, rp_scal r2 h2]
  exact ⟨hs, k _ H (Same.refl H) (.bl _)⟩
theorem rd_imp {K : PySem.W.Frag} {r : R2} {d d' : D} (h : RD K B O r d1 d2 d) (e : d = d') : RD K B O r d1 d2 d' := e ▸ h
theorem rd_eqI {K : PySem.W.Frag} {i j : Int} : RD K B O rEq (.int i) (.int j) (.bl (decide (i = j))) := rd_imp (rd_eq rfl rfl rfl) (by simp [scalD])
theorem rd_neI {K : PySem.W.Frag} {i j : Int} : RD K B O rNe (.int i) (.int j) (.bl (!decide (i = j))) := rd_imp (rd_ne rfl rfl rfl) (by simp [scalD])
theorem rd_eqS {K : PySem.W.Frag} {i j : Str} : RD K B O rEq (.str i) (.str j) (.bl (decide (i = j))) := rd_imp (rd_eq rfl rfl rfl) (by simp [scalD])
theorem ev_neg {i : Int} (ha : EV X B ρ O a (.int i)) : EV X B ρ O (.UnaryOp .USub a pos) (.int (-i)) := pe_imp (pe_un un_neg ha) fun σ H Q ⟨st, k⟩ => ⟨st, fun v H1 e1 r1 => by cases r1; exact ⟨i, rfl, k _ H1 e1 (.int _)⟩⟩
theorem et_not (h : ET X B ρ O a b1) : ET X B ρ O (.UnaryOp .Not a pos) (!b1) := pt_imp (pt_not h) fun σ H Q ⟨st, k⟩ => ⟨st, fun H1 e1 => k H1 e1⟩
theorem ev_not (h : EV X B ρ O a (.bl b1)) : EV X B ρ O (.UnaryOp .Not a pos) (.bl (!b1)) := pe_imp (pe_not h) fun σ H Q ⟨st, k⟩ => ⟨st, fun v H1 e1 r1 => by cases r1; exact ⟨b1, rfl, k _ H1 e1 (.bl _)⟩⟩
theorem ew_and1 (h : ET X B ρ O a b1) : EW X B ρ O (.BoolOp .And [a] pos) b1 := pw_and1 h
theorem ew_or1 (h : ET X B ρ O a b1) : EW X B ρ O (.BoolOp .Or [a] pos) b1 := pw_or1 h
theorem ew_and (h1 : ET X B ρ O a b1) (h2 : b1 = true → EW X B ρ O (.BoolOp .And (b :: es) pos) b2) : EW X B ρ O (.BoolOp .And (a :: b :: es) pos) (b1 && b2) := by
  cases b1 with
  | true => exact pw_imp (pw_and h1 (h2 rfl)) fun σ H Q ⟨st, k⟩ => ⟨st, fun H1 e1 => iteT ⟨st.same e1, fun H2 e2 => k H2 (e1.trans e2)⟩⟩
  | false => exact pw_imp (pw_and h1 (tB' := fun _ _ _ => False) ⟨fun _ _ _ _ _ _ _ h => h.elim⟩) fun σ H Q ⟨st, k⟩ => ⟨st, fun H1 e1 => iteF (k H1 e1)⟩
theorem ew_or (h1 : ET X B ρ O a b1) (h2 : b1 = false → EW X B ρ O (.BoolOp .Or (b :: es) pos) b2) : EW X B ρ O (.BoolOp .Or (a :: b :: es) pos) (b1 || b2) := by
  cases b1 with
  | false => exact pw_imp (pw_or h1 (h2 rfl)) fun σ H Q ⟨st, k⟩ => ⟨st, fun H1 e1 => iteF ⟨st.same e1, fun H2 e2 => k H2 (e1.trans e2)⟩⟩
  | true => exact pw_imp (pw_or h1 (tB' := fun _ _ _ => False) ⟨fun _ _ _ _ _ _ _ h => h.elim⟩) fun σ H Q ⟨st, k⟩ => ⟨st, fun H1 e1 => iteT (k H1 e1)⟩
theorem et_w (h : EW X B ρ O e b1) : ET X B ρ O e b1 := PW.pt h
theorem ev_one {op} (h : EV X B ρ O a d) : EV X B ρ O (.BoolOp op [a] pos) d := pe_one h
theorem ev_and (h1 : EV X B ρ O a (.bl b1)) (h2 : b1 = true → EV X B ρ O (.BoolOp .And (b :: es) pos) (.bl b2)) : EV X B ρ O (.BoolOp .And (a :: b :: es) pos) (.bl (b1 && b2)) := by
  cases b1 with
  | true => exact pe_imp (pe_and h1 (h2 rfl)) fun σ H Q ⟨st, k⟩ => ⟨st, fun v H1 e1 r1 => by cases r1; exact ⟨true, rfl, iteT ⟨st.same e1, fun w H2 e2 r2 => k w H2 (e1.trans e2) r2⟩⟩⟩
  | false => exact pe_imp (pe_and h1 (tb := fun _ _ _ => False) ⟨fun _ _ _ _ _ _ h => h.elim⟩) fun σ H Q ⟨st, k⟩ => ⟨st, fun v H1 e1 r1 => by cases r1; exact ⟨false, rfl, iteF (k _ H1 e1 (.bl _))⟩⟩
theorem ev_or (h1 : EV X B ρ O a (.bl b1)) (h2 : b1 = false → EV X B ρ O (.BoolOp .Or (b :: es) pos) (.bl b2)) : EV X B ρ O (.BoolOp .Or (a :: b :: es) pos) (.bl (b1 || b2)) := by
  cases b1 with
  | false => exact pe_imp (pe_or h1 (h2 rfl)) fun σ H Q ⟨st, k⟩ => ⟨st, fun v H1 e1 r1 => by cases r1; exact ⟨false, rfl, iteF ⟨st.same e1, fun w H2 e2 r2 => k w H2 (e1.trans e2) r2⟩⟩⟩
  | true => exact pe_imp (pe_or h1 (tb := fun _ _ _ => False) ⟨fun _ _ _ _ _ _ h => h.elim⟩) fun σ H Q ⟨st, k⟩ => ⟨st, fun v H1 e1 r1 => by cases r1; exact ⟨true, rfl, iteT (k _ H1 e1 (.bl _))⟩⟩
theorem ea_nil : EA X B ρ O [] [] := pa_imp pa_nil fun σ H Q ⟨st, k⟩ => k [] H (Same.refl H) .nil
theorem ea_cons (ha : EV X B ρ O e d) (hr : EA X B ρ O es ds) (hs : starEach (e :: es) X.env = (false, eval e X.env) :: starEach es X.env := by rfl) : EA X B ρ O (e :: es) (d :: ds) :=
  pa_imp (pa_cons ha hr hs) fun σ H Q ⟨st, k⟩ => ⟨st, fun v H1 e1 r1 => ⟨st.same e1, fun vs H2 e2 r2 => k (v :: vs) H2 (e1.trans e2) (.cons (r1.mono (vis_same e2)) r2)⟩⟩
theorem ev_tup {x1} (h : EA X B ρ O es ds) (hz : ds.length ≤ sizeLine) : EV X B ρ O (.Tuple es x1 pos) (.tup ds) :=
  pe_imp (pe_tup h) fun σ H Q ⟨st, k⟩ => ⟨st, fun vs H1 e1 r1 => ⟨by rw [r1.length]; exact hz, fun p hp =>
    k (.ref p) _ (e1.trans (same_new hp)) (.tup (.inl (.inl ((st.same e1).m.visNew hp))) (r1.mono (vis_same (same_new hp))))⟩⟩
theorem new_vis {K : PySem.W.Frag} {H : Hp} (m : MOk K B O H) {p : Addr} {o : HO} (hp : H p = none) {vs : List V} (r : RpL K (vis B.F O H) vs ds) (mm : M) : RpL K (vis B.F ((p, mm) :: O) (upd H p o)) vs ds := r.mono fun a u h => by
  obtain ⟨h1, h2, h3⟩ := vis_some.mp h
  have ne : a ≠ p := ne_of_none h3 hp
  exact vis_some.mpr ⟨h1, by rw [has_cons, h2, Bool.or_false]; exact beq_eq_false_iff_ne.mpr (Ne.symm ne), by rw [upd_ne ne]; exact h3⟩
theorem en_lst (h : EA X B ρ O es ds) (hz : ds.length ≤ sizeLine) : EN X B ρ O (.List es pos) ds :=
  pe_imp (pe_lst h) fun σ H Q ⟨st, k⟩ => ⟨st, fun vs H1 e1 r1 => ⟨by rw [r1.length]; exact hz, fun p hp =>
    k p _ vs (e1.free hp) (e1.trans (same_new hp)) upd_same (new_vis (st.same e1).m hp r1 _)⟩⟩
theorem ev_new (h : EN X B ρ O e ds) : EV X B ρ O e (.lst ds) := pe_imp h fun σ H Q ⟨st, k⟩ => ⟨st, fun p H' vs hp e1 hv r => by
  have fp := st.m.newF hp
  have op := st.m.newO hp
  refine k _ H' e1 (.lst (vis_some.mpr ⟨fp, op, hv⟩) (r.mono fun a o h => ?_))
  obtain ⟨h1, h2, h3⟩ := vis_some.mp h
  rw [has_cons, Bool.or_eq_false_iff] at h2
  exact vis_some.mpr ⟨h1, h2.2, h3⟩⟩
end
end DL

set_option Elab.async false
set_option linter.all false
set_option maxRecDepth 100000
set_option maxHeartbeats 2000000
namespace DL
open PySem PySem.Spec PyProof.Rows L2
structure AE where
  nx : List (Option D) → Om → Prop
  rt : D → Om → Prop
  bk : List (Option D) → Om → Prop := fun _ _ => False
  ct : List (Option D) → Om → Prop := fun _ _ => False
  ex : Addr → Str → D → List (Option D) → Om → Prop := fun _ _ _ _ _ => False
structure Post (K : PySem.W.Frag) (B : Gd) (A : AE) (Dn : Ends) (Hv : Hp) : Prop where
  nx : ∀ ρ O σ H, A.nx ρ O → StOk K B ρ O σ H → Same Hv (vis B.F O H) → Dn.nx σ H
  rt : ∀ d O v H, A.rt d O → MOk K B O H → Rp K (vis B.F O H) v d → Dn.rt v H
  bk : ∀ ρ O σ H, A.bk ρ O → StOk K B ρ O σ H → Same Hv (vis B.F O H) → Dn.bk σ H
  ct : ∀ ρ O σ H, A.ct ρ O → StOk K B ρ O σ H → Same Hv (vis B.F O H) → Dn.ct σ H
  ex : ∀ C f d ρ O σ H dx v, A.ex C f d ρ O → StOk K B ρ O σ H → Same Hv (vis B.F O H) → H dx = some (.xd [(f, v)]) → has O dx = false → Rp K (vis B.F O H) v d → B.W (.ref C) (some dx) σ H
theorem Post.grow {K : PySem.W.Frag} {B : Gd} {A : AE} {Dn : Ends} {Hv Hv' : Hp} (p : Post K B A Dn Hv) (e : Same Hv Hv') : Post K B A Dn Hv' :=
  ⟨fun ρ O σ H a s q => p.nx ρ O σ H a s (e.trans q), p.rt, fun ρ O σ H a s q => p.bk ρ O σ H a s (e.trans q), fun ρ O σ H a s q => p.ct ρ O σ H a s (e.trans q), fun C f d ρ O σ H dx v a s q => p.ex C f d ρ O σ H dx v a s (e.trans q)⟩
def tW (K : PySem.W.Frag) (B : Gd) (ρ : List (Option D)) (O : Om) (A : AE) : TS := fun Dn σ H => StOk K B ρ O σ H ∧ Post K B A Dn (vis B.F O H)
abbrev J (X : Cx) (B : Gd) (ss : List Stmt) (ρ : List (Option D)) (O : Om) (A : AE) : Prop := PSs X ss (tW X.K B ρ O A)
abbrev J1 (X : Cx) (B : Gd) (st : Stmt) (ρ : List (Option D)) (O : Om) (A : AE) : Prop := PS X st (tW X.K B ρ O A)
def tG (K : PySem.W.Frag) (B : Gd) (ρ : List (Option D)) (O : Om) (d : D) (O' : Om) : TE := fun σ H Q => StOk K B ρ O σ H ∧ ∀ v H', StOk K B ρ O' σ H' → Same (vis B.F O H) (vis B.F O' H') → Rp K (vis B.F O' H') v d → Q v H'
abbrev EG (X : Cx) (B : Gd) (ρ : List (Option D)) (O : Om) (e : Expr) (d : D) (O' : Om) : Prop := PE X e (tG X.K B ρ O d O')
section
variable {X : Cx} {B : Gd} {ρ ρ' : List (Option D)} {O O' O1 O2 : Om} {A : AE} {a b c e : Expr} {es : List Expr} {d d1 d2 d3 : D} {ds : List D} {pos pos' : Pos} {b1 b2 : Bool} {st : Stmt} {ss rest : List Stmt}
theorem eg_of (h : EV X B ρ O e d) : EG X B ρ O e d O := pe_imp h fun σ H Q ⟨st, k⟩ => ⟨st, fun v H1 e1 r1 => k v H1 (st.same e1) (vis_same e1) r1⟩
theorem j_nil (h : A.nx ρ O) : J X B [] ρ O A := pss_imp pss_nil fun Dn σ H ⟨st, p⟩ => p.nx ρ O σ H h st (Same.refl _)
theorem j_cons (h : J1 X B st ρ O { A with nx := fun ρ' O' => J X B rest ρ' O' A }) : J X B (st :: rest) ρ O A := by
  have h2 : PSs X rest (fun Dn σ H => ∃ ρ' O', J X B rest ρ' O' A ∧ StOk X.K B ρ' O' σ H ∧ Post X.K B A Dn (vis B.F O' H)) :=
    ⟨fun pins s σ H Dn I ⟨ρ', O', q, s', p⟩ => q.run pins s σ H Dn I ⟨s', p⟩⟩
  refine pss_imp (pss_cons h h2) fun Dn σ H ⟨st, p⟩ => ⟨st, ?_⟩
  exact ⟨fun ρ' O' σ' H' q s' e => ⟨ρ', O', q, s', p.grow e⟩, p.rt, p.bk, p.ct, p.ex⟩
theorem j_imp {A' : AE} (h : J X B ss ρ O A) (hn : ∀ ρ O, A.nx ρ O → A'.nx ρ O) (hr : ∀ d O, A.rt d O → A'.rt d O) (hb : ∀ ρ O, A.bk ρ O → A'.bk ρ O) (hc : ∀ ρ O, A.ct ρ O → A'.ct ρ O) (hx : ∀ C f d ρ O, A.ex C f d ρ O → A'.ex C f d ρ O) : J X B ss ρ O A' :=
  pss_imp h fun Dn σ H ⟨st, p⟩ => ⟨st, fun ρ O σ H q => p.nx ρ O σ H (hn _ _ q), fun d O v H q => p.rt d O v H (hr _ _ q), fun ρ O σ H q => p.bk ρ O σ H (hb _ _ q), fun ρ O σ H q => p.ct ρ O σ H (hc _ _ q), fun C f d ρ O σ H dx v q => p.ex C f d ρ O σ H dx v (hx _ _ _ _ _ q)⟩
theorem j_continue (h : A.ct ρ O) : J1 X B (.Continue pos) ρ O A := ps_imp ps_continue fun Dn σ H ⟨st, p⟩ => p.ct ρ O σ H h st (Same.refl _)
theorem j_set {i : Nat} {x : Str} (hN : X.N.Nodup) (hi : X.N[i]? = some x) (hx : Loc X.env.scope x) (he : EV X B ρ O e d) (hs : swapsWith e (some (.Name x pos')) pos.line X.env = pure false) (hf : X.fn x = true ∨ X.env.scope.names.lookup x = some .local)
    (h : A.nx (ρ.set i (some d)) O) : J1 X B (.Assign [.Name x pos'] e pos) ρ O A :=
  ps_imp (ps_set hN hi hx he hs hf) fun Dn σ H ⟨st, p⟩ => ⟨st, fun v H1 e1 r1 => p.nx _ O _ H1 h ((st.same e1).set r1) (vis_same e1)⟩
theorem j_setN {i : Nat} {x : Str} (hN : X.N.Nodup) (hi : X.N[i]? = some x) (hx : Loc X.env.scope x) (he : EN X B ρ O e ds) (hs : swapsWith e (some (.Name x pos')) pos.line X.env = pure false) (hf : X.fn x = true ∨ X.env.scope.names.lookup x = some .local)
    (h : ∀ p, has O p = false → A.nx (ρ.set i (some (.rf p))) ((p, .lst ds) :: O)) : J1 X B (.Assign [.Name x pos'] e pos) ρ O A :=
  ps_imp (ps_set hN hi hx he hs hf) fun Dn σ H ⟨st, p⟩ => ⟨st, fun q H1 vs hp e1 hv r => by
    have op := st.m.newO hp
    have vs1 : Same (vis B.F O H) (vis B.F ((q, .lst ds) :: O) H1) := fun a o h => by
      obtain ⟨h1, h2, h3⟩ := vis_some.mp h
      have ne : a ≠ q := ne_of_none h3 hp
      exact vis_some.mpr ⟨h1, by rw [has_cons, h2, Bool.or_false]; exact beq_eq_false_iff_ne.mpr (Ne.symm ne), e1 _ _ h3⟩
    refine p.nx _ _ _ H1 (h q op) ⟨⟨fun a o hb => ?_, fun a m hm => ?_, ?_, fun a m hm => (st.m.lent a m hm).mono vs1 fun o q => e1 _ _ q⟩, ?_⟩ vs1
    · have := st.m.base a o hb
      have ne : a ≠ q := ne_of_none this.1 hp
      exact ⟨e1 _ _ this.1, by rw [has_cons, this.2, Bool.or_false]; exact beq_eq_false_iff_ne.mpr (Ne.symm ne)⟩
    · rcases List.mem_cons.mp hm with z | z
      · cases z; exact ⟨vs, hv, r⟩
      · exact (st.m.mem a m z).mono vs1 fun o q => e1 _ _ q
    · rw [List.map_cons, List.nodup_cons]
      refine ⟨fun z => ?_, st.m.nd⟩
      obtain ⟨⟨a, m⟩, hm, ea⟩ := List.mem_map.mp z
      have : has O q = true := has_mem.mpr ⟨m, by have z : a = q := ea; rw [← z]; exact hm⟩
      rw [op] at this; cases this
    · exact (st.env.mono vs1).set (.rf q)⟩
theorem j_expr (he : EG X B ρ O e d O') (h : A.nx ρ O') (hs : swapsWith e none pos.line X.env = pure false := by rfl) : J1 X B (.Expr e pos) ρ O A :=
  ps_imp (ps_expr he hs) fun Dn σ H ⟨st, p⟩ => ⟨st, fun v H1 s1 e1 r1 => p.nx ρ O' σ H1 h s1 e1⟩
theorem j_ret (he : EV X B ρ O e d) (h : A.rt d O) : J1 X B (.Return (some e) pos) ρ O A :=
  ps_imp (ps_ret he) fun Dn σ H ⟨st, p⟩ => ⟨st, fun v H1 e1 r1 => p.rt d O v H1 h (st.same e1).m r1⟩
theorem j_if {s1 s2 : List Stmt} (hc : ET X B ρ O c b1) (h1 : b1 = true → J X B s1 ρ O A) (h2 : b1 = false → J X B s2 ρ O A) : J1 X B (.If c s1 s2 pos) ρ O A := by
  cases b1 with
  | true => exact ps_imp (ps_if hc (h1 rfl) (u := fun _ _ _ => False) ⟨fun _ _ _ _ _ _ h => h.elim⟩) fun Dn σ H ⟨st, p⟩ => ⟨st, fun H1 e1 => iteT ⟨st.same e1, p.grow (vis_same e1)⟩⟩
  | false => exact ps_imp (ps_if hc (t := fun _ _ _ => False) ⟨fun _ _ _ _ _ _ h => h.elim⟩ (h2 rfl)) fun Dn σ H ⟨st, p⟩ => ⟨st, fun H1 e1 => iteF ⟨st.same e1, p.grow (vis_same e1)⟩⟩
def Vs (O : Om) (d : D) (ds : List D) : Prop := d = .lst ds ∨ ∃ a, d = .rf a ∧ (a, M.lst ds) ∈ O
def Vw (O : Om) (d : D) (ds : List D) : Prop := Vs O d ds ∨ d = .frl ds
theorem Vs.at {K : PySem.W.Frag} {H : Hp} {v : V} (w : Vs (B.L ++ O) d ds) (m : MOk K B O H) (r : Rp K (vis B.F O H) v d) : ∃ a vs, v = .ref a ∧ H a = some (.lst vs) ∧ RpL K (vis B.F O H) vs ds := by
  rcases w with rfl | ⟨a, rfl, h⟩
  · cases r with
    | lst h r => exact ⟨_, _, rfl, vis_le _ _ h, r⟩
  · cases r
    obtain ⟨vs, h1, h2⟩ := (List.mem_append.mp h).elim (m.lent _ _) (m.mem _ _)
    exact ⟨_, vs, rfl, h1, h2⟩
theorem Vw.sql {K : PySem.W.Frag} {H : Hp} {v : V} (w : Vw (B.L ++ O) d ds) (m : MOk K B O H) (r : Rp K (vis B.F O H) v d) : ∃ a vs, v = .ref a ∧ SqL K H a vs ∧ RpL K (vis B.F O H) vs ds := by
  rcases w with w | rfl
  · obtain ⟨a, vs, e, h, r⟩ := w.at m r
    exact ⟨a, vs, e, .inl (.inl h), r⟩
  · cases r with
    | frl h r => exact ⟨_, _, rfl, vis_le.seq h, r⟩
end
end DL

set_option Elab.async false
set_option linter.all false
set_option maxRecDepth 100000
set_option maxHeartbeats 2000000
namespace DL
open PySem PySem.Spec PyProof.Rows L2
def Off (sl : List Nat) (σ σ' : L2.St) : Prop := σ'.length = σ.length ∧ ∀ j, j ∉ sl → σ'[j]? = σ[j]?
theorem Off.refl (sl : List Nat) (σ : L2.St) : Off sl σ σ := ⟨rfl, fun _ _ => rfl⟩
theorem Off.trans {s1 s2 : List Nat} {a b c : L2.St} (h : Off s1 a b) (k : Off s2 b c) : Off (s1 ++ s2) a c :=
  ⟨k.1.trans h.1, fun j hj => (k.2 j fun z => hj (List.mem_append_right _ z)).trans (h.2 j fun z => hj (List.mem_append_left _ z))⟩
theorem Off.wipe {sl vs : List Nat} {σ σ' : L2.St} (h : Off sl σ σ') (hs : ∀ j ∈ sl, j ∈ vs) : L2.wipe σ' vs = L2.wipe σ vs := by
  have at_ : ∀ (σ : L2.St) (vs : List Nat) (i : Nat), (L2.wipe σ vs)[i]? = if i ∈ vs then (σ[i]?).map (fun _ => none) else σ[i]? := by
    intro σ vs i
    induction vs with
    | nil => simp [L2.wipe]
    | cons v vs ih =>
      unfold L2.wipe
      by_cases e : v = i
      · subst e
        by_cases hl : v < (L2.wipe σ vs).length
        · rw [List.getElem?_set_self hl]
          have hl' : v < σ.length := by rw [L2.wipe_length] at hl; exact hl
          simp [hl']
        · have hl' : ¬ v < σ.length := by rw [L2.wipe_length] at hl; exact hl
          rw [List.getElem?_eq_none (by simpa using hl)]
          simp [List.getElem?_eq_none (Nat.le_of_not_lt hl')]
      · rw [List.getElem?_set_ne e, ih]
        have e' : ¬ i = v := fun z => e z.symm
        simp [e']
  apply List.ext_getElem?
  intro i
  rw [at_, at_]
  by_cases hi : i ∈ vs
  · rw [if_pos hi, if_pos hi]
    by_cases hl : i < σ.length
    · have hl' : i < σ'.length := by rw [h.1]; exact hl
      simp [hl, hl']
    · have hl' : ¬ i < σ'.length := by rw [h.1]; exact hl
      simp [hl, hl']
  · rw [if_neg hi, if_neg hi]
    exact h.2 i fun z => hi (hs i z)
structure EB (X : Cx) (tg : Expr) (g : TG) (sl : List Nat) (f : D → List (Option D) → Option (List (Option D))) : Prop where
  pg : PG X tg g
  is : ∀ (B : Gd) (O : Om) (d : D) (ρ ρ' : List (Option D)) (v : V) (σ : L2.St) (H : Hp) (Q : L2.St → Hp → Prop), f d ρ = some ρ' → StOk X.K B ρ O σ H → Rp X.K (vis B.F O H) v d → (∀ σ', StOk X.K B ρ' O σ' H → Off sl σ σ' → Q σ' H) → g v σ H Q
def bName (i : Nat) : D → List (Option D) → Option (List (Option D)) := fun d ρ => some (ρ.set i (some d))
section
variable {X : Cx} {B : Gd} {ρ ρ' : List (Option D)} {O O' O1 O2 : Om} {A : AE} {a b c e : Expr} {es : List Expr} {d d1 d2 d3 : D} {ds : List D} {pos pos' : Pos} {b1 b2 : Bool} {st : Stmt} {ss rest : List Stmt}
theorem eb_name {i : Nat} {x : Str} (hN : X.N.Nodup) (hi : X.N[i]? = some x) (hx : Loc X.env.scope x) (hf : X.fn x = true ∨ X.env.scope.names.lookup x = some .local) : EB X (.Name x pos) (gName i) [i] (bName i) :=
  ⟨pg_name hN hi hx hf, fun B O d ρ ρ' v σ H Q e s r k => by
    cases e
    exact k _ (s.set r) ⟨by simp, fun j hj => List.getElem?_set_ne (fun z => hj (by simp [z]))⟩⟩
structure EBs (X : Cx) (ts : List Expr) (g : TGs) (sl : List Nat) (f : List D → List (Option D) → Option (List (Option D))) : Prop where
  pg : PGs X ts g
  is : ∀ (B : Gd) (O : Om) (ds : List D) (ρ ρ' : List (Option D)) (vs : List V) (σ : L2.St) (H : Hp) (Q : L2.St → Hp → Prop), f ds ρ = some ρ' → StOk X.K B ρ O σ H → RpL X.K (vis B.F O H) vs ds → (∀ σ', StOk X.K B ρ' O σ' H → Off sl σ σ' → Q σ' H) → g vs σ H Q
def bNil : List D → List (Option D) → Option (List (Option D)) := fun ds ρ => match ds with | [] => some ρ | _ => none
def bCons (f : D → List (Option D) → Option (List (Option D))) (g : List D → List (Option D) → Option (List (Option D))) : List D → List (Option D) → Option (List (Option D)) :=
  fun ds ρ => match ds with | [] => none | d :: ds => match f d ρ with | none => none | some ρ' => g ds ρ'
theorem ebs_nil : EBs X [] gNil [] bNil := ⟨pgs_nil, fun B O ds ρ ρ' vs σ H Q e s r k => by
  cases r with
  | nil => cases e; exact ⟨rfl, k _ s (Off.refl _ _)⟩
  | cons _ _ => cases e⟩
theorem ebs_cons {t : TG} {u : TGs} {s1 s2 : List Nat} {f g} (h1 : EB X e t s1 f) (h2 : EBs X es u s2 g) (hs : (assignEach (e :: es) X.env).map (·.2) = assign e X.env :: (assignEach es X.env).map (·.2) := by rfl) : EBs X (e :: es) (gCons t u) (s1 ++ s2) (bCons f g) :=
  ⟨pgs_cons h1.pg h2.pg hs, fun B O ds ρ ρ' vs σ H Q e s r k => by
    cases r with
    | nil => cases e
    | @cons v vs d ds rv r =>
      have e' : (match f d ρ with | none => none | some ρ1 => g ds ρ1) = some ρ' := e
      cases h : f d ρ with
      | none => rw [h] at e'; cases e'
      | some ρ1 =>
        rw [h] at e'
        exact ⟨v, vs, rfl, h1.is B O d ρ ρ1 v σ H _ h s rv fun σ1 s1 o1 => h2.is B O ds ρ1 ρ' vs σ1 H Q e' s1 r fun σ2 s2 o2 => k σ2 s2 (o1.trans o2)⟩⟩
def bTup (g : List D → List (Option D) → Option (List (Option D))) : D → List (Option D) → Option (List (Option D)) := fun d ρ => match d with | .tup ds => g ds ρ | _ => none
theorem eb_tup {k : Nat} {t : TGs} {f} {n : Nat} {sl : List Nat} (hc : X.calm = true) (h : EBs X es t sl f) (hl : ∀ ds ρ ρ', f ds ρ = some ρ' → ds.length = n) (hn : (assignEach es X.env).length = n := by rfl) (hst : (assignEach es X.env).findIdx? (·.1) = none := by rfl) :
    EB X (.Tuple es k pos) (gTup X.K n t) sl (bTup f) :=
  ⟨pg_tup hc h.pg hn hst, fun B O d ρ ρ' v σ H Q e s r k => by
    cases d with
    | tup ds =>
      cases r with
      | tup hq r => exact ⟨_, _, rfl, same_t vis_le hq, by rw [r.length]; exact hl _ _ _ e, h.is B O ds ρ ρ' _ σ H Q e s r k⟩
    | _ => cases e⟩
theorem bcons_len {f g} {n : Nat} (h : ∀ ds ρ ρ', g ds ρ = some ρ' → ds.length = n) : ∀ ds ρ ρ', bCons f g ds ρ = some ρ' → ds.length = n + 1 := fun ds ρ ρ' e => by
  cases ds with
  | nil => cases e
  | cons d ds =>
    have e' : (match f d ρ with | none => none | some ρ1 => g ds ρ1) = some ρ' := e
    cases q : f d ρ with
    | none => rw [q] at e'; cases e'
    | some ρ1 => rw [q] at e'; rw [List.length_cons, h _ _ _ e']
theorem bnil_len : ∀ (ds : List D) (ρ ρ' : List (Option D)), bNil ds ρ = some ρ' → ds.length = 0 := fun ds ρ ρ' e => by
  cases ds with
  | nil => rfl
  | cons _ _ => cases e
theorem j_asg {tg : Expr} {g : TG} {sl : List Nat} {f} (he : EV X B ρ O e d) (hg : EB X tg g sl f) (hf : f d ρ = some ρ') (h : A.nx ρ' O) (hs : swapsWithSole [tg] e pos.line X.env = pure false := by rfl) (hw : swappedStores [tg] e X.env = pure none := by rfl)
    (h1 : (assignEach [tg] X.env).map (·.2) = [assign tg X.env] := by rfl) : J1 X B (.Assign [tg] e pos) ρ O A :=
  ps_imp (ps_asg he hg.pg hs hw h1) fun Dn σ H ⟨st, p⟩ => ⟨st, fun v H1 e1 r1 => hg.is B O d ρ ρ' v σ H1 _ hf (st.same e1) r1 fun σ' s' _ => p.nx ρ' O σ' H1 h s' (vis_same e1)⟩
structure Src (K : PySem.W.Frag) (L : Om) (Hv : Hp) (J : It) (G : Om → Prop) (ds : List D) : Prop where
  goes : ∀ (i : Nat) (B : Gd) (O : Om) (H : Hp), B.L = L → i < ds.length → MOk K B O H → Same Hv (vis B.F O H) → G O → J.go i H
  stops : ∀ (B : Gd) (O : Om) (H : Hp), B.L = L → MOk K B O H → Same Hv (vis B.F O H) → G O → J.stop ds.length H
  yields : ∀ (i : Nat) (B : Gd) (O : Om) (H : Hp) (x : V) (H' : Hp), B.L = L → i < ds.length → MOk K B O H → Same Hv (vis B.F O H) → G O → J.yld i H x H' → Same H H' ∧ ∃ d, ds[i]? = some d ∧ Rp K (vis B.F O H') x d
structure EI (X : Cx) (B : Gd) (ρ : List (Option D)) (O : Om) (tg iter : Expr) (wi : TI) (G : Om → Prop) (ds : List D) : Prop where
  pi : PI X tg iter wi
  is : ∀ (σ : L2.St) (H : Hp) (R : It → Hp → Prop), StOk X.K B ρ O σ H → (∀ J H1, Same H H1 → Src X.K B.L (vis B.F O H1) J G ds → R J H1) → wi σ H R
theorem src_list {K : PySem.W.Frag} {H : Hp} {a : Addr} {v : V} (w : Vw (B.L ++ O) d ds) (m : MOk K B O H) (r : Rp K (vis B.F O H) v d) (hv : v = .ref a) : Src K B.L (vis B.F O H) (Itl K a) (fun O' => Vw (B.L ++ O') d ds) ds := by
  subst hv
  have again : ∀ {B' : Gd} {O' : Om} {H' : Hp}, B'.L = B.L → Vw (B.L ++ O') d ds → MOk K B' O' H' → Same (vis B.F O H) (vis B'.F O' H') → ∃ vs', SqL K H' a vs' ∧ RpL K (vis B'.F O' H') vs' ds := fun {B' O' H'} eL w m e => by
    rw [← eL] at w
    obtain ⟨a', vs', ea, q, r⟩ := w.sql m (r.mono e)
    cases ea
    exact ⟨vs', q, r⟩
  refine ⟨fun i B' O' H' eL hi m e g => ?_, fun B' O' H' eL m e g => ?_, fun i B' O' H' x H2 eL hi m e g y => ?_⟩
  · obtain ⟨vs, q, r⟩ := again eL g m e
    obtain ⟨v, hv, _⟩ := r.get (i := i) (d := ds[i]) (by simp [hi])
    exact ⟨vs, v, q, hv⟩
  · obtain ⟨vs, q, r⟩ := again eL g m e
    exact ⟨vs, q, by rw [r.length]; exact Nat.le_refl _⟩
  · obtain ⟨vs, q, r⟩ := again eL g m e
    obtain ⟨e2, y⟩ := y
    subst e2
    obtain ⟨v, hv, rv⟩ := r.get (i := i) (d := ds[i]) (by simp [hi])
    have ex := y vs q
    rw [hv] at ex
    cases ex
    exact ⟨Same.refl _, _, by simp [hi], rv⟩
theorem ei_list {tg iter : Expr} (hi : EV X B ρ O iter d) (w : Vw (B.L ++ O) d ds) : EI X B ρ O tg iter (iList X.K (tD X.K B ρ O d)) (fun O' => Vw (B.L ++ O') d ds) ds :=
  ⟨pi_list hi, fun σ H R st k => ⟨st, fun v H1 e1 r1 => by
    obtain ⟨a, vs, rfl, hq, rl⟩ := w.sql (st.same e1).m r1
    exact ⟨a, rfl, ⟨vs, hq⟩, k _ H1 e1 (src_list w (st.same e1).m r1 rfl)⟩⟩⟩
theorem ei_tup {tg iter : Expr} (hi : EV X B ρ O iter (.tup ds)) : EI X B ρ O tg iter (iTup X.K (tD X.K B ρ O (.tup ds))) (fun _ => True) ds :=
  ⟨pi_tup hi, fun σ H R st k => ⟨st, fun v H1 e1 r1 => by
    cases r1 with
    | @tup a vs _ hq rl =>
    refine ⟨a, rfl, ⟨vs, same_t vis_le hq⟩, k _ H1 e1 ⟨fun i B' O' H' eL hi m e g => ?_, fun B' O' H' eL m e g => ?_, fun i B' O' H' x H2 eL hi m e g y => ?_⟩⟩
    · obtain ⟨v, hv, _⟩ := rl.get (i := i) (d := ds[i]) (by simp [hi])
      exact ⟨vs, v, same_t vis_le (same_t e hq), hv⟩
    · exact ⟨vs, same_t vis_le (same_t e hq), by rw [rl.length]; exact Nat.le_refl _⟩
    · obtain ⟨e2, y⟩ := y
      subst e2
      obtain ⟨v, hv, rv⟩ := rl.get (i := i) (d := ds[i]) (by simp [hi])
      have ex := y vs (same_t vis_le (same_t e hq))
      rw [hv] at ex
      cases ex
      exact ⟨Same.refl _, _, by simp [hi], rv.mono e⟩⟩⟩
theorem ei_str {tg iter : Expr} {z : Str} (hi : EV X B ρ O iter (.str z)) : EI X B ρ O tg iter (iStr (tD X.K B ρ O (.str z))) (fun _ => True) (z.cps.toList.map fun c => D.str ⟨#[c]⟩) :=
  ⟨pi_str hi, fun σ H R st k => ⟨st, fun v H1 e1 r1 => by
    cases r1
    refine ⟨z, rfl, k _ H1 e1 ⟨fun i B' O' H' eL hi m e g => ?_, fun B' O' H' eL m e g => ?_, fun i B' O' H' x H2 eL hi m e g y => ?_⟩⟩
    · show i < z.cps.size; simpa using hi
    · show z.cps.size ≤ _; simp
    · obtain ⟨e2, c, hc, ex⟩ := y
      subst e2 ex
      refine ⟨Same.refl _, .str ⟨#[c]⟩, ?_, .str _⟩
      rw [List.getElem?_map, Array.getElem?_toList, hc]; rfl⟩⟩
def rngD (lo : Int) (n : Nat) : List D := (List.range n).map fun i : Nat => D.int (lo + (i : Int))
theorem src_range {K : PySem.W.Frag} {L : Om} {Hv : Hp} {lo : Int} {n : Nat} : Src K L Hv (Itr lo n) (fun _ => True) (rngD lo n) := by
  have hl : (rngD lo n).length = n := by simp [rngD]
  refine ⟨fun i B' O' H' eL hi m e g => ?_, fun B' O' H' eL m e g => ?_, fun i B' O' H' x H2 eL hi m e g y => ?_⟩
  · rw [hl] at hi; exact hi
  · rw [hl]; exact Nat.le_refl _
  · rw [hl] at hi
    obtain ⟨e2, ex⟩ := y
    subst e2 ex
    exact ⟨Same.refl _, .int (lo + i), by simp [rngD, hi], .int _⟩
theorem ei_range1 {tg na : Expr} {p p' : Pos} {n : Int} (hgl : Gl X "range") (hm : X.mg "range" = none) (hi : EA X B ρ O [na] [.int n]) (hn : -(2 ^ 62) ≤ n ∧ n < 2 ^ 62) (hse : starEach [na] X.env = [(false, eval na X.env)] := by rfl) :
    EI X B ρ O tg (.Call (.Name "range" p) [na] [] p') (iRng1 (tA X.K B ρ O [.int n])) (fun _ => True) (rngD 0 n.toNat) :=
  ⟨pi_range1 hgl hm hi hse, fun σ H R st k => ⟨st, fun vs H1 e1 r1 => by
    cases r1 with
    | cons h r => cases h; cases r; exact ⟨n, rfl, hn.1, hn.2, k _ H1 e1 src_range⟩⟩⟩
theorem ei_range2 {tg ma na : Expr} {p p' : Pos} {m n : Int} (hgl : Gl X "range") (hm : X.mg "range" = none) (hi : EA X B ρ O [ma, na] [.int m, .int n]) (hn : -(2 ^ 62) ≤ m ∧ m < 2 ^ 62 ∧ -(2 ^ 62) ≤ n ∧ n < 2 ^ 62)
    (hse : starEach [ma, na] X.env = [(false, eval ma X.env), (false, eval na X.env)] := by rfl) (hse2 : starEach [na] X.env = [(false, eval na X.env)] := by rfl) :
    EI X B ρ O tg (.Call (.Name "range" p) [ma, na] [] p') (iRng2 (tA X.K B ρ O [.int m, .int n])) (fun _ => True) (rngD m (n - m).toNat) :=
  ⟨pi_range2 hgl hm hi hse hse2, fun σ H R st k => ⟨st, fun vs H1 e1 r1 => by
    cases r1 with
    | cons h r =>
      cases h
      cases r with
      | cons h r => cases h; cases r; exact ⟨m, n, rfl, hn, k _ H1 e1 src_range⟩⟩⟩
def tAny (X : Cx) (B : Gd) (ss : List Stmt) : TS := fun Dn σ H => ∃ ρ O A, J X B ss ρ O A ∧ tW X.K B ρ O A Dn σ H
theorem any_ok : PSs X ss (tAny X B ss) := ⟨fun pins s σ H Dn I ⟨ρ, O, A, j, q⟩ => j.run pins s σ H Dn I q⟩
theorem j_for {iter tg : Expr} {body : List Stmt} {wi : TI} {sl : List Nat} {f} {g : TG} {G : Om → Prop} (R : Nat → List (Option D) → Om → Prop)
    (hp : PassesOwn (model X.prog X.w) X.A X.env X.xe) (hc : X.calm = true) (hi : EI X B ρ O tg iter wi G ds) (hg : EB X tg g sl f)
    (hv : ∀ i ρ O, R i ρ O → G O)
    (h0 : ∃ ρ0, Wk ρ0 ρ ∧ R 0 ρ0 O)
    (hs : ∀ i d ρ O, ds[i]? = some d → R i ρ O → ∃ ρ', f d ρ = some ρ' ∧ J X B body ρ' O { A with nx := fun ρ2 O2 => ∃ ρ3, Wk ρ3 ρ2 ∧ R (i + 1) ρ3 O2, ct := fun ρ2 O2 => ∃ ρ3, Wk ρ3 ρ2 ∧ R (i + 1) ρ3 O2, bk := A.nx })
    (hd : ∀ ρ O, R ds.length ρ O → A.nx ρ O)
    (hfs : ∀ x, foldedSetIterable iter X.env x = pure x := by intro _; rfl) : J1 X B (.For tg iter body [] pos) ρ O A := by
  refine ps_imp (ps_for hp hc hi.pi hg.pg (any_ok (B := B)) hfs) fun Dn σ H ⟨st, p⟩ => hi.is σ H _ st fun J H1 e1 S => ?_
  obtain ⟨ρ0, w0, h0⟩ := h0
  have s1 := (st.same e1).weak w0
  refine ⟨fun i m σ' H' => m = ds.length - i ∧ i ≤ ds.length ∧ ∃ ρ' O', R i ρ' O' ∧ StOk X.K B ρ' O' σ' H' ∧ Same (vis B.F O H1) (vis B.F O' H'), ⟨ds.length, by simp, Nat.zero_le _, ρ0, O, h0, s1, Same.refl _⟩, ?_⟩
  rintro i m σ' H' ⟨rfl, hi', ρ', O', hr, s', e'⟩
  by_cases hlt : i < ds.length
  · refine .inr ⟨S.goes i B O' H' rfl hlt s'.m e' (hv _ _ _ hr), fun σ2 H2 => ∃ ρ2 O2, R (i + 1) ρ2 O2 ∧ StOk X.K B ρ2 O2 σ2 H2 ∧ Same (vis B.F O H1) (vis B.F O2 H2), fun σ2 H2 ⟨ρ2, O2, h2, s2, e2⟩ => ⟨ds.length - (i + 1), by omega, rfl, hlt, ρ2, O2, h2, s2, e2⟩, fun x H2 y => ?_⟩
    obtain ⟨e2, d, hd', rv⟩ := S.yields i B O' H' x H2 rfl hlt s'.m e' (hv _ _ _ hr) y
    obtain ⟨ρ1, hf, j⟩ := hs i d ρ' O' hd' hr
    refine hg.is B O' d ρ' ρ1 x σ' H2 _ hf (s'.same e2) rv fun σ2 s2 _ => ⟨ρ1, O', _, j, s2, ?_⟩
    have e'' := e'.trans (vis_same (F := B.F) (O := O') e2)
    exact ⟨fun ρ3 O3 σ3 H3 ⟨ρ4, w, h4⟩ s3 e3 => ⟨ρ4, O3, h4, s3.weak w, e''.trans e3⟩, p.rt, fun ρ3 O3 σ3 H3 h3 s3 e3 => p.nx ρ3 O3 σ3 H3 h3 s3 ((vis_same e1).trans (e''.trans e3)), fun ρ3 O3 σ3 H3 ⟨ρ4, w, h4⟩ s3 e3 => ⟨ρ4, O3, h4, s3.weak w, e''.trans e3⟩, fun C f d ρ3 O3 σ3 H3 dx v h3 s3 e3 => p.ex C f d ρ3 O3 σ3 H3 dx v h3 s3 ((vis_same e1).trans (e''.trans e3))⟩
  · have e : i = ds.length := by omega
    subst e
    exact .inl ⟨S.stops B O' H' rfl s'.m e' (hv _ _ _ hr), p.nx ρ' O' σ' H' (hd ρ' O' hr) s' ((vis_same e1).trans e')⟩
theorem has_keys {O O' : Om} (h : O.map (·.1) = O'.map (·.1)) (a : Addr) : has O a = has O' a := by
  have : ∀ O : Om, has O a = (O.map (·.1)).contains a := fun O => by
    unfold has
    induction O with
    | nil => rfl
    | cons q O ih => rw [List.any_cons, ih, List.map_cons, List.contains_cons, Bool.beq_comm]
  rw [this, this, h]
theorem vis_keys {O O' : Om} {F : Addr → Bool} {H : Hp} (h : O.map (·.1) = O'.map (·.1)) : vis F O H = vis F O' H := by
  funext a
  unfold vis
  rw [has_keys h a]
theorem wipe_wipe (σ : L2.St) (vs : List Nat) : L2.wipe (L2.wipe σ vs) vs = L2.wipe σ vs := by
  have z : ∀ (us : List Nat), (∀ j ∈ us, j ∈ vs) → L2.wipe (L2.wipe σ vs) us = L2.wipe σ vs := by
    intro us hu
    induction us with
    | nil => rfl
    | cons u us ih =>
      show (L2.wipe (L2.wipe σ vs) us).set u none = L2.wipe σ vs
      rw [show L2.wipe (L2.wipe σ vs) us = L2.wipe σ vs from ih fun j hj => hu j (List.mem_cons_of_mem _ hj)]
      have hm := hu u List.mem_cons_self
      have : ∀ (ws : List Nat), u ∈ ws → (L2.wipe σ ws).set u none = L2.wipe σ ws := by
        intro ws
        induction ws with
        | nil => intro h; simp at h
        | cons w ws ih2 =>
          intro h
          unfold L2.wipe
          by_cases e : w = u
          · subst e; rw [List.set_set]
          · rw [List.set_comm _ _ e, ih2 (by rcases List.mem_cons.mp h with z | z; exact absurd z.symm e; exact z)]
      exact this vs hm
  exact z vs fun _ h => h
def wipeD (ρ : List (Option D)) : List Nat → List (Option D)
  | [] => ρ
  | v :: vs => (wipeD ρ vs).set v none
theorem wipeD_env {K : PySem.W.Frag} {Hv : Hp} {σ : L2.St} (h : EnvR K Hv σ ρ) (vs : List Nat) : EnvR K Hv (L2.wipe σ vs) (wipeD ρ vs) := by
  induction vs with
  | nil => exact h
  | cons v vs ih =>
    refine ⟨by unfold L2.wipe wipeD; rw [List.length_set, List.length_set]; exact ih.1, fun i d e => ?_⟩
    unfold wipeD at e
    by_cases hi : v = i
    · subst hi
      by_cases hl : v < (wipeD ρ vs).length
      · rw [List.getElem?_set_self hl] at e; cases e
      · rw [List.getElem?_eq_none (by simpa using hl)] at e; cases e
    · rw [List.getElem?_set_ne hi] at e
      obtain ⟨u, a, b⟩ := ih.2 i d e
      exact ⟨u, by unfold L2.wipe; rw [List.getElem?_set_ne hi]; exact a, b⟩
abbrev ETs (X : Cx) (B : Gd) (ρ : List (Option D)) (O : Om) (ifs : List Expr) (b : Bool) : Prop := PTs X ifs (tT X.K B ρ O b)
theorem ets_nil : ETs X B ρ O [] true := ⟨fun pins s σ H Q I ⟨st, k⟩ => pts_nil.run pins s σ H Q I (k H (Same.refl H))⟩
theorem ets_one (h : ET X B ρ O c b1) : ETs X B ρ O [c] b1 := pts_one h
def tAnyTs (Xs : Cx → Prop) (ifs : List Expr) : TT := fun σ H Q => ∃ (K : PySem.W.Frag) (B : Gd) (ρ : List (Option D)) (O : Om) (b : Bool), (∀ X, Xs X → X.K = K ∧ ETs X B ρ O ifs b) ∧ tT K B ρ O b σ H Q
def tAnyE (Xs : Cx → Prop) (e : Expr) : TE := fun σ H Q => ∃ (K : PySem.W.Frag) (B : Gd) (ρ : List (Option D)) (O : Om) (d : D), (∀ X, Xs X → X.K = K ∧ EV X B ρ O e d) ∧ tD K B ρ O d σ H Q
theorem anyTs_ok {Xs : Cx → Prop} {ifs : List Expr} (h : Xs X) : PTs X ifs (tAnyTs Xs ifs) := ⟨fun pins s σ H Q I ⟨K, B, ρ, O, b, j, q⟩ => by
  obtain ⟨ek, jj⟩ := j X h
  subst ek
  exact jj.run pins s σ H Q I q⟩
theorem anyE_ok {Xs : Cx → Prop} (h : Xs X) : PE X e (tAnyE Xs e) := ⟨fun pins s σ H Q I ⟨K, B, ρ, O, d, j, q⟩ => by
  obtain ⟨ek, jj⟩ := j X h
  subst ek
  exact jj.run pins s σ H Q I q⟩
def Blk (X : Cx) (scope : Scope) : Cx → Prop := fun X' => ∃ (s : Shared) (H : Hp) (C : Addr) (cl : List (Str × Addr)) (fp : List Addr), X' = X.blk s H scope (compEnvC scope cl C X.env) fp
def Gd.hid (B : Gd) (D : Addr) (H : Hp) (O : Om) (h1 : ∀ a, B.F a = true → ∃ o, B.Hb a = some o) (h2 : ∃ o, H D = some o) (h3 : ∀ a o, B.Hb a = some o → H a = some o ∧ has O a = false) (h4 : has O D = false) : Gd :=
  ⟨fun a => B.F a || a == D, fun a => if has O a = true then none else H a, B.W, B.L, fun a h => by
    rw [Bool.or_eq_true] at h
    rcases h with h | h
    · obtain ⟨o, e⟩ := h1 a h
      obtain ⟨q1, q2⟩ := h3 a o e
      exact ⟨o, by rw [q2]; exact q1⟩
    · have e : a = D := beq_iff_eq.mp h
      subst e
      obtain ⟨o, q⟩ := h2
      exact ⟨o, by rw [h4]; exact q⟩, fun a m h => by rw [B.lF a m h]; rfl⟩
theorem lcW_imp {α : Type} {xs : List α} {h : α → D} {pr : α → Bool} {el : α → D} {elt iter tg : Expr} {ifs : List Expr} {scope : Scope} {own : List (Str × Nat)} {wi : TI} {G : Om → Prop} {g : TG} {sl : List Nat} {f}
    (hc : X.calm = true) (hN : X.N.Nodup) (hi : EI X B ρ O tg iter wi G (xs.map h)) (hG : G O) (ok : BlkOk X.N X.env.scope scope own)
    (hg : ∀ X', Blk X scope X' → EB X' tg g sl f) (hsl : ∀ j ∈ sl, j ∈ own.map (·.2))
    (hb : ∀ x ∈ xs, ∃ ρ', f (h x) (wipeD ρ (own.map (·.2))) = some ρ' ∧ (∀ X' B', B'.L = B.L → Blk X scope X' → ETs X' B' ρ' O ifs (pr x)) ∧ (pr x = true → ∀ X' B', B'.L = B.L → Blk X scope X' → EV X' B' ρ' O elt (el x)))
    (hz : xs.length < sizeLine) (σ : L2.St) (H : Hp) (Q : VK) (hq : tN X.K B ρ O ((xs.filter pr).map el) σ H Q) :
    tLc wi g (tAnyTs (Blk X scope) ifs) (tAnyE (Blk X scope) elt) (own.map (·.2)) σ H Q := by
  obtain ⟨st, k⟩ := hq
  refine hi.is σ H _ st fun J H1 e1 S D hD => ?_
  have s1 := st.same e1
  have oD := s1.m.newO hD
  have fD := s1.m.newF hD
  -- what holds at a turn: all that stood, and the new list's items known without it
  let Inv : Nat → Hp → Prop := fun i H' => Same H1 H' ∧ ∃ acc, H' D = some (.lst acc) ∧ RpL X.K (vis B.F ((D, .lst []) :: O) H') acc (((xs.take i).filter pr).map el)
  have visD : ∀ {H' : Hp}, vis B.F ((D, .lst []) :: O) H' = fun a => if (B.F a || a == D || has O a) = true then none else H' a := fun {H'} => by
    funext a
    unfold vis
    rw [has_cons, Bool.beq_comm (a := D), Bool.or_assoc]
  have keep : ∀ {H' : Hp}, Same H1 H' → Same (vis B.F O H1) (vis B.F ((D, .lst []) :: O) H') := fun {H'} e a o h => by
    obtain ⟨h1, h2, h3⟩ := vis_some.mp h
    have ne : a ≠ D := ne_of_none h3 hD
    exact vis_some.mpr ⟨h1, by rw [has_cons, h2, Bool.or_false]; exact beq_eq_false_iff_ne.mpr (Ne.symm ne), e _ _ h3⟩
  have hid : ∀ {H' : Hp} (e : Same H1 H') (hd : ∃ o, H' D = some o), ∃ B' : Gd, B'.L = B.L ∧ (∀ H2, vis B'.F O H2 = vis B.F ((D, .lst []) :: O) H2) ∧ StOk X.K B' (wipeD ρ (own.map (·.2))) O (L2.wipe σ (own.map (·.2))) H' := fun {H'} e hd => by
    have b3 : ∀ a o, B.Hb a = some o → H' a = some o ∧ has O a = false := fun a o q => ⟨e _ _ (s1.m.base a o q).1, (s1.m.base a o q).2⟩
    have ev : ∀ H2, vis (B.hid D H' O B.ok hd b3 oD).F O H2 = vis B.F ((D, .lst []) :: O) H2 := fun H2 => by rw [visD]; rfl
    refine ⟨B.hid D H' O B.ok hd b3 oD, rfl, ev, ⟨⟨fun a o q => ?_, fun a m hm => ?_, s1.m.nd, fun a m hm => ?_⟩, ?_⟩⟩
    · have q' : (if has O a = true then none else H' a) = some o := q
      cases ha : has O a with
      | true => rw [ha, if_pos rfl] at q'; cases q'
      | false => rw [ha, if_neg Bool.false_ne_true] at q'; exact ⟨q', rfl⟩
    · rw [ev]
      exact (s1.m.mem a m hm).mono (keep e) fun o q => e _ _ q
    · rw [ev]
      exact (s1.m.lent a m hm).mono (keep e) fun o q => e _ _ q
    · rw [ev]
      exact wipeD_env (s1.env.mono (keep e)) _
  refine ⟨fun i m H' => m = xs.length - i ∧ i ≤ xs.length ∧ Inv i H', ⟨xs.length, by simp, Nat.zero_le _, same_new hD, [], upd_same, .nil⟩, ?_⟩
  rintro i m H' ⟨rfl, hi', eS, acc, hA, rA⟩
  have hlx : (xs.map h).length = xs.length := List.length_map ..
  obtain ⟨B', eL, ev, sB⟩ := hid eS ⟨_, hA⟩
  have eB : Same (vis B.F O H1) (vis B'.F O H') := by rw [ev]; exact keep eS
  by_cases hlt : i < xs.length
  · refine .inr ⟨S.goes i B' O H' eL (by rw [hlx]; exact hlt) sB.m eB hG, fun H2 => Inv (i + 1) H2, fun H2 q => ⟨xs.length - (i + 1), by omega, rfl, hlt, q⟩, fun x H2 y => ?_⟩
    obtain ⟨e2, d, hd', rv⟩ := S.yields i B' O H' x H2 eL (by rw [hlx]; exact hlt) sB.m eB hG y
    have ed : d = h (xs[i]) := by
      rw [List.getElem?_map, List.getElem?_eq_getElem hlt] at hd'
      exact (Option.some.inj hd').symm
    subst ed
    obtain ⟨ρ', hf, ht, he⟩ := hb (xs[i]) (List.getElem_mem hlt)
    have hK : ∀ X', Blk X scope X' → X'.K = X.K := fun X' ⟨s, H, C, cl, fp, e⟩ => by rw [e]
    refine (hg (X.blk X.s_0 H scope (compEnvC scope [] 0 X.env) []) ⟨X.s_0, H, 0, [], [], rfl⟩).is B' O _ _ ρ' x _ H2 _ hf (sB.same e2) rv fun σ2 s2 off => ⟨(off.wipe hsl).trans (wipe_wipe _ _), ?_⟩
    refine ⟨X.K, B', ρ', O, pr xs[i], fun X' hX' => ⟨hK X' hX', ht X' B' eL hX'⟩, s2, fun H3 e3 => ?_⟩
    have tk : xs.take (i + 1) = xs.take i ++ [xs[i]] := by rw [List.take_succ, List.getElem?_eq_getElem hlt]; rfl
    have eS3 : Same H1 H3 := (eS.trans e2).trans e3
    have la : acc.length < sizeLine := by
      rw [rA.length, List.length_map]
      have := List.length_filter_le pr (xs.take i)
      rw [List.length_take] at this
      omega
    cases hp : pr xs[i] with
    | false =>
      refine iteF ⟨eS3, acc, e3 _ _ (e2 _ _ hA), ?_⟩
      rw [tk, List.filter_append]
      have : List.filter pr [xs[i]] = [] := by simp [hp]
      rw [this, List.append_nil]
      exact rA.mono (vis_same (e2.trans e3))
    | true =>
      refine iteT ⟨X.K, B', ρ', O, el xs[i], fun X' hX' => ⟨hK X' hX', he hp X' B' eL hX'⟩, s2.same e3, fun v H4 e4 r4 => ⟨acc, e4 _ _ (e3 _ _ (e2 _ _ hA)), la, ?_⟩⟩
      have up : vis B.F ((D, .lst []) :: O) (upd H4 D (.lst (acc ++ [v]))) = vis B.F ((D, .lst []) :: O) H4 := by
        rw [visD, visD]
        funext a
        by_cases q : a = D
        · subst q; simp
        · rw [upd_ne q]
      refine ⟨fun a o q => ?_, acc ++ [v], upd_same, ?_⟩
      · rw [upd_ne (ne_of_none q hD)]
        exact e4 _ _ (eS3 _ _ q)
      · rw [up, tk, List.filter_append]
        have : List.filter pr [xs[i]] = [xs[i]] := by simp [hp]
        rw [this, List.map_append]
        refine (rA.mono (vis_same ((e2.trans e3).trans e4))).append (.cons ?_ .nil)
        rw [← ev]
        exact r4
  · have e : i = xs.length := by omega
    subst e
    refine .inl ⟨by have q := S.stops B' O H' eL sB.m eB hG; rw [hlx] at q; exact q, k D H' acc (e1.free hD) (e1.trans eS) hA ?_⟩
    rw [List.take_length] at rA
    rw [show vis B.F ((D, .lst ((xs.filter pr).map el)) :: O) H' = vis B.F ((D, .lst []) :: O) H' from vis_keys rfl]
    exact rA
theorem en_lcW {α : Type} {xs : List α} {h : α → D} {pr : α → Bool} {el : α → D} {elt iter tg : Expr} {ifs : List Expr} {scope : Scope} {own : List (Str × Nat)} {wi : TI} {G : Om → Prop} {g : TG} {sl : List Nat} {f}
    (hc : X.calm = true) (hN : X.N.Nodup) (hi : EI X B ρ O tg iter wi G (xs.map h)) (hG : G O) (ok : BlkOk X.N X.env.scope scope own)
    (hg : ∀ X', Blk X scope X' → EB X' tg g sl f) (hsl : ∀ j ∈ sl, j ∈ own.map (·.2))
    (hb : ∀ x ∈ xs, ∃ ρ', f (h x) (wipeD ρ (own.map (·.2))) = some ρ' ∧ (∀ X' B', B'.L = B.L → Blk X scope X' → ETs X' B' ρ' O ifs (pr x)) ∧ (pr x = true → ∀ X' B', B'.L = B.L → Blk X scope X' → EV X' B' ρ' O elt (el x)))
    (hz : xs.length < sizeLine) (hs : ∀ x, foldedSetIterable iter X.env x = pure x := by intro _; rfl) :
    EN X B ρ O (.ListComp elt [⟨tg, iter, ifs, 0⟩] scope pos) ((xs.filter pr).map el) :=
  pe_imp (pe_lc (own := own) (g := g) (tt := tAnyTs (Blk X scope) ifs) (te := tAnyE (Blk X scope) elt) hc hN hi.pi ok (fun s H C cl fp => (hg _ ⟨s, H, C, cl, fp, rfl⟩).pg) (fun s H C cl fp => anyTs_ok ⟨s, H, C, cl, fp, rfl⟩) (fun s H C cl fp => anyE_ok ⟨s, H, C, cl, fp, rfl⟩) hs) fun σ H Q q => lcW_imp hc hN hi hG ok hg hsl hb hz σ H Q q
theorem j_setLc {α : Type} {xs : List α} {h : α → D} {pr : α → Bool} {el : α → D} {elt iter tg : Expr} {ifs : List Expr} {scope : Scope} {own : List (Str × Nat)} {wi : TI} {G : Om → Prop} {g : TG} {sl : List Nat} {f}
    (hc : X.calm = true) (hN : X.N.Nodup) (hi : EI X B ρ O tg iter wi G (xs.map h)) (hG : G O) (ok : BlkOk X.N X.env.scope scope own)
    (hg : ∀ X', Blk X scope X' → EB X' tg g sl f) (hsl : ∀ j ∈ sl, j ∈ own.map (·.2))
    (hb : ∀ x ∈ xs, ∃ ρ', f (h x) (wipeD ρ (own.map (·.2))) = some ρ' ∧ (∀ X' B', B'.L = B.L → Blk X scope X' → ETs X' B' ρ' O ifs (pr x)) ∧ (pr x = true → ∀ X' B', B'.L = B.L → Blk X scope X' → EV X' B' ρ' O elt (el x)))
    (hz : xs.length < sizeLine) {i : Nat} {y : Str} {py : Pos} (hy : X.N[i]? = some y) (hyl : X.env.scope.names.lookup y = some .local) (hsw : swapsWith (.ListComp elt [⟨tg, iter, ifs, 0⟩] scope pos') (some (.Name y py)) pos.line X.env = pure true) {es : List D} (hes : (xs.filter pr).map el = es) (hnx : A.nx (ρ.set i (some (.lst es))) O) (hs : ∀ x, foldedSetIterable iter X.env x = pure x := by intro _; rfl) :
    J1 X B (.Assign [.Name y py] (.ListComp elt [⟨tg, iter, ifs, 0⟩] scope pos') pos) ρ O A :=
  by
  subst hes
  exact ps_imp (ps_setLc (own := own) (g := g) (tt := tAnyTs (Blk X scope) ifs) (te := tAnyE (Blk X scope) elt) hc hN hy hyl hsw hi.pi ok (fun s H C cl fp => (hg _ ⟨s, H, C, cl, fp, rfl⟩).pg) (fun s H C cl fp => anyTs_ok ⟨s, H, C, cl, fp, rfl⟩) (fun s H C cl fp => anyE_ok ⟨s, H, C, cl, fp, rfl⟩) hs) fun Dn σ H ⟨st, p⟩ => lcW_imp hc hN hi hG ok hg hsl hb hz σ H _ ⟨st, fun q H1 vs hp e1 hv r => by
    have fp := st.m.newF hp
    have op := st.m.newO hp
    have r' : Rp X.K (vis B.F O H1) (.ref q) (.lst ((xs.filter pr).map el)) := .lst (vis_some.mpr ⟨fp, op, hv⟩) (r.mono fun a o h => by
      obtain ⟨h1, h2, h3⟩ := vis_some.mp h
      rw [has_cons, Bool.or_eq_false_iff] at h2
      exact vis_some.mpr ⟨h1, h2.2, h3⟩)
    exact p.nx _ O _ H1 hnx ((st.same e1).set r') (vis_same e1)⟩
end
end DL

set_option Elab.async false
set_option linter.all false
set_option maxRecDepth 100000
set_option maxHeartbeats 2000000
namespace DL
open PySem PySem.Spec PyProof.Rows L2
section
variable {X : Cx} {B : Gd} {ρ ρ' : List (Option D)} {O O' O1 O2 : Om} {A : AE} {a b c e o : Expr} {es : List Expr} {d d1 d2 d3 : D} {ds : List D} {pos pos' p apos : Pos} {b1 b2 : Bool} {st : Stmt} {ss rest : List Stmt} {x : Str}
theorem ev_bltn {v : V} {u : Value} (hg : Gl X x) (hm : X.mg x = none) (hv : bootBuiltins x = some u) (r : RelV v u) (rp : ∀ H, Rp X.K H v d) (hn : x ≠ "__name__" := by decide) (hd : (x == ("__debug__" : Str)) = false := by decide) : EV X B ρ O (.Name x pos) d :=
  pe_imp (pe_bltn hg hm hv r hn hd) fun σ H Q ⟨st, k⟩ => k v H (Same.refl H) (rp _)
def RC (K : PySem.W.Frag) (B : Gd) (O : Om) (r : List V → Hp → VK → Prop) (ds : List D) (d : D) : Prop :=
  ∀ (xs : List V) (H : Hp) (Q : VK), MOk K B O H → RpL K (vis B.F O H) xs ds → (∀ v H', Same H H' → Rp K (vis B.F O H') v d → Q v H') → r xs H Q
def RCN (K : PySem.W.Frag) (B : Gd) (O : Om) (r : List V → Hp → VK → Prop) (ds es : List D) : Prop :=
  ∀ (xs : List V) (H : Hp) (Q : VK), MOk K B O H → RpL K (vis B.F O H) xs ds → (∀ p H' vs, H p = none → Same H H' → H' p = some (.lst vs) → RpL K (vis B.F ((p, .lst es) :: O) H') vs es → Q (.ref p) H') → r xs H Q
theorem call_rc {r : List V → Hp → VK → Prop} (hr : RC X.K B O r ds d) (σ : L2.St) (H : Hp) (Q : VK) (h : tD X.K B ρ O d σ H Q) : tCB r (tA X.K B ρ O ds) σ H Q := by
  obtain ⟨st, k⟩ := h
  exact ⟨st, fun vs H1 e1 r1 => hr vs H1 Q (st.same e1).m r1 fun v H2 e2 r2 => k v H2 (e1.trans e2) r2⟩
theorem call_rcn {r : List V → Hp → VK → Prop} {es : List D} (hr : RCN X.K B O r ds es) (σ : L2.St) (H : Hp) (Q : VK) (h : tN X.K B ρ O es σ H Q) : tCB r (tA X.K B ρ O ds) σ H Q := by
  obtain ⟨st, k⟩ := h
  exact ⟨st, fun vs H1 e1 r1 => hr vs H1 Q (st.same e1).m r1 fun p H2 ws hp e2 hq r2 => k p H2 ws (e1.free hp) (e1.trans e2) hq r2⟩
theorem ev_callB {r : List V → Hp → VK → Prop} {id : String} (hc : CallR X (.builtin id) r) (hr : RC X.K B O r ds d) (hg : Gl X x) (hm : X.mg x = none) (hv : bootBuiltins x = some (.builtin id)) (ha : EA X B ρ O (e :: es) ds) (hn : x ≠ "__name__" := by decide) (hdb : (x == ("__debug__" : Str)) = false := by decide)
    (he : starEach (e :: es) X.env = (false, eval e X.env) :: starEach es X.env := by rfl) (hpl : (backTo pos (starEach es X.env)).any (·.1) = false := by rfl) : EV X B ρ O (.Call (.Name x p) (e :: es) [] pos) d :=
  pe_imp (pe_callB hc hg hm hv ha hn hdb he hpl) (call_rc hr)
theorem ev_callTy {r : List V → Hp → VK → Prop} {T : String} (hc : CallR X (.type T) r) (hr : RC X.K B O r ds d) (hg : Gl X x) (hm : X.mg x = none) (hv : bootBuiltins x = some (.type T)) (ha : EA X B ρ O (e :: es) ds) (hn : x ≠ "__name__" := by decide) (hdb : (x == ("__debug__" : Str)) = false := by decide)
    (he : starEach (e :: es) X.env = (false, eval e X.env) :: starEach es X.env := by rfl) (hpl : (backTo pos (starEach es X.env)).any (·.1) = false := by rfl) : EV X B ρ O (.Call (.Name x p) (e :: es) [] pos) d :=
  pe_imp (pe_callTy hc hg hm hv ha hn hdb he hpl) (call_rc hr)
theorem en_callTy {r : List V → Hp → VK → Prop} {T : String} {ds' : List D} (hc : CallR X (.type T) r) (hr : RCN X.K B O r ds ds') (hg : Gl X x) (hm : X.mg x = none) (hv : bootBuiltins x = some (.type T)) (ha : EA X B ρ O (e :: es) ds) (hn : x ≠ "__name__" := by decide) (hdb : (x == ("__debug__" : Str)) = false := by decide)
    (he : starEach (e :: es) X.env = (false, eval e X.env) :: starEach es X.env := by rfl) (hpl : (backTo pos (starEach es X.env)).any (·.1) = false := by rfl) : EN X B ρ O (.Call (.Name x p) (e :: es) [] pos) ds' :=
  pe_imp (pe_callTy hc hg hm hv ha hn hdb he hpl) (call_rcn hr)
theorem en_callB {r : List V → Hp → VK → Prop} {id : String} {ds' : List D} (hc : CallR X (.builtin id) r) (hr : RCN X.K B O r ds ds') (hg : Gl X x) (hm : X.mg x = none) (hv : bootBuiltins x = some (.builtin id)) (ha : EA X B ρ O (e :: es) ds) (hn : x ≠ "__name__" := by decide) (hdb : (x == ("__debug__" : Str)) = false := by decide)
    (he : starEach (e :: es) X.env = (false, eval e X.env) :: starEach es X.env := by rfl) (hpl : (backTo pos (starEach es X.env)).any (·.1) = false := by rfl) : EN X B ρ O (.Call (.Name x p) (e :: es) [] pos) ds' :=
  pe_imp (pe_callB hc hg hm hv ha hn hdb he hpl) (call_rcn hr)
theorem new_same {K : PySem.W.Frag} {H : Hp} (m : MOk K B O H) {vs : List V} (r : RpL K (vis B.F O H) vs ds) {Q : VK} (k : ∀ p H' vs, H p = none → Same H H' → H' p = some (.lst vs) → RpL K (vis B.F ((p, .lst ds) :: O) H') vs ds → Q (.ref p) H') :
    ∀ l, H l = none → Q (.ref l) (upd H l (.lst vs)) := fun l hl => k l _ vs hl (same_new hl) upd_same (new_vis m hl r _)
theorem vw_rp {K : PySem.W.Frag} {H : Hp} {xs : List V} (w : Vw (B.L ++ O) d ds) (m : MOk K B O H) (r : RpL K (vis B.F O H) xs [d]) : ∃ a vs, xs = [.ref a] ∧ SqL K H a vs ∧ RpL K (vis B.F O H) vs ds := by
  cases r with
  | cons h r =>
    cases r
    obtain ⟨a, vs, e, q, rl⟩ := w.sql m h
    exact ⟨a, vs, by rw [e], q, rl⟩
def Vq (O : Om) (d : D) (ds : List D) : Prop := Vw O d ds ∨ d = .tup ds
theorem Vq.sq {K : PySem.W.Frag} {H : Hp} {v : V} (w : Vq (B.L ++ O) d ds) (m : MOk K B O H) (r : Rp K (vis B.F O H) v d) : ∃ a vs, v = .ref a ∧ (SqL K H a vs ∨ SqT K H a vs) ∧ RpL K (vis B.F O H) vs ds := by
  rcases w with w | rfl
  · obtain ⟨a, vs, e, q, rl⟩ := w.sql m r
    exact ⟨a, vs, e, .inl q, rl⟩
  · cases r with
    | tup h r => exact ⟨_, _, rfl, .inr (same_t vis_le h), r⟩
theorem vq_rp {K : PySem.W.Frag} {H : Hp} {xs : List V} (w : Vq (B.L ++ O) d ds) (m : MOk K B O H) (r : RpL K (vis B.F O H) xs [d]) : ∃ a vs, xs = [.ref a] ∧ (SqL K H a vs ∨ SqT K H a vs) ∧ RpL K (vis B.F O H) vs ds := by
  cases r with
  | cons h r =>
    cases r
    obtain ⟨a, vs, e, q, rl⟩ := w.sq m h
    exact ⟨a, vs, by rw [e], q, rl⟩
theorem rc_len {K : PySem.W.Frag} (w : Vq (B.L ++ O) d ds) : RC K B O (fun xs H Q => ∃ p ys, xs = [.ref p] ∧ (SqL K H p ys ∨ SqT K H p ys) ∧ Q (.int ys.length) H) [d] (.int ds.length) := fun xs H Q m r k => by
  obtain ⟨a, vs, e, q, rl⟩ := vq_rp w m r
  exact ⟨a, vs, e, q, by rw [rl.length]; exact k _ H (Same.refl H) (.int _)⟩
theorem rc_lenS {z : Str} {K : PySem.W.Frag} (hz : z.length ≤ sizeLine) : RC K B O (fun xs H Q => ∃ z, xs = [.str z] ∧ z.length ≤ sizeLine ∧ Q (.int z.length) H) [.str z] (.int z.length) := fun xs H Q m r k => by
  cases r with
  | cons h r => cases r; cases h; exact ⟨z, rfl, hz, k _ H (Same.refl H) (.int _)⟩
theorem rc_int {i : Int} {K : PySem.W.Frag} : RC K B O (fun xs H Q => (∃ i, xs = [.int i] ∧ Q (.int i) H) ∨ ∃ k, xs = [.bl k] ∧ Q (.int (if k then 1 else 0)) H) [.int i] (.int i) := fun xs H Q m r k => by
  cases r with
  | cons h r => cases r; cases h; exact .inl ⟨i, rfl, k _ H (Same.refl H) (.int _)⟩
theorem rcn_list {K : PySem.W.Frag} (w : Vq (B.L ++ O) d ds) : RCN K B O (fun xs H Q => ∃ p ys, xs = [.ref p] ∧ (SqL K H p ys ∨ SqT K H p ys) ∧ ∀ l, H l = none → Q (.ref l) (upd H l (.lst ys))) [d] ds := fun xs H Q m r k => by
  obtain ⟨a, vs, e, q, rl⟩ := vq_rp w m r
  exact ⟨a, vs, e, q, new_same m rl k⟩
theorem rc_tuple {K : PySem.W.Frag} (w : Vq (B.L ++ O) d ds) : RC K B O (fun xs H Q => ∃ p ys, xs = [.ref p] ∧ ((SqL K H p ys ∧ ∀ l, H l = none → Q (.ref l) (upd H l (.tup ys))) ∨ (SqT K H p ys ∧ Q (.ref p) H))) [d] (.tup ds) := fun xs H Q m r k => by
  rcases w with w | rfl
  · obtain ⟨a, vs, e, q, rl⟩ := vw_rp w m r
    exact ⟨a, vs, e, .inl ⟨q, fun l hl => k _ _ (same_new hl) (.tup (.inl (.inl (m.visNew hl))) (rl.mono (vis_same (same_new hl))))⟩⟩
  · cases r with
    | cons h r =>
      cases r
      cases h with
      | tup hq r => exact ⟨_, _, rfl, .inr ⟨same_t vis_le hq, k _ H (Same.refl H) (.tup hq r)⟩⟩
inductive DT (O : Om) : D → String → Prop where
  | non : DT O .non "NoneType"
  | bl {b : Bool} : DT O (.bl b) "bool"
  | int {i : Int} : DT O (.int i) "int"
  | str {s : Str} : DT O (.str s) "str"
  | lst {ds : List D} : DT O (.lst ds) "list"
  | tup {ds : List D} : DT O (.tup ds) "tuple"
  | mlst {a : Addr} {ds : List D} : (a, M.lst ds) ∈ O → DT O (.rf a) "list"
  | mdk {a : Addr} {kvs : List (Key × D)} : (a, M.dk kvs) ∈ O → DT O (.rf a) "dict"
theorem dt_ty {K : PySem.W.Frag} {H : Hp} {v : V} {t : String} (h : DT (B.L ++ O) d t) (m : MOk K B O H) (r : Rp K (vis B.F O H) v d) : TyX K H v (.type t) := by
  cases h with
  | non => cases r; exact .base .non
  | bl => cases r; exact .base (.bl _)
  | int => cases r; exact .base (.int _)
  | str => cases r; exact .base (.str _)
  | lst =>
    cases r with
    | lst hq r => exact .base (.lst (vis_le _ _ hq))
  | tup =>
    cases r with
    | tup hq r =>
      rcases same_t vis_le hq with (h | ⟨o, h⟩) | ⟨o, its, n, h, hc, _⟩
      · exact .base (.tup h)
      · exact .fTuple h
      · exact .kTuple h hc
  | mlst hm =>
    cases r
    obtain ⟨vs, h, _⟩ := (List.mem_append.mp hm).elim (m.lent _ _) (m.mem _ _)
    exact .base (.lst h)
  | mdk hm =>
    cases r
    obtain ⟨vs, h, _⟩ := (List.mem_append.mp hm).elim (m.lent _ _) (m.mem _ _)
    exact .base (.dK h)
theorem rc_isi {t c : String} {K : PySem.W.Frag} (h : DT (B.L ++ O) d t) (hk : kitB t c = some b1) : RC K B O (rIsi K) [d, .ty c] (.bl b1) := fun xs H Q m r k => by
  cases r with
  | cons h1 r =>
    cases r with
    | cons h2 r =>
      cases r
      cases h2
      exact ⟨_, _, _, _, b1, rfl, .ty c, dt_ty h m h1, kit_ty hk, k _ H (Same.refl H) (.bl _)⟩
theorem ix_imp {r : R2} (hr : IxR X r) (hrd : RD X.K B O r d1 d2 d) (ha : EV X B ρ O a d1) (hb : EV X B ρ O b d2) (hs : PlainIx b := by intro _ _; rfl) : EV X B ρ O (.Subscript a b pos) d := pe_imp (pe_ix hr ha hb hs) (two hrd)
theorem rd_ixL {i : Int} {K : PySem.W.Frag} (w : Vw (B.L ++ O) d1 ds) (h : atI ds i = some d) : RD K B O (rIxL K) d1 (.int i) d := fun x y H Q m r1 r2 k => by
  cases r2
  obtain ⟨a, vs, e, q, rl⟩ := w.sql m r1
  obtain ⟨j, h1, h2, h3, h4, h5⟩ := atI_get h
  obtain ⟨v, hv, rv⟩ := rl.get h2
  refine ⟨a, vs, i, v, e, rfl, q, ?_, k v H (Same.refl H) rv⟩
  unfold atI at h ⊢
  rw [rl.length]
  cases hi : ixN ds.length i with
  | none => rw [hi] at h; cases h
  | some j' =>
    rw [hi] at h
    have e' := (ixN_seq hi).1
    rw [h1] at e'
    cases e'
    exact hv
theorem rd_ixT {i : Int} {K : PySem.W.Frag} (h : atI ds i = some d) : RD K B O (rIxT K) (.tup ds) (.int i) d := fun x y H Q m r1 r2 k => by
  cases r2
  cases r1 with
  | tup hq rl =>
    obtain ⟨j, h1, h2, h3, h4, h5⟩ := atI_get h
    obtain ⟨v, hv, rv⟩ := rl.get h2
    refine ⟨_, _, i, v, rfl, rfl, same_t vis_le hq, ?_, k v H (Same.refl H) rv⟩
    unfold atI at h ⊢
    rw [rl.length]
    cases hi : ixN ds.length i with
    | none => rw [hi] at h; cases h
    | some j' =>
      rw [hi] at h
      have e' := (ixN_seq hi).1
      rw [h1] at e'
      cases e'
      exact hv
theorem rd_ixS {z : Str} {i : Int} {c : Nat} {K : PySem.W.Frag} (hz : z.length ≤ sizeLine) (h : atI z.cps.toList i = some c) : RD K B O rIxS (.str z) (.int i) (.str ⟨#[c]⟩) := fun x y H Q m r1 r2 k => by
  cases r1; cases r2
  exact ⟨z, i, c, rfl, rfl, hz, h, k _ H (Same.refl H) (.str _)⟩
theorem ev_ixL {i : Int} (ha : EV X B ρ O a d1) (hb : EV X B ρ O b (.int i)) (w : Vw (B.L ++ O) d1 ds) (h : atI ds i = some d) (hs : PlainIx b := by intro _ _; rfl) : EV X B ρ O (.Subscript a b pos) d := ix_imp ix_list (rd_ixL w h) ha hb hs
theorem ev_ixT {i : Int} (ha : EV X B ρ O a (.tup ds)) (hb : EV X B ρ O b (.int i)) (h : atI ds i = some d) (hs : PlainIx b := by intro _ _; rfl) : EV X B ρ O (.Subscript a b pos) d := ix_imp ix_tup (rd_ixT h) ha hb hs
theorem ev_ixS {z : Str} {i : Int} {c : Nat} (ha : EV X B ρ O a (.str z)) (hb : EV X B ρ O b (.int i)) (hz : z.length ≤ sizeLine) (h : atI z.cps.toList i = some c) (hs : PlainIx b := by intro _ _; rfl) : EV X B ρ O (.Subscript a b pos) (.str ⟨#[c]⟩) := ix_imp ix_str (rd_ixS hz h) ha hb hs
def tOo (K : PySem.W.Frag) (B : Gd) (ρ : List (Option D)) (O : Om) (i : Option Int) : TO := fun σ H Q => StOk K B ρ O σ H ∧ ∀ H', Same H H' → Q i H'
abbrev EO (X : Cx) (B : Gd) (ρ : List (Option D)) (O : Om) (e : Option Expr) (i : Option Int) : Prop := PO X e (tOo X.K B ρ O i)
theorem po_imp {e : Option Expr} {t t' : TO} (h : PO X e t) (w : ∀ σ H Q, t' σ H Q → t σ H Q) : PO X e t' := ⟨fun pins s σ H Q I q => h.run pins s σ H Q I (w σ H Q q)⟩
theorem eo_none : EO X B ρ O none none := po_imp po_none fun σ H Q ⟨st, k⟩ => k H (Same.refl H)
theorem eo_some {i : Int} (h : EV X B ρ O e (.int i)) : EO X B ρ O (some e) (some i) := po_imp (po_some h) fun σ H Q ⟨st, k⟩ => ⟨st, fun v H1 e1 r1 => by cases r1; exact ⟨i, rfl, k H1 e1⟩⟩
theorem ev_sliceS {lo hi : Option Expr} {l h : Option Int} {p2 : Pos} {z : Str} (ha : EV X B ρ O e (.str z)) (hl : EO X B ρ O lo l) (hh : EO X B ρ O hi h) (hz : z.length ≤ sizeLine) : EV X B ρ O (.Subscript e (.Slice lo hi none p2) pos) (.str (cutS z l h)) :=
  pe_imp (pe_slice sl_str ha hl hh) fun σ H Q ⟨st, k⟩ => ⟨st, fun v H1 e1 r1 => ⟨st.same e1, fun H2 e2 => ⟨(st.same e1).same e2, fun H3 e3 => by
    cases r1
    exact ⟨z, rfl, hz, k _ H3 ((e1.trans e2).trans e3) (.str _)⟩⟩⟩⟩
theorem RpL.scals {K : PySem.W.Frag} {H : Hp} : ∀ {vs : List V} {ds : List D}, RpL K H vs ds → ds.all isScal = true → vs = ds.map scalD
  | _, _, .nil, _ => rfl
  | _, _, .cons h r, e => by
    simp only [List.all_cons, Bool.and_eq_true] at e
    rw [List.map_cons, rp_scal h e.1, r.scals e.2]
theorem rd_in {K : PySem.W.Frag} (w : Vq (B.L ++ O) d2 ds) (h1 : isScal d1 = true) (h2 : ds.all isScal = true) (h3 : flatV (scalD d1) = true) (h4 : (ds.map scalD).all flatV = true) : RD K B O (rIn K false) d1 d2 (.bl (inV (scalD d1) (ds.map scalD))) := fun x y H Q m r1 r2 k => by
  obtain ⟨a, vs, e, q, rl⟩ := w.sq m r2
  rw [rp_scal r1 h1, e]
  have ev := rl.scals h2
  subst ev
  exact ⟨a, _, rfl, q, h3, h4, k _ H (Same.refl H) (.bl _)⟩
theorem rd_notin {K : PySem.W.Frag} (w : Vq (B.L ++ O) d2 ds) (h1 : isScal d1 = true) (h2 : ds.all isScal = true) (h3 : flatV (scalD d1) = true) (h4 : (ds.map scalD).all flatV = true) : RD K B O (rIn K true) d1 d2 (.bl (!inV (scalD d1) (ds.map scalD))) := fun x y H Q m r1 r2 k => by
  obtain ⟨a, vs, e, q, rl⟩ := w.sq m r2
  rw [rp_scal r1 h1, e]
  have ev := rl.scals h2
  subst ev
  exact ⟨a, _, rfl, q, h3, h4, k _ H (Same.refl H) (.bl _)⟩
theorem inV_ints (x : Int) (ys : List Int) : inV (.int x) (ys.map V.int) = decide (x ∈ ys) := by
  unfold inV
  induction ys with
  | nil => simp
  | cons y ys ih =>
    rw [List.map_cons, List.any_cons, ih]
    have : eqV (.int y) (.int x) = decide (y = x) := by
      rw [Bool.eq_iff_iff]; simp [eqV]
    rw [this]
    by_cases h : y = x
    · subst h; simp
    · have h' : ¬ x = y := fun q => h q.symm
      simp [h, h']
theorem rd_inI {K : PySem.W.Frag} {x : Int} {ys : List Int} (w : Vq (B.L ++ O) d2 (ys.map fun y => D.int y)) : RD K B O (rIn K false) (.int x) d2 (.bl (decide (x ∈ ys))) :=
  rd_imp (rd_in w rfl (by simp [isScal]) rfl (by simp [flatV, scalD])) (by rw [List.map_map]; exact congrArg D.bl (inV_ints x ys))
theorem rd_notinI {K : PySem.W.Frag} {x : Int} {ys : List Int} (w : Vq (B.L ++ O) d2 (ys.map fun y => D.int y)) : RD K B O (rIn K true) (.int x) d2 (.bl (!decide (x ∈ ys))) :=
  rd_imp (rd_notin w rfl (by simp [isScal]) rfl (by simp [flatV, scalD])) (by rw [List.map_map]; exact congrArg (fun b => D.bl (!b)) (inV_ints x ys))
theorem rd_inC {K : PySem.W.Frag} {c : Nat} {z : Str} : RD K B O (fun x y H Q => ∃ (c : Nat) (z : Str), x = .str ⟨#[c]⟩ ∧ y = .str z ∧ Q (.bl (decide (c ∈ z.cps.toList))) H) (.str ⟨#[c]⟩) (.str z) (.bl (decide (c ∈ z.cps.toList))) := fun x y H Q m r1 r2 k => by
  cases r1; cases r2
  exact ⟨c, z, rfl, rfl, k _ H (Same.refl H) (.bl _)⟩
theorem ev_m1 {id : String} {name : Str} {r : V → List V → Hp → VK → Prop} {z : Str} (slot : Slot "str" name id) (ty : typeOf (.builtin id) = pure (.type "method_descriptor")) (rule : MtR X id r) (ho : EV X B ρ O o (.str z)) (he : EV X B ρ O e d1)
    (hr : RC X.K B O (fun xs H Q => r (.str z) xs H Q) [d1] d)
    (hs : starEach [e] X.env = [(false, eval e X.env)] := by rfl) (hbase : attributeBase o name X.env (eval o X.env) = eval o X.env := by rfl) (hline : (apos.endLine == pos.line) = true := by rfl) : EV X B ρ O (.Call (.Attribute o name apos) [e] [] pos) d :=
  pe_imp (pe_m1 slot ty rule ho he hs hbase hline) fun σ H Q ⟨st, k⟩ => ⟨st, fun v H1 e1 r1 => by
    cases r1
    exact ⟨⟨z, rfl⟩, st.same e1, fun y H2 e2 r2 => hr [y] H2 Q ((st.same e1).same e2).m (.cons r2 .nil) fun v H3 e3 r3 => k v H3 ((e1.trans e2).trans e3) r3⟩⟩
theorem ev_join {z : Str} {ys : List Str} (ho : EV X B ρ O o (.str z)) (he : EV X B ρ O e d1) (w : Vq (B.L ++ O) d1 (ys.map fun s => D.str s)) (hz : (ys.map (·.length)).sum + ys.length * z.length ≤ 16777216)
    (hs : starEach [e] X.env = [(false, eval e X.env)] := by rfl) (hbase : attributeBase o "join" X.env (eval o X.env) = eval o X.env := by rfl) (hline : (apos.endLine == pos.line) = true := by rfl) :
    EV X B ρ O (.Call (.Attribute o "join" apos) [e] [] pos) (.str (Txt.join z ys)) :=
  ev_m1 F.slot_str_join F.type_str_join mt_join ho he (fun xs H Q m r k => by
    obtain ⟨a, vs, e, q, rl⟩ := vq_rp w m r
    have ev := rl.strs
    subst ev
    exact ⟨z, a, ys, rfl, e, q, hz, k _ H (Same.refl H) (.str _)⟩) hs hbase hline
def putO (O : Om) (p : Addr) (m : M) : Om := O.map fun q => if q.1 = p then (p, m) else q
theorem putO_keys {p : Addr} {m : M} : (putO O p m).map (·.1) = O.map (·.1) := by
  unfold putO
  rw [List.map_map]
  refine List.map_congr_left fun q _ => ?_
  show (if q.1 = p then (p, m) else q).1 = q.1
  split
  · rename_i h; exact h.symm
  · rfl
theorem vis_put {F : Addr → Bool} {H : Hp} {p : Addr} {o : HO} (h : has O p = true) : vis F O (upd H p o) = vis F O H := by
  funext a
  unfold vis
  by_cases e : a = p
  · subst e
    rw [h, Bool.or_true, if_pos rfl, if_pos rfl]
  · rw [upd_ne e]
theorem StOk.put {K : PySem.W.Frag} {σ : L2.St} {H : Hp} {p : Addr} {m m' : M} {o : HO} (st : StOk K B ρ O σ H) (hm : (p, m) ∈ O) (r : MRp K (vis B.F O H) (upd H p o) p m') : StOk K B ρ (putO O p m') σ (upd H p o) ∧ vis B.F (putO O p m') (upd H p o) = vis B.F O H := by
  have hp : has O p = true := has_mem.mpr ⟨m, hm⟩
  have ev : vis B.F (putO O p m') (upd H p o) = vis B.F O H := by rw [vis_keys (O' := O) putO_keys, vis_put hp]
  refine ⟨⟨⟨fun a u hb => ?_, fun a u ha => ?_, by rw [putO_keys]; exact st.m.nd, fun a u ha => ?_⟩, by rw [ev]; exact st.env⟩, ev⟩
  · obtain ⟨h1, h2⟩ := st.m.base a u hb
    have ne : a ≠ p := fun z => by rw [z, hp] at h2; cases h2
    exact ⟨by rw [upd_ne ne]; exact h1, by rw [has_keys putO_keys]; exact h2⟩
  · rw [ev]
    unfold putO at ha
    obtain ⟨⟨b, n⟩, hb, e⟩ := List.mem_map.mp ha
    by_cases q : b = p
    · have e' : (if b = p then (p, m') else (b, n)) = (a, u) := e
      rw [if_pos q] at e'
      cases e'
      exact r
    · have e' : (if b = p then (p, m') else (b, n)) = (a, u) := e
      rw [if_neg q] at e'
      cases e'
      exact (st.m.mem _ _ hb).mono (Same.refl _) fun o h => by rw [upd_ne q]; exact h
  · rw [ev]
    have ne : a ≠ p := fun z => by
      obtain ⟨u', hu⟩ := B.ok a (B.lF a u ha)
      have := (st.m.base a u' hu).2
      rw [z, hp] at this; cases this
    exact (st.m.lent a u ha).mono (Same.refl _) fun o h => by rw [upd_ne ne]; exact h
inductive Put : Om → Addr → M → M → Om → Prop where
  | head {O : Om} {p : Addr} {m m' : M} : Put ((p, m) :: O) p m m' ((p, m') :: O)
  | tail {O O' : Om} {q : Addr × M} {p : Addr} {m m' : M} : Put O p m m' O' → Put (q :: O) p m m' (q :: O')
theorem Put.mem {p : Addr} {m m' : M} : ∀ {O O' : Om}, Put O p m m' O' → (p, m) ∈ O
  | _, _, .head => List.mem_cons_self
  | _, _, .tail h => List.mem_cons_of_mem _ h.mem
theorem Put.eq {p : Addr} {m m' : M} : ∀ {O O' : Om}, Put O p m m' O' → (O.map (·.1)).Nodup → putO O p m' = O'
  | _, _, .head (O := O), nd => by
    rw [List.map_cons, List.nodup_cons] at nd
    show (if p = p then (p, m') else (p, m)) :: putO O p m' = _
    rw [if_pos rfl]
    congr 1
    unfold putO
    refine (List.map_congr_left fun q hq => ?_).trans (List.map_id _)
    have : q.1 ≠ p := fun z => nd.1 (z ▸ List.mem_map_of_mem (f := (·.1)) hq)
    show (if q.1 = p then (p, m') else q) = q
    rw [if_neg this]
  | _, _, .tail (q := q) (O := O) h, nd => by
    rw [List.map_cons, List.nodup_cons] at nd
    have : q.1 ≠ p := fun z => nd.1 (z ▸ List.mem_map_of_mem (f := (·.1)) h.mem)
    show (if q.1 = p then (p, m') else q) :: putO O p m' = _
    rw [if_neg this, h.eq nd.2]
theorem StOk.putP {K : PySem.W.Frag} {σ : L2.St} {H : Hp} {p : Addr} {m m' : M} {o : HO} (st : StOk K B ρ O σ H) (hm : Put O p m m' O') (r : MRp K (vis B.F O H) (upd H p o) p m') : StOk K B ρ O' σ (upd H p o) ∧ vis B.F O' (upd H p o) = vis B.F O H := by
  have h := st.put hm.mem r
  rw [hm.eq st.m.nd] at h
  exact h
theorem eg_append {p : Addr} {ds0 : List D} (ho : EV X B ρ O o (.rf p)) (hm : (p, M.lst ds0) ∈ O) (he : EG X B ρ O e d O1) (hm1 : Put O1 p (.lst ds) (.lst (ds ++ [d])) O2) (hz : ds.length < sizeLine)
    (hbase : attributeBase o "append" X.env (eval o X.env) = eval o X.env := by rfl)
    (hfew : ((backTo pos (starEach [e] X.env)).all (fun x => !x.1) && (backToKw pos (keywordEach [] X.env)).all (fun x => x.1.isSome)
      && decide ([e].length + ([] : List Keyword).length + (if ([] : List Keyword).isEmpty then 0 else 1) < 30)) = true := by rfl)
    (hline : (apos.endLine == pos.line) = true := by rfl) (hs : starEach [e] X.env = (false, eval e X.env) :: starEach [] X.env := by rfl) (hplain : (backTo pos (starEach [] X.env)).any (·.1) = false := by rfl) :
    EG X B ρ O (.Call (.Attribute o "append" apos) [e] [] pos) .non O2 :=
  pe_imp (pe_bm PySem.F.plainAttrs_list PySem.F.slot_list_append PySem.F.type_list_append mt_append ho (pa_cons he pa_nil hs) hbase hfew hline hs hplain) fun σ H Q ⟨st, k⟩ => ⟨st, fun v H1 e1 r1 => by
    cases r1
    have s1 := st.same e1
    obtain ⟨vs, h1, h2⟩ := s1.m.mem _ _ hm
    refine ⟨.inl ⟨rfl, vs, .inl (.inl h1)⟩, s1, fun w H2 s2 e2 r2 => ?_⟩
    obtain ⟨ws, h3, h4⟩ := s2.m.mem _ _ hm1.mem
    obtain ⟨s3, ev⟩ := s2.putP (o := .lst (ws ++ [w])) hm1 ⟨_, upd_same, h4.append (.cons r2 .nil)⟩
    refine ⟨p, ws, w, rfl, rfl, h3, by rw [h4.length]; exact hz, k .non _ s3 ?_ .non⟩
    rw [ev]
    exact (vis_same e1).trans e2⟩
end
end DL

set_option Elab.async false
set_option linter.all false
set_option maxRecDepth 100000
set_option maxHeartbeats 2000000
namespace DL
open PySem PySem.Spec PyProof.Rows L2
mutual
inductive Frz (O : Om) : D → D → Prop where
  | refl (d : D) : Frz O d d
  | mlst {p : Addr} {ds ds' : List D} : (p, M.lst ds) ∈ O → FrzL O ds ds' → Frz O (.rf p) (.lst ds')
  | mins {p C : Addr} {ns : List Str} {ds ds' : List D} : (p, M.ins C ns ds) ∈ O → FrzL O ds ds' → Frz O (.rf p) (.obj C ns ds')
  | tup {ds ds' : List D} : FrzL O ds ds' → Frz O (.tup ds) (.tup ds')
  | lst {ds ds' : List D} : FrzL O ds ds' → Frz O (.lst ds) (.lst ds')
inductive FrzL (O : Om) : List D → List D → Prop where
  | refl (ds : List D) : FrzL O ds ds
  | cons {d d' : D} {ds ds' : List D} : Frz O d d' → FrzL O ds ds' → FrzL O (d :: ds) (d' :: ds')
end
section
variable {K : PySem.W.Frag} {B : Gd} {O : Om} {H : Hp}
theorem vis_all : Same (vis B.F O H) (vis B.F [] H) := fun a o h => by
  obtain ⟨h1, h2, h3⟩ := vis_some.mp h
  exact vis_some.mpr ⟨h1, rfl, h3⟩
theorem MOk.visM (m : MOk K B O H) {p : Addr} {o : HO} (hp : has O p = true) (e : H p = some o) : vis B.F [] H p = some o := by
  refine vis_some.mpr ⟨?_, rfl, e⟩
  cases q : B.F p with
  | false => rfl
  | true =>
    obtain ⟨u, e'⟩ := B.ok p q
    have := (m.base p u e').2
    rw [hp] at this; cases this
mutual
theorem Rp.frz {Hv Hv' : Hp} (e : Same Hv Hv') (hm : ∀ p m, (p, m) ∈ O → MRp K Hv Hv' p m) : ∀ {v : V} {d d' : D}, Frz O d d' → Rp K Hv v d → Rp K Hv' v d'
  | _, _, _, .refl d, r => r.mono e
  | _, _, _, .mlst h f, r => by
    cases r
    obtain ⟨vs, h1, h2⟩ := hm _ _ h
    exact .lst h1 (RpL.frz e hm f h2)
  | _, _, _, .mins h f, r => by
    cases r
    obtain ⟨dx, fv, h1, h2, h3⟩ := hm _ _ h
    exact .obj h1 h2 (RpL.frz e hm f h3)
  | _, _, _, .tup f, r => by
    cases r with
    | tup hq r => exact .tup (same_t e hq) (RpL.frz e hm f r)
  | _, _, _, .lst f, r => by
    cases r with
    | lst hq r => exact .lst (e _ _ hq) (RpL.frz e hm f r)
theorem RpL.frz {Hv Hv' : Hp} (e : Same Hv Hv') (hm : ∀ p m, (p, m) ∈ O → MRp K Hv Hv' p m) : ∀ {vs : List V} {ds ds' : List D}, FrzL O ds ds' → RpL K Hv vs ds → RpL K Hv' vs ds'
  | _, _, _, .refl ds, r => r.mono e
  | _, _, _, .cons f g, r => by
    cases r with
    | cons h r => exact .cons (Rp.frz e hm f h) (RpL.frz e hm g r)
end
theorem MOk.frz (m : MOk K B O H) : ∀ p mm, (p, mm) ∈ O → MRp K (vis B.F O H) (vis B.F [] H) p mm := fun p mm h =>
  (m.mem p mm h).mono (Same.refl _) fun o q => m.visM (has_mem.mpr ⟨_, h⟩) q
end
structure Bor (K : PySem.W.Frag) (F : Addr → Bool) (L O : Om) (H : Hp) : Prop where
  ok : ∀ a, F a = true → ∃ o, H a = some o
  lF : ∀ a m, (a, m) ∈ L → F a = true
  lent : ∀ a m, (a, m) ∈ L → MRp K (vis F O H) H a m
def spP (K : PySem.W.Frag) (Ar : Om → List D → D → Prop) : Sp := fun vs H Q _ => ∃ (F : Addr → Bool) (L : Om) (ds : List D) (d : D), Bor K F L [] H ∧ RpL K (vis F [] H) vs ds ∧ Ar L ds d ∧
  ∀ v H', Same H H' → Rp K (vis F [] H') v d → Q v H'
def spN (K : PySem.W.Frag) (Ar : Om → List D → List D → Prop) : Sp := fun vs H Q _ => ∃ (F : Addr → Bool) (L : Om) (ds es : List D), Bor K F L [] H ∧ RpL K (vis F [] H) vs ds ∧ Ar L ds es ∧
  ∀ p H' ws, H p = none → Same H H' → H' p = some (.lst ws) → RpL K (vis F [(p, .lst es)] H') ws es → Q (.ref p) H'
def spI (K : PySem.W.Frag) (C : Addr) (Ar : Om → List D → List Str → List D → Prop) : Sp := fun vs H Q _ => ∃ (F : Addr → Bool) (L : Om) (x dx : Addr) (us : List V) (ds : List D) (ns : List Str) (fs : List D), vs = .ref x :: us ∧ Bor K F L [(x, .ins C [] [])] H ∧ F x = false ∧
  H x = some (.ins C dx []) ∧ RpL K (vis F [(x, .ins C [] [])] H) us ds ∧ Ar L ds ns fs ∧
  ∀ H' dx' fv, (∀ a o, a ≠ x → H a = some o → H' a = some o) → H' x = some (.ins C dx' fv) → fv.map (·.1) = ns → RpL K (vis F [(x, .ins C [] [])] H') (fv.map (·.2)) fs → Q .non H'
structure Fok (P : Program) (w : World) (K : PySem.W.Frag) (mg : Str → Option Value) (base : Heap) (CX : CXT) (k : Nat) (f : Addr) (sp : Sp) : Prop where
  ex : ∃ fd ps, FnOk P w K mg base CX k f fd ps sp ∧ Binds K fd ps []
  kp : PySem.W.keepIn K (.ref f) = true
theorem Fok.raw {P : Program} {w : World} {K : PySem.W.Frag} {mg : Str → Option Value} {base : Heap} {CX : CXT} {k : Nat} {f : Addr} {sp : Sp} (F : Fok P w K mg base CX k f sp) : FnR P w K mg base CX k f sp := by
  obtain ⟨fd, ps, G, b⟩ := F.ex
  have h := G.raw b .nil
  exact h.imp fun vs H Q E q => by rw [List.append_nil]; exact q
structure Cal (P : Program) (w : World) (K : PySem.W.Frag) (mg : Str → Option Value) (base : Heap) (CX : CXT) (k : Nat) (x : Str) (sp : Sp) : Prop where
  ex : ∃ f, Fok P w K mg base CX k f sp ∧ mg x = some (.ref f)
theorem pe_callR {X : Cx} {CX : CXT} {k : Nat} {f : Addr} {sp : Sp} {E : XK} {x : Str} {e : Expr} {es : List Expr} {t : TA} {p pos : Pos} (F : FnR X.prog X.w X.K X.mg X.base CX k f sp) (hr : Room k X.A) (hg : Gl X x) (hm : X.mg x = some (.ref f)) (hk : PySem.W.keepIn X.K (.ref f) = true) (hx : Passes CX X E)
    (ha : PA X (e :: es) t) (hdb : (x == ("__debug__" : Str)) = false := by decide) (he : starEach (e :: es) X.env = (false, eval e X.env) :: starEach es X.env := by rfl) (hpl : (backTo pos (starEach es X.env)).any (·.1) = false := by rfl) :
    PE X (.Call (.Name x p) (e :: es) [] pos) (fun σ H Q => t σ H fun vs H1 => sp vs H1 Q E) := by
  refine ⟨fun pins s σ H Q I h => ?_⟩
  refine wpAny_Call_Name_kw (ld_glob I hg hm ?_ hdb)
  refine PySem.W.callWith_K (h₀ := X.base) I.ok.mod.kin hk (thn (ha.run pos pins s σ H _ I h) fun us s1 ⟨vs, H1, I1, r, q⟩ => ⟨I1.kIn, ?_⟩) he hpl
  exact wpAny_call (run_fnR F hr hx I1 r q)
section
variable {X : Cx} {B : Gd} {ρ ρ' : List (Option D)} {O O' O1 O2 : Om} {A : AE} {a b c e o : Expr} {es : List Expr} {d d1 d2 d3 : D} {ds : List D} {pos pos' p apos : Pos} {b1 b2 : Bool} {st : Stmt} {ss rest : List Stmt} {x : Str} {k : Nat} {C : Addr}
def frF (B : Gd) (O : Om) : Addr → Bool := fun a => B.F a || has O a
theorem vis_fr {H : Hp} : vis (frF B O) [] H = vis B.F O H := by
  funext a
  unfold vis frF
  show (if (B.F a || has O a || false) = true then none else H a) = _
  rw [Bool.or_false]
theorem vis_fr1 {H : Hp} {q : Addr} {m : M} : vis (frF B O) [(q, m)] H = vis B.F ((q, m) :: O) H := by
  funext a
  unfold vis frF
  rw [has_cons, has_cons]
  show (if (B.F a || has O a || (q == a || false)) = true then none else H a) = _
  rw [Bool.or_false, Bool.or_assoc, Bool.or_comm (has O a)]
theorem fr_ok {K : PySem.W.Frag} {H : Hp} (m : MOk K B O H) : ∀ a, frF B O a = true → ∃ o, H a = some o := fun a h => by
  unfold frF at h
  rw [Bool.or_eq_true] at h
  rcases h with h | h
  · obtain ⟨o, e⟩ := B.ok a h
    exact ⟨o, (m.base a o e).1⟩
  · obtain ⟨mm, e⟩ := has_mem.mp h
    exact (m.mem a mm e).some
theorem bor_of {K : PySem.W.Frag} {H : Hp} (m : MOk K B O H) : Bor K (frF B O) (B.L ++ O) [] H :=
  ⟨fr_ok m, fun a mm h => by
    unfold frF
    rcases List.mem_append.mp h with h | h
    · rw [B.lF a mm h]; rfl
    · rw [has_mem.mpr ⟨mm, h⟩, Bool.or_true], fun a mm h => by
    rw [vis_fr]
    exact (List.mem_append.mp h).elim (m.lent a mm) (m.mem a mm)⟩
theorem spP_use {K : PySem.W.Frag} {Ar : Om → List D → D → Prop} {H : Hp} {Q : VK} {E : XK} {vs : List V} (m : MOk K B O H) (r : RpL K (vis B.F O H) vs ds) (h : Ar (B.L ++ O) ds d) (k : ∀ v H', Same H H' → Rp K (vis B.F O H') v d → Q v H') : spP K Ar vs H Q E :=
  ⟨frF B O, B.L ++ O, ds, d, bor_of m, by rw [vis_fr]; exact r, h, fun v H' e r' => k v H' e (by rw [vis_fr] at r'; exact r')⟩
theorem spN_use {K : PySem.W.Frag} {Ar : Om → List D → List D → Prop} {H : Hp} {Q : VK} {E : XK} {vs : List V} {fs : List D} (m : MOk K B O H) (r : RpL K (vis B.F O H) vs ds) (h : Ar (B.L ++ O) ds fs) (k : ∀ p H' ws, H p = none → Same H H' → H' p = some (.lst ws) → RpL K (vis B.F ((p, .lst fs) :: O) H') ws fs → Q (.ref p) H') : spN K Ar vs H Q E :=
  ⟨frF B O, B.L ++ O, ds, fs, bor_of m, by rw [vis_fr]; exact r, h, fun p H' ws hp e hv r' => k p H' ws hp e hv (by rw [vis_fr1] at r'; exact r')⟩
theorem ev_call {Ar : Om → List D → D → Prop} (c : Cal X.prog X.w X.K X.mg X.base CX0 k x (spP X.K Ar)) (hr : Room k X.A) (hg : Gl X x) (ha : EA X B ρ O (e :: es) ds) (h : Ar (B.L ++ O) ds d) (hdb : (x == ("__debug__" : Str)) = false := by decide)
    (he : starEach (e :: es) X.env = (false, eval e X.env) :: starEach es X.env := by rfl) (hpl : (backTo pos (starEach es X.env)).any (·.1) = false := by rfl) : EV X B ρ O (.Call (.Name x p) (e :: es) [] pos) d := by
  obtain ⟨f, F, hm⟩ := c.ex
  exact pe_imp (pe_callR (E := E0) F.raw hr hg hm F.kp pass0 ha hdb he hpl) fun σ H Q ⟨st, k⟩ => ⟨st, fun vs H1 e1 r1 => spP_use (st.same e1).m r1 h fun v H2 e2 r2 => k v H2 (e1.trans e2) r2⟩
theorem en_call {Ar : Om → List D → List D → Prop} {fs : List D} (c : Cal X.prog X.w X.K X.mg X.base CX0 k x (spN X.K Ar)) (hr : Room k X.A) (hg : Gl X x) (ha : EA X B ρ O (e :: es) ds) (h : Ar (B.L ++ O) ds fs) (hdb : (x == ("__debug__" : Str)) = false := by decide)
    (he : starEach (e :: es) X.env = (false, eval e X.env) :: starEach es X.env := by rfl) (hpl : (backTo pos (starEach es X.env)).any (·.1) = false := by rfl) : EN X B ρ O (.Call (.Name x p) (e :: es) [] pos) fs := by
  obtain ⟨f, F, hm⟩ := c.ex
  exact pe_imp (pe_callR (E := E0) F.raw hr hg hm F.kp pass0 ha hdb he hpl) fun σ H Q ⟨st, k⟩ => ⟨st, fun vs H1 e1 r1 => spN_use (st.same e1).m r1 h fun p H2 ws hp e2 hv r2 => k p H2 ws (e1.free hp) (e1.trans e2) hv r2⟩
def Vo (O : Om) (d : D) (C : Addr) (ns : List Str) (ds : List D) : Prop := d = .obj C ns ds ∨ ∃ a, d = .rf a ∧ (a, M.ins C ns ds) ∈ O
theorem Vo.at {K : PySem.W.Frag} {H : Hp} {v : V} {ns : List Str} (w : Vo (B.L ++ O) d C ns ds) (m : MOk K B O H) (r : Rp K (vis B.F O H) v d) : ∃ a dx fv, v = .ref a ∧ H a = some (.ins C dx fv) ∧ fv.map (·.1) = ns ∧ RpL K (vis B.F O H) (fv.map (·.2)) ds := by
  rcases w with rfl | ⟨a, rfl, h⟩
  · cases r with
    | obj h1 h2 h3 => exact ⟨_, _, _, rfl, vis_le _ _ h1, h2, h3⟩
  · cases r
    obtain ⟨dx, fv, h1, h2, h3⟩ := (List.mem_append.mp h).elim (m.lent _ _) (m.mem _ _)
    exact ⟨_, dx, fv, rfl, h1, h2, h3⟩
end
section
variable {P : Program} {w : World} {K : PySem.W.Frag} {mg : Str → Option Value} {base : Heap}
def startD (N : List Str) (ds : List D) : List (Option D) := ds.map some ++ List.replicate (N.length - ds.length) none
theorem start_env {Hv : Hp} {N : List Str} {vs : List V} {ds : List D} (r : RpL K Hv vs ds) : EnvR K Hv (L2.start N vs) (startD N ds) := by
  have hl := r.length
  refine ⟨by simp [L2.start, startD, hl], fun i d e => ?_⟩
  unfold startD at e
  unfold L2.start
  by_cases hi : i < ds.length
  · rw [List.getElem?_append_left (by simpa using hi)] at e
    rw [List.getElem?_append_left (by rw [List.length_map, hl]; exact hi)]
    rw [List.getElem?_map] at e
    obtain ⟨d', h1, h2⟩ := Option.map_eq_some_iff.mp e
    cases h2
    obtain ⟨v, hv, rv⟩ := r.get h1
    exact ⟨v, by rw [List.getElem?_map, hv]; rfl, rv⟩
  · rw [List.getElem?_append_right (by simpa using hi)] at e
    obtain ⟨_, h⟩ := List.mem_replicate.mp (List.mem_of_getElem? e)
    cases h
theorem fn_new {Ar : Om → List D → List D → Prop} {x qual : Str} {st : Stmt} {f : Addr} {fd : FuncData} {N ps : List Str} {k : Nat} (F : Fun K x qual st f fd) (S : FnScope N ps (defScope st)) (len : ∀ L ds d, Ar L ds d → ds.length = ps.length)
    (h : ∀ (cdv : Value) (A : Around) (outer : List Env) (s : Shared) (H : Hp) (E : XK) (B : Gd) (ds : List D) (es : List D), Room k (A.deeper (envOfC qual (defScope st) s.heap.objs.size f cdv)) → Ar B.L ds es →
      J (cxOf CX0 P w K mg base N qual (defScope st) f cdv A outer s H E).nox B (defBody st) (startD N ds) [] { nx := fun _ _ => False, rt := fun d' O' => ∃ p, d' = .rf p ∧ O' = [(p, .lst es)] }) : FnOk P w K mg base CX0 (k + 1) f fd ps (spN K Ar) := by
  refine F.ok S (fun vs H Q E q => ?_) (fun cdv A outer s H vs Q E hr q => ?_)
  · obtain ⟨F', L, ds, d, _, r, ha, _⟩ := q
    rw [r.length]; exact len L ds d ha
  · obtain ⟨F', L, ds, es, bo, r, ha, kk⟩ := q
    refine ⟨_, h cdv A outer s H E ⟨F', H, fun c d _ H => E c d H, L, bo.ok, bo.lF⟩ ds es hr ha, ⟨⟨fun a o e => ⟨e, rfl⟩, (fun a m hm => nomatch hm), (by simp), bo.lent⟩, start_env r⟩, fun _ _ _ _ z => z.elim, ?_, fun _ _ _ _ z => z.elim, fun _ _ _ _ z => z.elim, fun _ _ _ _ _ _ _ _ _ z => z.elim⟩
    rintro d' O' v H' ⟨p, rfl, rfl⟩ m r'
    cases r'
    obtain ⟨ws, h1, h2⟩ := m.mem p _ List.mem_cons_self
    refine kk p H' ws ?_ (fun a o q => (m.base a o q).1) h1 h2
    cases q : H p with
    | none => rfl
    | some o =>
      have := (m.base p o q).2
      simp [has] at this
end
end DL
namespace DL
open PySem PySem.Spec PyProof.Rows L2
section
variable {X : Cx} {B : Gd} {ρ ρ1 : List (Option D)} {O O1 : Om} {A : AE} {st : Stmt} {rest : List Stmt}
theorem wk_refl : Wk ρ ρ := ⟨rfl, fun _ _ h => h⟩
theorem wk_nil : Wk [] [] := wk_refl
theorem wk_none {r r' : List (Option D)} {d : Option D} (h : Wk r r') : Wk (none :: r) (d :: r') := ⟨by simp [h.1], fun i e q => by
  cases i with
  | zero => simp at q
  | succ i => simpa using h.2 i e (by simpa using q)⟩
theorem wk_some {r r' : List (Option D)} {d d' : D} (e : d = d') (h : Wk r r') : Wk (some d :: r) (some d' :: r') := ⟨by simp [h.1], fun i e' q => by
  cases i with
  | zero => subst e; simpa using q
  | succ i => simpa using h.2 i e' (by simpa using q)⟩
end
end DL

set_option Elab.async false
set_option linter.all false
set_option maxRecDepth 100000
set_option maxHeartbeats 2000000
namespace DL
open PySem PySem.Spec PyProof.Rows L2
section
variable {X : Cx} {B : Gd} {ρ ρ' : List (Option D)} {O O' O1 O2 : Om} {A : AE} {a b c e o : Expr} {es : List Expr} {d d1 d2 d3 : D} {ds : List D} {pos pos' p apos : Pos} {b1 b2 : Bool} {st : Stmt} {ss rest : List Stmt} {x : Str} {k : Nat} {C : Addr}
theorem nm (i : Nat) (hd : ρ[i]? = some (some d)) (hN : X.N[i]? = some x := by rfl) (hv : Vis X.env.scope x := by first | exact Or.inl rfl | exact Or.inr (Or.inl rfl) | exact Or.inr (Or.inr rfl)) (h1 : (x == ("__debug__" : Str)) = false := by decide) (h2 : (x == ("__classdict__" : Str)) = false := by decide) :
    EV X B ρ O (.Name x pos) d := ev_name hN hv hd h1 h2
theorem sset (i : Nat) (nd : X.N.Nodup) (he : EV X B ρ O e d) (h : A.nx (ρ.set i (some d)) O) (hi : X.N[i]? = some x := by rfl) (hx : Loc X.env.scope x := by first | exact .inl rfl | exact .inr rfl) (hs : swapsWith e (some (.Name x pos')) pos.line X.env = pure false := by rfl)
    (hf : X.fn x = true ∨ X.env.scope.names.lookup x = some .local := by first | exact .inr rfl | exact .inl rfl) : J1 X B (.Assign [.Name x pos'] e pos) ρ O A := j_set nd hi hx he hs hf h
theorem ssetN (i : Nat) (nd : X.N.Nodup) (he : EN X B ρ O e ds) (h : ∀ p, has O p = false → A.nx (ρ.set i (some (.rf p))) ((p, .lst ds) :: O)) (hi : X.N[i]? = some x := by rfl) (hx : Loc X.env.scope x := by first | exact .inl rfl | exact .inr rfl) (hs : swapsWith e (some (.Name x pos')) pos.line X.env = pure false := by rfl)
    (hf : X.fn x = true ∨ X.env.scope.names.lookup x = some .local := by first | exact .inr rfl | exact .inl rfl) : J1 X B (.Assign [.Name x pos'] e pos) ρ O A := j_setN nd hi hx he hs hf h
theorem bnm (i : Nat) (nd : X.N.Nodup) (hi : X.N[i]? = some x := by rfl) (hx : Loc X.env.scope x := by first | exact .inl rfl | exact .inr rfl) (hf : X.fn x = true ∨ X.env.scope.names.lookup x = some .local := by first | exact .inr rfl | exact .inl rfl) : EB X (.Name x pos) (gName i) [i] (bName i) := eb_name nd hi hx hf
theorem ev_conv {d' : D} (h : EV X B ρ O e d) (q : d = d') : EV X B ρ O e d' := q ▸ h
theorem et_conv (h : ET X B ρ O e b1) (q : b1 = b2) : ET X B ρ O e b2 := q ▸ h
theorem rd_notinC {K : PySem.W.Frag} {c : Nat} {z : Str} : RD K B O (fun x y H Q => ∃ (c : Nat) (z : Str), x = .str ⟨#[c]⟩ ∧ y = .str z ∧ Q (.bl (!decide (c ∈ z.cps.toList))) H) (.str ⟨#[c]⟩) (.str z) (.bl (!decide (c ∈ z.cps.toList))) := fun x y H Q m r1 r2 k => by
  cases r1; cases r2
  exact ⟨c, z, rfl, rfl, k _ H (Same.refl H) (.bl _)⟩
theorem et_lst (h : EV X B ρ O e d) (w : Vw (B.L ++ O) d ds) (he : ∀ whole, isTrue e X.env whole = (do let v ← whole; standAt e.pos; holding [v] (truthy v)) := by intro _; rfl) : ET X B ρ O e (!ds.isEmpty) :=
  pt_imp (pt_truth h he) fun σ H Q ⟨st, k⟩ => ⟨st, fun v H1 e1 r1 => by
    obtain ⟨a, vs, rfl, q, rl⟩ := w.sql (st.same e1).m r1
    refine ⟨!vs.isEmpty, .inl ⟨vs, q, rfl⟩, ?_⟩
    have : vs.isEmpty = ds.isEmpty := by
      have := rl.length
      cases vs <;> cases ds <;> simp_all
    rw [this]
    exact k H1 e1⟩
theorem atI_map {α : Type} {xs : List α} {f : α → D} (df : α) {i : Int} (h0 : 0 ≤ i) (h : i < (xs.length : Int)) : atI (xs.map f) i = some (f (xs.getD i.toNat df)) := by
  obtain ⟨j, rfl⟩ : ∃ j : Nat, i = (j : Int) := ⟨i.toNat, by omega⟩
  have hj : j < xs.length := by omega
  exact atI_nat (by simp [hj])
theorem atM {α : Type} {xs : List α} {f : α → D} (df : α) {i : Int} (h0 : 0 ≤ i) (h : i < (xs.length : Int)) : atI (xs.map fun x => f x) i = some (f (xs.getD i.toNat df)) := atI_map df h0 h
theorem atC {xs : List Nat} {i : Int} (h0 : 0 ≤ i) (h : i < (xs.length : Int)) : atI xs i = some (xs.getD i.toNat 0) := by
  obtain ⟨j, rfl⟩ : ∃ j : Nat, i = (j : Int) := ⟨i.toNat, by omega⟩
  have hj : j < xs.length := by omega
  exact atI_nat (by simp [hj])
mutual
inductive PyR : D → PyData → Prop where
  | non : PyR .non .none
  | bl (b : Bool) : PyR (.bl b) (.bool b)
  | int (i : Int) : PyR (.int i) (.int i)
  | str (x : Str) : PyR (.str x) (.str x)
  | lst {ds : List D} {ps : List PyData} : PyRL ds ps → PyR (.lst ds) (.list ps)
  | tup {ds : List D} {ps : List PyData} : PyRL ds ps → PyR (.tup ds) (.tuple ps)
inductive PyRL : List D → List PyData → Prop where
  | nil : PyRL [] []
  | cons {d : D} {ds : List D} {p : PyData} {ps : List PyData} : PyR d p → PyRL ds ps → PyRL (d :: ds) (p :: ps)
end
section
variable {K : PySem.W.Frag} {Hv H : Hp} (e : Same Hv H)
mutual
theorem PyR.dp (e : Same Hv H) : ∀ {d : D} {p : PyData} {v : V}, PyR d p → Rp K Hv v d → Dp K H v p
  | _, _, _, .non, r => by cases r; exact .non
  | _, _, _, .bl b, r => by cases r; exact .bl b
  | _, _, _, .int b, r => by cases r; exact .int b
  | _, _, _, .str b, r => by cases r; exact .str b
  | _, _, _, .lst h, r => by cases r with | lst hq r => exact .lst (.inl (.inl (e _ _ hq))) (PyRL.dp e h r)
  | _, _, _, .tup h, r => by cases r with | tup hq r => exact .tup (same_t e hq) (PyRL.dp e h r)
theorem PyRL.dp (e : Same Hv H) : ∀ {ds : List D} {ps : List PyData} {vs : List V}, PyRL ds ps → RpL K Hv vs ds → DpAll K H vs ps
  | _, _, _, .nil, r => by cases r; exact .nil
  | _, _, _, .cons h g, r => by cases r with | cons q r => exact .cons (PyR.dp e h q) (PyRL.dp e g r)
end
end
structure EqOk {α : Type} [DecidableEq α] (f : α → D) (P : α → Prop) (n : Nat) (g : α → PyData) : Prop where
  py : ∀ x, PyR (f x) (g x)
  lay : ∀ x, P x → (g x).canLay0 = true
  dep : ∀ x, (g x).depth ≤ n
  eqv : ∀ x y, PyData.eqv (g x) (g y) = decide (x = y)
theorem EqOk.int : EqOk D.int (fun _ => True) 0 PyData.int := ⟨fun x => .int x, fun x _ => by simp [PyData.canLay0], fun x => by simp [PyData.depth], fun x y => by rw [Bool.eq_iff_iff]; simp [PyData.eqv]⟩
theorem EqOk.str : EqOk D.str (fun x => PyData.strOk x = true) 0 PyData.str := ⟨fun x => .str x, fun x h => by simpa [PyData.canLay0] using h, fun x => by simp [PyData.depth], fun x y => by rw [Bool.eq_iff_iff]; simp [PyData.eqv]⟩
section
variable {α : Type} [DecidableEq α] {f : α → D} {P : α → Prop} {n : Nat} {g : α → PyData}
theorem EqOk.pyL (h : EqOk f P n g) : ∀ xs : List α, PyRL (xs.map f) (xs.map g)
  | [] => .nil
  | x :: xs => .cons (h.py x) (h.pyL xs)
theorem EqOk.layL (h : EqOk f P n g) : ∀ xs : List α, (∀ x ∈ xs, P x) → PyData.canLayAll0 (xs.map g) = true
  | [], _ => by simp [PyData.canLayAll0]
  | x :: xs, q => by
    simp only [List.map_cons, PyData.canLayAll0, h.lay x (q x List.mem_cons_self), h.layL xs fun y hy => q y (List.mem_cons_of_mem _ hy), Bool.and_self]
theorem EqOk.eqvL (h : EqOk f P n g) : ∀ xs ys : List α, PyData.eqvAll (xs.map g) (ys.map g) = decide (xs = ys)
  | [], [] => by simp [PyData.eqvAll]
  | [], y :: ys => by simp [PyData.eqvAll]
  | x :: xs, [] => by simp [PyData.eqvAll]
  | x :: xs, y :: ys => by
    simp only [List.map_cons, PyData.eqvAll, h.eqv x y, h.eqvL xs ys, List.cons.injEq]
    rw [Bool.eq_iff_iff]; simp
theorem EqOk.depL (h : EqOk f P n g) : ∀ xs : List α, PyData.depthAll (xs.map g) ≤ n
  | [] => by simp [PyData.depthAll]
  | x :: xs => by
    have h1 := h.dep x
    have h2 := h.depL xs
    simp only [List.map_cons, PyData.depthAll]
    omega
theorem EqOk.lst (h : EqOk f P n g) : EqOk (fun xs : List α => D.lst (xs.map f)) (fun xs => ∀ x ∈ xs, P x) (n + 1) (fun xs => PyData.list (xs.map g)) :=
  ⟨fun xs => .lst (h.pyL xs), fun xs q => by simpa [PyData.canLay0] using h.layL xs q, fun xs => by have := h.depL xs; simp only [PyData.depth]; omega, fun xs ys => by simpa [PyData.eqv] using h.eqvL xs ys⟩
theorem EqOk.tup (h : EqOk f P n g) : EqOk (fun xs : List α => D.tup (xs.map f)) (fun xs => ∀ x ∈ xs, P x) (n + 1) (fun xs => PyData.tuple (xs.map g)) :=
  ⟨fun xs => .tup (h.pyL xs), fun xs q => by simpa [PyData.canLay0] using h.layL xs q, fun xs => by have := h.depL xs; simp only [PyData.depth]; omega, fun xs ys => by simpa [PyData.eqv] using h.eqvL xs ys⟩
def Vd (O : Om) (d d' : D) : Prop := d = d' ∨ ∃ a ds, d = .rf a ∧ (a, M.lst ds) ∈ O ∧ d' = .lst ds
theorem Vd.dp {K : PySem.W.Frag} {H : Hp} {v : V} {d' : D} {q : PyData} (w : Vd (B.L ++ O) d d') (m : MOk K B O H) (r : Rp K (vis B.F O H) v d) (h : PyR d' q) : Dp K H v q := by
  rcases w with rfl | ⟨a, ds, rfl, hm, rfl⟩
  · exact h.dp vis_le r
  · cases r
    obtain ⟨vs, h1, h2⟩ := (List.mem_append.mp hm).elim (m.lent _ _) (m.mem _ _)
    cases h with
    | lst h => exact .lst (.inl (.inl h1)) (h.dp vis_le h2)
theorem shaped_of {q : PyData} (h1 : q.canLay0 = true) (h2 : q.depth ≤ n) (hn : n ≤ 64) : SeqAt.shaped q = true := by
  unfold SeqAt.shaped
  rw [h1, Bool.true_and]
  exact decide_eq_true (by omega)
theorem rd_neD {K : PySem.W.Frag} {x y : α} (h : EqOk f P n g) (hn : n ≤ 64) (w1 : Vd (B.L ++ O) d1 (f x)) (w2 : Vd (B.L ++ O) d2 (f y)) (h1 : P x) (h2 : P y) : RD K B O (rNeD K) d1 d2 (.bl (!decide (x = y))) := fun u v H Q m r1 r2 k =>
  ⟨g x, g y, w1.dp m r1 (h.py x), w2.dp m r2 (h.py y), shaped_of (h.lay x h1) (h.dep x) hn, shaped_of (h.lay y h2) (h.dep y) hn, by rw [h.eqv]; exact k _ H (Same.refl H) (.bl _)⟩
end
end
end DL
namespace DL
theorem map_item {α : Type} {xs : List α} {f : α → D} {i : Nat} {d : D} (h : (xs.map f)[i]? = some d) : ∃ x, xs[i]? = some x ∧ d = f x := by
  rw [List.getElem?_map] at h
  obtain ⟨x, h1, h2⟩ := Option.map_eq_some_iff.mp h
  exact ⟨x, h1, h2.symm⟩
end DL

set_option Elab.async false
set_option linter.all false
set_option maxRecDepth 100000
set_option maxHeartbeats 2000000
namespace PySem
open PySem.Spec PyProof.Rows
end PySem
namespace L2
open PySem PySem.Spec PyProof.Rows
end L2
namespace DL
open PySem PySem.Spec PyProof.Rows L2
section
variable {X : Cx} {B : Gd} {ρ ρ' : List (Option D)} {O O' O1 O2 : Om} {A : AE} {a b c e o : Expr} {es : List Expr} {d d1 d2 d3 : D} {ds : List D} {pos pos' p apos : Pos} {b1 b2 : Bool} {st : Stmt} {ss rest : List Stmt} {x : Str} {k : Nat} {C : Addr}
theorem et_chainI {op op' : CmpOp} {g g' : Int → Int → Bool} {i j l : Int} (ho : OpR X (compareOp op) (rI0 fun i j => .bl (g i j))) (ho' : OpR X (compareOp op') (rI0 fun i j => .bl (g' i j))) (ha : EV X B ρ O a (.int i)) (hb : EV X B ρ O b (.int j)) (hc : EV X B ρ O c (.int l))
    (hm : lastMarks [op, op'] [b, c] = false := by with_unfolding_all rfl) : ET X B ρ O (.Compare a [op, op'] [b, c] pos) (g i j && g' j l) :=
  pt_imp (pt_chain ho ho' ha hb hc hm) fun σ H Q ⟨st, k⟩ => ⟨st, fun v H1 e1 r1 => by
    cases r1
    refine ⟨st.same e1, fun v H2 e2 r2 => ?_⟩
    cases r2
    refine ⟨i, j, rfl, rfl, g i j, rfl, ?_⟩
    cases h : g i j with
    | false => simp only [h, Bool.false_and] at k ⊢; exact ⟨false, rfl, k _ (e1.trans e2)⟩
    | true =>
      simp only [h, Bool.true_and, if_true] at k ⊢
      refine ⟨(st.same e1).same e2, fun v H3 e3 r3 => ?_⟩
      cases r3
      exact ⟨j, l, rfl, rfl, g' j l, rfl, k _ ((e1.trans e2).trans e3)⟩⟩
theorem atS {z : Str} {i : Int} (h0 : 0 ≤ i) (h : i < (z.length : Int)) : atI z.cps.toList i = some (z.cps.toList.getD i.toNat 0) := atC h0 (by rw [Array.length_toList]; exact h)
end
end DL

set_option Elab.async false
set_option linter.all false
set_option maxRecDepth 100000
set_option maxHeartbeats 2000000
namespace DL
open PySem PySem.Spec PyProof.Rows L2
structure Cmp (α : Type) where
  ok : Prop
  val : α
namespace Cmp
variable {α β : Type}
abbrev ret (a : α) : Cmp α := ⟨True, a⟩
def req (p : Prop) (m : Cmp α) : Cmp α := ⟨p ∧ m.ok, m.val⟩
abbrev bnd (v : β) (f : β → Cmp α) : Cmp α := f v
def bind (m : Cmp β) (f : β → Cmp α) : Cmp α := ⟨m.ok ∧ (f m.val).ok, (f m.val).val⟩
def bad [Inhabited α] : Cmp α := ⟨False, default⟩
end Cmp
structure Exn where
  c : Nat
  d : D
inductive Ctl (S L R : Type) where
  | nx (s : S) | rt (r : R) | bk (l : L) | ct (l : L) | ex (e : Exn)
section
variable {α S S2 L R : Type}
def forN (f : α → S → Cmp S) : List α → S → Cmp S
  | [], s => .ret s
  | x :: xs, s => (f x s).bind (forN f xs)
def Ctl.then_ (c : Ctl S L R) (k : S → Cmp (Ctl S2 L R)) : Cmp (Ctl S2 L R) :=
  match c with
  | .nx s => k s
  | .rt r => .ret (.rt r)
  | .bk l => .ret (.bk l)
  | .ct l => .ret (.ct l)
  | .ex e => .ret (.ex e)
def Cmp.bindC (m : Cmp (Ctl S L R)) (k : S → Cmp (Ctl S2 L R)) : Cmp (Ctl S2 L R) := m.bind fun c => c.then_ k
def Ctl.thenR [Inhabited R] (c : Ctl S L R) (k : S → Cmp R) : Cmp R :=
  match c with
  | .nx s => k s
  | .rt r => .ret r
  | _ => .bad
def Cmp.bindR [Inhabited R] (m : Cmp (Ctl S L R)) (k : S → Cmp R) : Cmp R := m.bind fun c => c.thenR k
def Ctl.goOn (c : Ctl S S R) (k : S → Cmp (Ctl S L R)) : Cmp (Ctl S L R) :=
  match c with
  | .nx s => k s
  | .ct s => k s
  | .bk s => .ret (.nx s)
  | .rt r => .ret (.rt r)
  | .ex e => .ret (.ex e)
def forC (f : α → S → Cmp (Ctl S S R)) : List α → S → Cmp (Ctl S L R)
  | [], s => .ret (.nx s)
  | x :: xs, s => (f x s).bind fun c => c.goOn (forC f xs)
end
def aN {S : Type} (st : S → List (Option D) → Om → Prop) (s : S) : AE := { nx := fun ρ O => ∃ ρ', Wk ρ' ρ ∧ st s ρ' O, rt := fun _ _ => False }
def aL {S : Type} (st : S → List (Option D) → Om → Prop) (s : S) : AE := { nx := fun ρ O => ∃ ρ', Wk ρ' ρ ∧ st s ρ' O, ct := fun ρ O => ∃ ρ', Wk ρ' ρ ∧ st s ρ' O, rt := fun _ _ => False }
def aR {R : Type} (rt : R → D → Om → Prop) (r : R) : AE := { nx := fun _ O => rt r .non O, rt := rt r }
def aC {S L R : Type} (st : S → List (Option D) → Om → Prop) (sl : L → List (Option D) → Om → Prop) (rt : R → D → Om → Prop) (ex : Exn → Addr → Str → D → List (Option D) → Om → Prop) : Ctl S L R → AE
  | .nx s => { nx := fun ρ O => ∃ ρ', Wk ρ' ρ ∧ st s ρ' O, rt := fun _ _ => False }
  | .rt r => { nx := fun _ _ => False, rt := rt r }
  | .bk l => { nx := fun _ _ => False, rt := fun _ _ => False, bk := fun ρ O => ∃ ρ', Wk ρ' ρ ∧ sl l ρ' O }
  | .ct l => { nx := fun _ _ => False, rt := fun _ _ => False, ct := fun ρ O => ∃ ρ', Wk ρ' ρ ∧ sl l ρ' O }
  | .ex e => { nx := fun _ _ => False, rt := fun _ _ => False, ex := ex e }
abbrev rtP {R : Type} (e : R → D) : R → D → Om → Prop := fun r d O => Frz O d (e r)
abbrev rtN {α : Type} (e : α → D) : List α → D → Om → Prop := fun r d O => ∃ p, d = .rf p ∧ O = [(p, .lst (r.map e))]
abbrev noNx (A : AE) : AE := { A with nx := fun _ _ => False }
section
variable {X : Cx} {B : Gd} {ρ ρ' : List (Option D)} {O O' O1 O2 : Om} {a b c e o : Expr} {es : List Expr} {d d1 d2 d3 : D} {ds : List D} {pos pos' p apos : Pos} {b1 b2 : Bool} {st : Stmt} {ss rest s1 s2 body : List Stmt} {x : Str}
variable {α β S L R : Type} {A : α → AE}
abbrev JC (X : Cx) (B : Gd) (ss : List Stmt) (ρ : List (Option D)) (O : Om) (A : α → AE) (m : Cmp α) : Prop := m.ok → J X B ss ρ O (A m.val)
abbrev JC1 (X : Cx) (B : Gd) (s : Stmt) (ρ : List (Option D)) (O : Om) (A : α → AE) (m : Cmp α) : Prop := m.ok → J1 X B s ρ O (A m.val)
theorem jc_req {q : Prop} {m : Cmp α} (h : q → JC X B ss ρ O A m) : JC X B ss ρ O A (.req q m) := fun ok => h ok.1 ok.2
theorem jc_one {m : Cmp α} (h : JC1 X B st ρ O A m) : JC X B [st] ρ O A m := fun ok => j_cons (ps_imp (h ok) fun Dn σ H ⟨s, p⟩ => ⟨s, fun ρ O σ H q => p.nx ρ O σ H (j_nil q), p.rt, p.bk, p.ct, p.ex⟩)
theorem jc_nil {v : α} (h : (A v).nx ρ O) : JC X B [] ρ O A (.ret v) := fun _ => j_nil h
theorem jc1_ite {m1 m2 : Cmp α} (hc : ET X B ρ O c b1) (h1 : b1 = true → JC X B s1 ρ O A m1) (h2 : b1 = false → JC X B s2 ρ O A m2) : JC1 X B (.If c s1 s2 pos) ρ O A (if b1 = true then m1 else m2) := fun ok => by
  cases b1 with
  | true => exact j_if hc (fun _ => h1 rfl ok) (fun h => nomatch h)
  | false => exact j_if hc (fun h => nomatch h) (fun _ => h2 rfl ok)
theorem jc_ifr {m1 m2 : Cmp α} (hc : ET X B ρ O c b1) (h1 : b1 = true → JC X B s1 ρ O (fun v => noNx (A v)) m1) (h2 : b1 = false → JC X B rest ρ O A m2) : JC X B (.If c s1 [] pos :: rest) ρ O A (if b1 = true then m1 else m2) := fun ok => by
  cases b1 with
  | true => exact j_cons (j_if hc (fun _ => j_imp (h1 rfl ok) (fun _ _ z => z.elim) (fun _ _ z => z) (fun _ _ z => z) (fun _ _ z => z) (fun _ _ _ _ _ z => z)) (fun h => nomatch h))
  | false => exact j_cons (j_if hc (fun h => nomatch h) (fun _ => j_nil (h2 rfl ok)))
theorem jc_seqN {st1 : S → List (Option D) → Om → Prop} {m1 : Cmp S} {m2 : S → Cmp α} (h1 : JC1 X B st ρ O (aN st1) m1) (h2 : ∀ s ρ' O', st1 s ρ' O' → JC X B rest ρ' O' A (m2 s)) : JC X B (st :: rest) ρ O A (m1.bind m2) := fun ok =>
  j_cons (ps_imp (h1 ok.1) fun Dn σ H ⟨s, p⟩ => ⟨s, fun ρ' O' σ' H' ⟨ρ2, w, q⟩ s' e => p.nx ρ' O' σ' H' (pss_imp (h2 _ _ _ q ok.2) fun Dn σ H ⟨s, p⟩ => ⟨s.weak w, p⟩) s' e, fun _ _ _ _ z => z.elim, fun _ _ _ _ z => z.elim, fun _ _ _ _ z => z.elim, fun _ _ _ _ _ _ _ _ _ z => z.elim⟩)
theorem jc_seqC {S2 : Type} {st1 : S → List (Option D) → Om → Prop} {st2 : S2 → List (Option D) → Om → Prop} {sl : L → List (Option D) → Om → Prop} {rt : R → D → Om → Prop} {ex : Exn → Addr → Str → D → List (Option D) → Om → Prop} {m1 : Cmp (Ctl S L R)} {m2 : S → Cmp (Ctl S2 L R)}
    (h1 : JC1 X B st ρ O (aC st1 sl rt ex) m1) (h2 : ∀ s ρ' O', st1 s ρ' O' → JC X B rest ρ' O' (aC st2 sl rt ex) (m2 s)) : JC X B (st :: rest) ρ O (aC st2 sl rt ex) (m1.bindC m2) := fun ok => by
  obtain ⟨q, v⟩ := m1
  obtain ⟨ok1, ok2⟩ := ok
  have h := h1 ok1
  refine j_cons ?_
  cases v with
  | nx s => exact ps_imp h fun Dn σ H ⟨s, p⟩ => ⟨s, fun ρ' O' σ' H' ⟨ρ2, w, q⟩ s' e => p.nx ρ' O' σ' H' (pss_imp (h2 _ _ _ q ok2) fun Dn σ H ⟨s, p⟩ => ⟨s.weak w, p⟩) s' e, fun _ _ _ _ z => z.elim, fun _ _ _ _ z => z.elim, fun _ _ _ _ z => z.elim, fun _ _ _ _ _ _ _ _ _ z => z.elim⟩
  | rt r => exact ps_imp h fun Dn σ H ⟨s, p⟩ => ⟨s, fun _ _ _ _ z => z.elim, p.rt, fun _ _ _ _ z => z.elim, fun _ _ _ _ z => z.elim, fun _ _ _ _ _ _ _ _ _ z => z.elim⟩
  | bk r => exact ps_imp h fun Dn σ H ⟨s, p⟩ => ⟨s, fun _ _ _ _ z => z.elim, fun _ _ _ _ z => z.elim, p.bk, fun _ _ _ _ z => z.elim, fun _ _ _ _ _ _ _ _ _ z => z.elim⟩
  | ct r => exact ps_imp h fun Dn σ H ⟨s, p⟩ => ⟨s, fun _ _ _ _ z => z.elim, fun _ _ _ _ z => z.elim, fun _ _ _ _ z => z.elim, p.ct, fun _ _ _ _ _ _ _ _ _ z => z.elim⟩
  | ex r => exact ps_imp h fun Dn σ H ⟨s, p⟩ => ⟨s, fun _ _ _ _ z => z.elim, fun _ _ _ _ z => z.elim, fun _ _ _ _ z => z.elim, fun _ _ _ _ z => z.elim, p.ex⟩
theorem jc_seqR [Inhabited R] {st1 : S → List (Option D) → Om → Prop} {sl : L → List (Option D) → Om → Prop} {rt : R → D → Om → Prop} {ex : Exn → Addr → Str → D → List (Option D) → Om → Prop} {m1 : Cmp (Ctl S L R)} {m2 : S → Cmp R}
    (h1 : JC1 X B st ρ O (aC st1 sl rt ex) m1) (h2 : ∀ s ρ' O', st1 s ρ' O' → JC X B rest ρ' O' (aR rt) (m2 s)) : JC X B (st :: rest) ρ O (aR rt) (m1.bindR m2) := fun ok => by
  obtain ⟨q, v⟩ := m1
  obtain ⟨ok1, ok2⟩ := ok
  have h := h1 ok1
  refine j_cons ?_
  cases v with
  | nx s => exact ps_imp h fun Dn σ H ⟨s, p⟩ => ⟨s, fun ρ' O' σ' H' ⟨ρ2, w, q⟩ s' e => p.nx ρ' O' σ' H' (pss_imp (h2 _ _ _ q ok2) fun Dn σ H ⟨s, p⟩ => ⟨s.weak w, p⟩) s' e, fun _ _ _ _ z => z.elim, fun _ _ _ _ z => z.elim, fun _ _ _ _ z => z.elim, fun _ _ _ _ _ _ _ _ _ z => z.elim⟩
  | rt r => exact ps_imp h fun Dn σ H ⟨s, p⟩ => ⟨s, fun _ _ _ _ z => z.elim, p.rt, fun _ _ _ _ z => z.elim, fun _ _ _ _ z => z.elim, fun _ _ _ _ _ _ _ _ _ z => z.elim⟩
  | bk r => exact False.elim ok2
  | ct r => exact False.elim ok2
  | ex r => exact False.elim ok2
theorem jc_set (i : Nat) {v : β} {E : β → D} {m : β → Cmp α} (nd : X.N.Nodup) (he : EV X B ρ O e (E v)) (h : ∀ y, JC X B rest (ρ.set i (some (E y))) O A (m y)) (hi : X.N[i]? = some x := by rfl) (hx : Loc X.env.scope x := by first | exact .inl rfl | exact .inr rfl) (hs : swapsWith e (some (.Name x pos')) pos.line X.env = pure false := by rfl)
    (hf : X.fn x = true ∨ X.env.scope.names.lookup x = some .local := by first | exact .inr rfl | exact .inl rfl) : JC X B (.Assign [.Name x pos'] e pos :: rest) ρ O A (.bnd v m) := fun ok => j_cons (sset i nd he (h v ok) hi hx hs hf)
theorem jc_setN (i : Nat) {v : List β} {E : β → D} {m : List β → Cmp α} (nd : X.N.Nodup) (he : EN X B ρ O e (v.map E)) (h : ∀ q y, has O q = false → JC X B rest (ρ.set i (some (.rf q))) ((q, .lst (y.map E)) :: O) A (m y)) (hi : X.N[i]? = some x := by rfl) (hx : Loc X.env.scope x := by first | exact .inl rfl | exact .inr rfl) (hs : swapsWith e (some (.Name x pos')) pos.line X.env = pure false := by rfl)
    (hf : X.fn x = true ∨ X.env.scope.names.lookup x = some .local := by first | exact .inr rfl | exact .inl rfl) : JC X B (.Assign [.Name x pos'] e pos :: rest) ρ O A (.bnd v m) := fun ok => j_cons (ssetN i nd he (fun q hq => h q v hq ok) hi hx hs hf)
theorem jc_asg {v : β} {E : β → D} {m : β → Cmp α} {tg : Expr} {g : TG} {sl : List Nat} {f} (he : EV X B ρ O e (E v)) (hg : EB X tg g sl f) (h : ∀ y, ∃ ρ', f (E y) ρ = some ρ' ∧ JC X B rest ρ' O A (m y)) (hs : swapsWithSole [tg] e pos.line X.env = pure false := by rfl) (hw : swappedStores [tg] e X.env = pure none := by rfl)
    (h1 : (assignEach [tg] X.env).map (·.2) = [assign tg X.env] := by rfl) : JC X B (.Assign [tg] e pos :: rest) ρ O A (.bnd v m) := fun ok => by
  obtain ⟨ρ', hf, hr⟩ := h v
  exact j_cons (j_asg he hg hf (hr ok) hs hw h1)
theorem jc_ret {v : α} (he : EV X B ρ O e d) (h : (A v).rt d O) : JC X B (.Return (some e) pos :: rest) ρ O A (.ret v) := fun _ => j_cons (j_ret he h)
theorem jc_continue {v : α} (h : (A v).ct ρ O) : JC X B (.Continue pos :: rest) ρ O A (.ret v) := fun _ => j_cons (j_continue h)
theorem jc_append {q : Addr} {v : β} {xs : List β} {E : β → D} {m : List β → Cmp α} {O2 : List β → Om} (ho : EV X B ρ O o (.rf q)) (hm : (q, M.lst (xs.map E)) ∈ O) (he : EV X B ρ O e (E v)) (hp : ∀ ys : List β, Put O q (.lst (xs.map E)) (.lst (ys.map E)) (O2 ys)) (hz : xs.length < sizeLine) (h : ∀ ys, JC X B rest ρ (O2 ys) A (m ys))
    (hbase : attributeBase o "append" X.env (eval o X.env) = eval o X.env := by rfl)
    (hfew : ((backTo pos (starEach [e] X.env)).all (fun x => !x.1) && (backToKw pos (keywordEach [] X.env)).all (fun x => x.1.isSome)
      && decide ([e].length + ([] : List Keyword).length + (if ([] : List Keyword).isEmpty then 0 else 1) < 30)) = true := by rfl)
    (hline : (apos.endLine == pos.line) = true := by rfl) (hs : starEach [e] X.env = (false, eval e X.env) :: starEach [] X.env := by rfl) (hplain : (backTo pos (starEach [] X.env)).any (·.1) = false := by rfl)
    (hsw : swapsWith (.Call (.Attribute o "append" apos) [e] [] pos) none pos'.line X.env = pure false := by rfl) :
    JC X B (.Expr (.Call (.Attribute o "append" apos) [e] [] pos) pos' :: rest) ρ O A (.bnd (xs ++ [v]) m) := fun ok =>
  j_cons (j_expr (eg_append (d := E v) (ds := xs.map E) ho hm (eg_of he) (by have := hp (xs ++ [v]); rw [List.map_append] at this; exact this) (by rw [List.length_map]; exact hz) hbase hfew hline hs hplain) (h _ ok) hsw)
theorem jc1_for {xs : List α} {E : α → D} {iter tg : Expr} {wi : TI} {sl : List Nat} {bf} {g : TG} {G : Om → Prop} {f : α → S → Cmp S} {s0 : S} {st : S → List (Option D) → Om → Prop}
    (hp : PassesOwn (model X.prog X.w) X.A X.env X.xe) (hc : X.calm = true) (hi : EI X B ρ O tg iter wi G (xs.map E)) (hg : EB X tg g sl bf) (hv : ∀ s ρ O, st s ρ O → G O) (h0 : ∃ ρ0, Wk ρ0 ρ ∧ st s0 ρ0 O)
    (hb : ∀ y s ρ O, st s ρ O → ∃ ρ', bf (E y) ρ = some ρ' ∧ JC X B body ρ' O (aL st) (f y s))
    (hfs : ∀ x, foldedSetIterable iter X.env x = pure x := by intro _; rfl) : JC1 X B (.For tg iter body [] pos) ρ O (aN st) (forN f xs s0) := fun ok => by
  refine j_for (fun i ρ' O' => ∃ s, st s ρ' O' ∧ (forN f (xs.drop i) s).ok ∧ (forN f (xs.drop i) s).val = (forN f xs s0).val) hp hc hi hg (fun i ρ O ⟨s, q, _⟩ => hv s ρ O q) (by
    obtain ⟨ρ0, w, q⟩ := h0
    exact ⟨ρ0, w, s0, q, ok, rfl⟩) (fun i d ρ' O' hd ⟨s, q, k1, k2⟩ => ?_) (fun ρ' O' ⟨s, q, k1, k2⟩ => ?_) hfs
  · obtain ⟨y, hy, rfl⟩ := map_item hd
    obtain ⟨hl, ey⟩ := List.getElem?_eq_some_iff.mp hy
    have e1 : xs.drop i = y :: xs.drop (i + 1) := by rw [List.drop_eq_getElem_cons hl, ey]
    rw [e1] at k1 k2
    obtain ⟨ρ2, f1, j⟩ := hb y s ρ' O' q
    have fin : ∀ ρ3 O3, (∃ ρ'', Wk ρ'' ρ3 ∧ st (f y s).val ρ'' O3) → ∃ ρ4, Wk ρ4 ρ3 ∧ ∃ s, st s ρ4 O3 ∧ (forN f (xs.drop (i + 1)) s).ok ∧ (forN f (xs.drop (i + 1)) s).val = (forN f xs s0).val := fun ρ3 O3 ⟨ρ4, w, q4⟩ => ⟨ρ4, w, _, q4, k1.2, k2⟩
    exact ⟨ρ2, f1, j_imp (j k1.1) fin (fun _ _ z => z) (fun _ _ z => z.elim) fin (fun _ _ _ _ _ z => z.elim)⟩
  · rw [List.length_map, List.drop_length] at k2
    have k2' : s = (forN f xs s0).val := k2
    exact ⟨ρ', wk_refl, k2' ▸ q⟩
theorem jc1_forC {xs : List α} {E : α → D} {iter tg : Expr} {wi : TI} {sl : List Nat} {bf} {g : TG} {G : Om → Prop} {f : α → S → Cmp (Ctl S S R)} {s0 : S} {sl' : L → List (Option D) → Om → Prop} {rt : R → D → Om → Prop} {ex : Exn → Addr → Str → D → List (Option D) → Om → Prop} {st : S → List (Option D) → Om → Prop}
    (hp : PassesOwn (model X.prog X.w) X.A X.env X.xe) (hc : X.calm = true) (hi : EI X B ρ O tg iter wi G (xs.map E)) (hg : EB X tg g sl bf) (hv : ∀ s ρ O, st s ρ O → G O) (h0 : ∃ ρ0, Wk ρ0 ρ ∧ st s0 ρ0 O)
    (hb : ∀ y s ρ O, st s ρ O → ∃ ρ', bf (E y) ρ = some ρ' ∧ JC X B body ρ' O (aC st st rt ex) (f y s))
    (hfs : ∀ x, foldedSetIterable iter X.env x = pure x := by intro _; rfl) : JC1 X B (.For tg iter body [] pos) ρ O (aC st sl' rt ex) (forC f xs s0) := fun ok => by
  refine j_for (fun i ρ' O' => ∃ s, st s ρ' O' ∧ (forC (L := L) f (xs.drop i) s).ok ∧ (forC (L := L) f (xs.drop i) s).val = (forC f xs s0).val) hp hc hi hg (fun i ρ O ⟨s, q, _⟩ => hv s ρ O q) (by
    obtain ⟨ρ0, w, q⟩ := h0
    exact ⟨ρ0, w, s0, q, ok, rfl⟩) (fun i d ρ' O' hd ⟨s, q, k1, k2⟩ => ?_) (fun ρ' O' ⟨s, q, k1, k2⟩ => ?_) hfs
  · obtain ⟨y, hy, rfl⟩ := map_item hd
    obtain ⟨hl, ey⟩ := List.getElem?_eq_some_iff.mp hy
    have e1 : xs.drop i = y :: xs.drop (i + 1) := by rw [List.drop_eq_getElem_cons hl, ey]
    rw [e1] at k1 k2
    obtain ⟨ρ2, f1, j⟩ := hb y s ρ' O' q
    obtain ⟨ok1, ok2⟩ := k1
    have k2' : ((f y s).val.goOn (forC (L := L) f (xs.drop (i + 1)))).val = (forC f xs s0).val := k2
    have j' := j ok1
    refine ⟨ρ2, f1, ?_⟩
    cases hv' : (f y s).val with
    | nx s' =>
      rw [hv'] at ok2 k2' j'
      exact j_imp j' (fun ρ3 O3 ⟨ρ4, w, q4⟩ => ⟨ρ4, w, _, q4, ok2, k2'⟩) (fun _ _ z => z.elim) (fun _ _ z => z.elim) (fun _ _ z => z.elim) (fun _ _ _ _ _ z => z.elim)
    | ct s' =>
      rw [hv'] at ok2 k2' j'
      exact j_imp j' (fun _ _ z => z.elim) (fun _ _ z => z.elim) (fun _ _ z => z.elim) (fun ρ3 O3 ⟨ρ4, w, q4⟩ => ⟨ρ4, w, _, q4, ok2, k2'⟩) (fun _ _ _ _ _ z => z.elim)
    | bk s' =>
      rw [hv'] at ok2 k2' j'
      rw [← k2']
      exact j_imp j' (fun _ _ z => z.elim) (fun _ _ z => z.elim) (fun _ _ z => z) (fun _ _ z => z.elim) (fun _ _ _ _ _ z => z.elim)
    | rt r =>
      rw [hv'] at ok2 k2' j'
      rw [← k2']
      exact j_imp j' (fun _ _ z => z.elim) (fun _ _ z => z) (fun _ _ z => z.elim) (fun _ _ z => z.elim) (fun _ _ _ _ _ z => z.elim)
    | ex r =>
      rw [hv'] at ok2 k2' j'
      rw [← k2']
      exact j_imp j' (fun _ _ z => z.elim) (fun _ _ z => z.elim) (fun _ _ z => z.elim) (fun _ _ z => z.elim) (fun _ _ _ _ _ z => z)
  · rw [List.length_map, List.drop_length] at k2
    have k2' : Ctl.nx s = (forC f xs s0).val := k2
    rw [← k2']
    exact ⟨ρ', wk_refl, q⟩
inductive Drp : Om → Addr → M → Om → Prop where
  | head {O : Om} {p : Addr} {m : M} : Drp ((p, m) :: O) p m O
  | tail {O O' : Om} {q : Addr × M} {p : Addr} {m : M} : Drp O p m O' → Drp (q :: O) p m (q :: O')
theorem Drp.mem {p : Addr} {m : M} : ∀ {O O' : Om}, Drp O p m O' → (p, m) ∈ O
  | _, _, .head => List.mem_cons_self
  | _, _, .tail h => List.mem_cons_of_mem _ h.mem
theorem Drp.sub {p : Addr} {m : M} : ∀ {O O' : Om}, Drp O p m O' → List.Sublist O' O
  | _, _, .head => List.sublist_cons_self _ _
  | _, _, .tail h => h.sub.cons₂ _
theorem Drp.no {p : Addr} {m : M} : ∀ {O O' : Om}, Drp O p m O' → (O.map (·.1)).Nodup → has O' p = false
  | _, _, .head (O := O) (p := p), nd => by
    rw [List.map_cons, List.nodup_cons] at nd
    cases q : has O p with
    | false => rfl
    | true =>
      obtain ⟨m', h⟩ := has_mem.mp q
      exact absurd (List.mem_map_of_mem (f := (·.1)) h) nd.1
  | _, _, .tail (q := q) (O' := O') (p := p) h, nd => by
    rw [List.map_cons, List.nodup_cons] at nd
    have h1 := h.no nd.2
    have h2 : q.1 ≠ p := fun z => nd.1 (z ▸ List.mem_map_of_mem (f := (·.1)) h.mem)
    show (q.1 == p || has O' p) = false
    rw [h1, Bool.or_false]
    exact beq_eq_false_iff_ne.mpr h2
theorem has_sub {O O' : Om} (h : ∀ q ∈ O', q ∈ O) {a : Addr} (e : has O a = false) : has O' a = false := by
  cases q : has O' a with
  | false => rfl
  | true =>
    obtain ⟨m, hm⟩ := has_mem.mp q
    have := has_mem.mpr ⟨m, h _ hm⟩
    rw [e] at this; cases this
theorem vis_sub {F : Addr → Bool} {O O' : Om} {H : Hp} (h : ∀ q ∈ O', q ∈ O) : Same (vis F O H) (vis F O' H) := fun a o q => by
  obtain ⟨h1, h2, h3⟩ := vis_some.mp q
  exact vis_some.mpr ⟨h1, has_sub h h2, h3⟩
theorem StOk.sub {K : PySem.W.Frag} {σ : L2.St} {H : Hp} (s : StOk K B ρ O σ H) (h : ∀ q ∈ O', q ∈ O) (nd : (O'.map (·.1)).Nodup) : StOk K B ρ O' σ H :=
  ⟨⟨fun a o q => ⟨(s.m.base a o q).1, has_sub h (s.m.base a o q).2⟩, fun a m q => (s.m.mem a m (h _ q)).mono (vis_sub h) (fun _ q => q), nd, fun a m q => (s.m.lent a m q).mono (vis_sub h) (fun _ q => q)⟩, s.env.mono (vis_sub h)⟩
theorem StOk.frz1 {K : PySem.W.Frag} {σ : L2.St} {H : Hp} {q : Addr} (s : StOk K B ρ O σ H) (h : Drp O q (.lst ds) O') (i : Nat) (hi : ρ[i]? = some (some (.rf q))) : StOk K B (ρ.set i (some (.lst ds))) O' σ H := by
  have s' := s.sub (fun q hq => h.sub.subset hq) (s.m.nd.sublist (h.sub.map _))
  refine ⟨s'.m, ?_⟩
  obtain ⟨v, e1, r1⟩ := s.env.2 i _ hi
  cases r1
  obtain ⟨vs, h1, h2⟩ := s.m.mem _ _ h.mem
  have hq : has O q = true := has_mem.mpr ⟨_, h.mem⟩
  obtain ⟨fq, _, _⟩ := vis_some.mp (s.m.visM hq h1)
  have r : Rp K (vis B.F O' H) (.ref q) (.lst ds) := .lst (vis_some.mpr ⟨fq, h.no s.m.nd, h1⟩) (h2.mono (vis_sub fun q hq => h.sub.subset hq))
  have := s'.env.set (i := i) r
  rwa [show σ.set i (some (V.ref q)) = σ from by
    apply List.ext_getElem?
    intro j
    by_cases hj : i = j
    · subst hj
      rw [e1]
      have hl := (List.getElem?_eq_some_iff.mp e1).1
      rw [List.getElem?_set_self hl]
    · rw [List.getElem?_set_ne hj]] at this
theorem jc_conv {m : Cmp α} (hc : ∀ (K : PySem.W.Frag) σ H, StOk K B ρ O σ H → StOk K B ρ' O' σ H ∧ Same (vis B.F O H) (vis B.F O' H)) (h : JC X B ss ρ' O' A m) : JC X B ss ρ O A m := fun ok =>
  pss_imp (h ok) fun Dn σ H ⟨s, p⟩ => ⟨(hc _ _ _ s).1, p.grow (hc _ _ _ s).2⟩
theorem jc_frz {q : Addr} {m : Cmp α} (i : Nat) (hd : Drp O q (.lst ds) O') (hi : ρ[i]? = some (some (.rf q))) (h : JC X B ss (ρ.set i (some (.lst ds))) O' A m) : JC X B ss ρ O A m :=
  jc_conv (fun K σ H s => ⟨s.frz1 hd i hi, vis_sub fun q hq => hd.sub.subset hq⟩) h
theorem jc_drp {q : Addr} {mm : M} {m : Cmp α} (hd : Drp O q mm O') (h : JC X B ss ρ O' A m) : JC X B ss ρ O A m :=
  jc_conv (fun K σ H s => ⟨s.sub (fun q hq => hd.sub.subset hq) (s.m.nd.sublist (hd.sub.map _)), vis_sub fun q hq => hd.sub.subset hq⟩) h
theorem jc_perm {m : Cmp α} (hp : List.Perm O O') (h : JC X B ss ρ O' A m) : JC X B ss ρ O A m :=
  jc_conv (fun K σ H s => ⟨s.sub (fun q hq => hp.mem_iff.mpr hq) ((hp.map _).nodup_iff.mp s.m.nd), vis_sub fun q hq => hp.mem_iff.mpr hq⟩) h
end
end DL

set_option Elab.async false
set_option linter.all false
set_option maxRecDepth 100000
set_option maxHeartbeats 2000000
namespace DL
open PySem PySem.Spec PyProof.Rows L2
instance : Inhabited Str := ⟨Str.empty⟩
abbrev cS (c : Nat) : Str := ⟨#[c]⟩
abbrev eC (c : Nat) : D := .str (cS c)
abbrev dL {α : Type} (E : α → D) (xs : List α) : D := .lst (xs.map E)
abbrev dU {α : Type} (E : α → D) (xs : List α) : D := .tup (xs.map E)
abbrev dP2 {α β : Type} (E : α → D) (F : β → D) (p : α × β) : D := .tup [E p.1, F p.2]
abbrev dP3 {α β γ : Type} (E : α → D) (F : β → D) (G : γ → D) (p : α × β × γ) : D := .tup [E p.1, F p.2.1, G p.2.2]
abbrev dUnit (_ : Unit) : D := .non
def dO {α : Type} (E : α → D) : Option α → D
  | none => .non
  | some x => E x
abbrev Row := Int × Int × Int
abbrev dRow (r : Row) : D := .tup [.int r.1, .int r.2.1, .int r.2.2]
def rowAt (r : Row) (i : Int) : Int := if i = 0 then r.1 else if i = 1 then r.2.1 else r.2.2
def ixL {α : Type} [Inhabited α] (xs : List α) (i : Int) : α := xs.getD i.toNat default
def ixS (z : Str) (i : Int) : Nat := z.cps.toList.getD i.toNat 0
def lastL {α : Type} [Inhabited α] (xs : List α) : α := xs.getLastD default
def rangeL (lo hi : Int) : List Int := (List.range (hi - lo).toNat).map fun i : Nat => lo + (i : Int)
abbrev charsL (z : Str) : List Nat := z.cps.toList
theorem rng_eq (lo hi : Int) : rngD lo (hi - lo).toNat = (rangeL lo hi).map D.int := by
  unfold rngD rangeL
  rw [List.map_map]; rfl
theorem rng0_eq (hi : Int) : rngD 0 hi.toNat = (rangeL 0 hi).map D.int := by
  rw [← rng_eq, Int.sub_zero]
theorem atG {α : Type} [Inhabited α] {xs : List α} {E : α → D} {i : Int} (h : 0 ≤ i ∧ i < (xs.length : Int)) : atI (xs.map E) i = some (E (ixL xs i)) := atM default h.1 h.2
theorem atLast {α : Type} [Inhabited α] {xs : List α} {E : α → D} (h : 0 < xs.length) : atI (xs.map E) (-1) = some (E (lastL xs)) := by
  obtain ⟨ys, y, rfl⟩ : ∃ ys y, xs = ys ++ [y] := by
    rcases List.eq_nil_or_concat xs with e | ⟨ys, y, e⟩
    · subst e; simp at h
    · exact ⟨ys, y, by simpa using e⟩
  rw [List.map_append]
  unfold lastL
  rw [List.getLastD_concat]
  exact atI_last _ _
theorem atRow {r : Row} {i : Int} (h : 0 ≤ i ∧ i < 3) : atI [D.int r.1, D.int r.2.1, D.int r.2.2] i = some (.int (rowAt r i)) := by
  obtain ⟨h0, h1⟩ := h
  have : i = 0 ∨ i = 1 ∨ i = 2 := by omega
  rcases this with rfl | rfl | rfl <;> rfl
theorem mod_ix {a n : Int} {k : Nat} (h : 0 < n) (hk : n ≤ (k : Int)) : 0 ≤ a % n ∧ a % n < (k : Int) := ⟨Int.emod_nonneg _ (by omega), Int.lt_of_lt_of_le (Int.emod_lt_of_pos _ h) hk⟩
section
variable {X : Cx} {B : Gd} {ρ ρ' : List (Option D)} {O O' O1 O2 : Om} {a b c e o : Expr} {es : List Expr} {d d1 d2 d3 : D} {ds : List D} {pos pos' p apos : Pos} {b1 b2 : Bool} {st : Stmt} {ss rest s1 s2 body : List Stmt} {x : Str} {k kk : Nat}
variable {α β γ : Type} {E : α → D} {F : β → D}
theorem vsM {q : Addr} (h : (q, M.lst ds) ∈ O) : Vs (B.L ++ O) (.rf q) ds := .inr ⟨q, rfl, List.mem_append_right _ h⟩
theorem vsI : Vs (B.L ++ O) (.lst ds) ds := .inl rfl
theorem vsL (h : Vs B.L d ds) : Vs (B.L ++ O) d ds := by
  rcases h with h | ⟨a, h, m⟩
  · exact .inl h
  · exact .inr ⟨a, h, List.mem_append_left _ m⟩
theorem vwL (h : Vw B.L d ds) : Vw (B.L ++ O) d ds := by
  rcases h with h | h
  · exact .inl (vsL h)
  · exact .inr h
theorem Vs.vw {d : D} (h : Vs O d ds) : Vw O d ds := .inl h
theorem Vw.vq {d : D} (h : Vw O d ds) : Vq O d ds := .inl h
theorem ei_conv {wi : TI} {G : Om → Prop} {tg iter : Expr} {es : List D} (h : EI X B ρ O tg iter wi G ds) (e : ds = es) : EI X B ρ O tg iter wi G es := e ▸ h
theorem ei_rng1 {tg na : Expr} {p p' : Pos} {n : Int} (hgl : Gl X "range") (hm : X.mg "range" = none) (hi : EA X B ρ O [na] [.int n]) (hn : -(2 ^ 62) ≤ n ∧ n < 2 ^ 62) (hse : starEach [na] X.env = [(false, eval na X.env)] := by rfl) :
    EI X B ρ O tg (.Call (.Name "range" p) [na] [] p') (iRng1 (tA X.K B ρ O [.int n])) (fun _ => True) ((rangeL 0 n).map D.int) := ei_conv (ei_range1 hgl hm hi hn hse) (rng0_eq n)
theorem ei_rng2 {tg ma na : Expr} {p p' : Pos} {m n : Int} (hgl : Gl X "range") (hm : X.mg "range" = none) (hi : EA X B ρ O [ma, na] [.int m, .int n]) (hn : -(2 ^ 62) ≤ m ∧ m < 2 ^ 62 ∧ -(2 ^ 62) ≤ n ∧ n < 2 ^ 62)
    (hse : starEach [ma, na] X.env = [(false, eval ma X.env), (false, eval na X.env)] := by rfl) (hse2 : starEach [na] X.env = [(false, eval na X.env)] := by rfl) :
    EI X B ρ O tg (.Call (.Name "range" p) [ma, na] [] p') (iRng2 (tA X.K B ρ O [.int m, .int n])) (fun _ => True) ((rangeL m n).map D.int) := ei_conv (ei_range2 hgl hm hi hn hse hse2) (rng_eq m n)
theorem ei_chars {tg iter : Expr} {z : Str} (hi : EV X B ρ O iter (.str z)) : EI X B ρ O tg iter (iStr (tD X.K B ρ O (.str z))) (fun _ => True) ((charsL z).map eC) := ei_str hi
theorem ei_row {tg iter : Expr} {r : Row} (hi : EV X B ρ O iter (dRow r)) : EI X B ρ O tg iter (iTup X.K (tD X.K B ρ O (dRow r))) (fun _ => True) ([r.1, r.2.1, r.2.2].map D.int) := ei_tup hi
theorem en_lcT {xs : List α} {h : α → D} {pr : α → Bool} {el : α → β} {elt iter tg : Expr} {ifs : List Expr} {scope : Scope} (own : List (Str × Nat)) {wi : TI} {G : Om → Prop} {g : TG} {sl : List Nat} {f}
    (hc : X.calm = true) (hN : X.N.Nodup) (hi : EI X B ρ O tg iter wi G (xs.map h)) (hG : G O) (ok : BlkOk X.N X.env.scope scope own)
    (hg : ∀ X', Blk X scope X' → EB X' tg g sl f) (hsl : ∀ j ∈ sl, j ∈ own.map (·.2))
    (hb : ∀ x ∈ xs, ∃ ρ', f (h x) (wipeD ρ (own.map (·.2))) = some ρ' ∧ (∀ X' B', B'.L = B.L → Blk X scope X' → ETs X' B' ρ' O ifs (pr x)) ∧ (pr x = true → ∀ X' B', B'.L = B.L → Blk X scope X' → EV X' B' ρ' O elt (F (el x))))
    (hz : xs.length < sizeLine) (hs : ∀ x, foldedSetIterable iter X.env x = pure x := by intro _; rfl) :
    EN X B ρ O (.ListComp elt [⟨tg, iter, ifs, 0⟩] scope pos) (((xs.filter pr).map el).map F) := by
  have := en_lcW (el := fun x => F (el x)) hc hN hi hG ok hg hsl hb hz hs (pos := pos)
  rwa [List.map_map]
theorem jc_setLc {A : γ → AE} {m : List β → Cmp γ} {xs : List α} {h : α → D} {pr : α → Bool} {el : α → β} {elt iter tg : Expr} {ifs : List Expr} {scope : Scope} (own : List (Str × Nat)) {wi : TI} {G : Om → Prop} {g : TG} {sl : List Nat} {f}
    (hc : X.calm = true) (hN : X.N.Nodup) (hi : EI X B ρ O tg iter wi G (xs.map h)) (hG : G O) (ok : BlkOk X.N X.env.scope scope own)
    (hg : ∀ X', Blk X scope X' → EB X' tg g sl f) (hsl : ∀ j ∈ sl, j ∈ own.map (·.2))
    (hb : ∀ x ∈ xs, ∃ ρ', f (h x) (wipeD ρ (own.map (·.2))) = some ρ' ∧ (∀ X' B', B'.L = B.L → Blk X scope X' → ETs X' B' ρ' O ifs (pr x)) ∧ (pr x = true → ∀ X' B', B'.L = B.L → Blk X scope X' → EV X' B' ρ' O elt (F (el x))))
    (hz : xs.length < sizeLine) (i : Nat) {y : Str} {py : Pos} (hy : X.N[i]? = some y) (hyl : X.env.scope.names.lookup y = some .local) (hsw : swapsWith (.ListComp elt [⟨tg, iter, ifs, 0⟩] scope pos') (some (.Name y py)) pos.line X.env = pure true)
    (hr : ∀ es, JC X B rest (ρ.set i (some (.lst (es.map F)))) O A (m es)) (hs : ∀ x, foldedSetIterable iter X.env x = pure x := by intro _; rfl) :
    JC X B (.Assign [.Name y py] (.ListComp elt [⟨tg, iter, ifs, 0⟩] scope pos') pos :: rest) ρ O A (.bnd ((xs.filter pr).map el) m) := fun ok' =>
  j_cons (j_setLc (el := fun x => F (el x)) hc hN hi hG ok hg hsl hb hz hy hyl hsw (es := (((xs.filter pr).map el).map F)) (by rw [List.map_map]; rfl) (hr _ ok') hs)
theorem jc_setLcN {A : γ → AE} {m : List β → Cmp γ} {xs : List α} {h : α → D} {pr : α → Bool} {el : α → β} {elt iter tg : Expr} {ifs : List Expr} {scope : Scope} (own : List (Str × Nat)) {wi : TI} {G : Om → Prop} {g : TG} {sl : List Nat} {f}
    (hc : X.calm = true) (hN : X.N.Nodup) (hi : EI X B ρ O tg iter wi G (xs.map h)) (hG : G O) (ok : BlkOk X.N X.env.scope scope own)
    (hg : ∀ X', Blk X scope X' → EB X' tg g sl f) (hsl : ∀ j ∈ sl, j ∈ own.map (·.2))
    (hb : ∀ x ∈ xs, ∃ ρ', f (h x) (wipeD ρ (own.map (·.2))) = some ρ' ∧ (∀ X' B', B'.L = B.L → Blk X scope X' → ETs X' B' ρ' O ifs (pr x)) ∧ (pr x = true → ∀ X' B', B'.L = B.L → Blk X scope X' → EV X' B' ρ' O elt (F (el x))))
    (hz : xs.length < sizeLine) (i : Nat) {y : Str} {py : Pos} (hy : X.N[i]? = some y) (hyl : X.env.scope.names.lookup y = some .local) (hsw : swapsWith (.ListComp elt [⟨tg, iter, ifs, 0⟩] scope pos') (some (.Name y py)) pos.line X.env = pure true)
    (hr : ∀ q es, has O q = false → JC X B rest (ρ.set i (some (.rf q))) ((q, .lst (es.map F)) :: O) A (m es)) (hs : ∀ x, foldedSetIterable iter X.env x = pure x := by intro _; rfl) :
    JC X B (.Assign [.Name y py] (.ListComp elt [⟨tg, iter, ifs, 0⟩] scope pos') pos :: rest) ρ O A (.bnd ((xs.filter pr).map el) m) := fun ok' => by
  refine j_cons ?_
  refine ps_imp (ps_setLc (own := own) (g := g) (tt := tAnyTs (Blk X scope) ifs) (te := tAnyE (Blk X scope) elt) hc hN hy hyl hsw hi.pi ok (fun s H C cl fp => (hg _ ⟨s, H, C, cl, fp, rfl⟩).pg) (fun s H C cl fp => anyTs_ok ⟨s, H, C, cl, fp, rfl⟩) (fun s H C cl fp => anyE_ok ⟨s, H, C, cl, fp, rfl⟩) hs) fun Dn σ H ⟨st, p⟩ => lcW_imp (el := fun x => F (el x)) hc hN hi hG ok hg hsl hb hz σ H _ ⟨st, fun q H1 vs hp e1 hv r => ?_⟩
  have op := st.m.newO hp
  have vs1 : Same (vis B.F O H) (vis B.F ((q, .lst (((xs.filter pr).map el).map F)) :: O) H1) := fun a o h => by
    obtain ⟨h1, h2, h3⟩ := vis_some.mp h
    have ne : a ≠ q := ne_of_none h3 hp
    exact vis_some.mpr ⟨h1, by rw [has_cons, h2, Bool.or_false]; exact beq_eq_false_iff_ne.mpr (Ne.symm ne), e1 _ _ h3⟩
  have r' : RpL X.K (vis B.F ((q, .lst (((xs.filter pr).map el).map F)) :: O) H1) vs (((xs.filter pr).map el).map F) := by
    rw [List.map_map] at *
    exact r
  refine p.nx _ _ _ H1 (hr q ((xs.filter pr).map el) op ok') ⟨⟨fun a o hb => ?_, fun a m hm => ?_, ?_, fun a m hm => (st.m.lent a m hm).mono vs1 fun o q => e1 _ _ q⟩, ?_⟩ vs1
  · have := st.m.base a o hb
    have ne : a ≠ q := ne_of_none this.1 hp
    exact ⟨e1 _ _ this.1, by rw [has_cons, this.2, Bool.or_false]; exact beq_eq_false_iff_ne.mpr (Ne.symm ne)⟩
  · rcases List.mem_cons.mp hm with z | z
    · cases z; exact ⟨vs, hv, r'⟩
    · exact (st.m.mem a m z).mono vs1 fun o q => e1 _ _ q
  · rw [List.map_cons, List.nodup_cons]
    refine ⟨fun z => ?_, st.m.nd⟩
    obtain ⟨⟨a, m⟩, hm, ea⟩ := List.mem_map.mp z
    have : has O q = true := has_mem.mpr ⟨m, by have z : a = q := ea; rw [← z]; exact hm⟩
    rw [op] at this; cases this
  · exact (st.env.mono vs1).set (.rf q)
theorem rdN {r : R2} {op : Operator} (ho : OpR X (binaryOp op) r) (ha : EV X B ρ O a d1) (hb : EV X B ρ O b d2)
    (hr : ∀ (x y : V) (H : Hp) (Q : VK), MOk X.K B O H → Rp X.K (vis B.F O H) x d1 → Rp X.K (vis B.F O H) y d2 → (∀ q H' vs, H q = none → Same H H' → H' q = some (.lst vs) → RpL X.K (vis B.F ((q, .lst ds) :: O) H') vs ds → Q (.ref q) H') → r x y H Q) :
    EN X B ρ O (.BinOp a op b pos) ds := pe_imp (pe_op ho ha hb) fun σ H Q ⟨st, k⟩ => ⟨st, fun x H1 e1 r1 => ⟨st.same e1, fun y H2 e2 r2 => hr x y H2 Q ((st.same e1).same e2).m (r1.mono (vis_same e2)) r2 fun q H3 vs hq e3 hv r => k q H3 vs (e1.free (e2.free hq)) ((e1.trans e2).trans e3) hv r⟩⟩
theorem en_cat {xs ys : List α} (ha : EV X B ρ O a d1) (hb : EV X B ρ O b d2) (w1 : Vs (B.L ++ O) d1 (xs.map E)) (w2 : Vs (B.L ++ O) d2 (ys.map E)) (hz : xs.length + ys.length ≤ sizeLine) : EN X B ρ O (.BinOp a .Add b pos) ((xs ++ ys).map E) :=
  rdN op_cat ha hb fun x y H Q m r1 r2 k => by
    obtain ⟨q1, v1, e1, h1, l1⟩ := w1.at m r1
    obtain ⟨q2, v2, e2, h2, l2⟩ := w2.at m r2
    have la := l1.length
    have lb := l2.length
    rw [List.length_map] at la lb
    refine ⟨q1, q2, v1, v2, e1, e2, h1, h2, by omega, ?_⟩
    rw [List.map_append] at k
    exact new_same m (l1.append l2) k
theorem flat_rep {K : PySem.W.Frag} {H : Hp} {vs : List V} {ds : List D} (r : RpL K H vs ds) : ∀ n : Nat, RpL K H (List.replicate n vs).flatten (List.replicate n ds).flatten
  | 0 => .nil
  | n + 1 => by
    rw [List.replicate_succ, List.replicate_succ, List.flatten_cons, List.flatten_cons]
    exact r.append (flat_rep r n)
theorem en_rep {xs : List α} {n : Int} (ha : EV X B ρ O a d1) (hb : EV X B ρ O b (.int n)) (w1 : Vs (B.L ++ O) d1 (xs.map E)) (h1 : -(2 ^ 63) ≤ n ∧ n < 2 ^ 63) (hz : xs.length * n.toNat ≤ sizeLine) : EN X B ρ O (.BinOp a .Mult b pos) ((List.replicate n.toNat xs).flatten.map E) :=
  rdN op_rep ha hb fun x y H Q m r1 r2 k => by
    obtain ⟨q1, v1, e1, hh, l1⟩ := w1.at m r1
    cases r2
    have la := l1.length
    rw [List.length_map] at la
    refine ⟨q1, n, v1, e1, rfl, hh, h1.1, h1.2, by rw [la]; exact hz, ?_⟩
    have e : (List.replicate n.toNat xs).flatten.map E = (List.replicate n.toNat (xs.map E)).flatten := by
      rw [List.map_flatten, List.map_replicate]
    rw [e] at k
    exact new_same m (flat_rep l1 _) k
theorem any_eqv [DecidableEq α] {P : α → Prop} {n : Nat} {g : α → PyData} (h : EqOk E P n g) (x : α) (xs : List α) : ((xs.map g).any fun z => PyData.eqv z (g x)) = decide (x ∈ xs) := by
  induction xs with
  | nil => rfl
  | cons y ys ih =>
    rw [List.map_cons, List.any_cons, ih, h.eqv, Bool.eq_iff_iff]
    simp only [Bool.or_eq_true, decide_eq_true_eq, List.mem_cons]
    exact or_congr ⟨Eq.symm, Eq.symm⟩ Iff.rfl
theorem rd_notinG {K : PySem.W.Frag} [DecidableEq α] {P : α → Prop} {n : Nat} {g : α → PyData} {x : α} {xs : List α} (h : EqOk E P n g) (hn : n ≤ 63) (w2 : Vd (B.L ++ O) d2 (.lst (xs.map E))) (h1 : P x) (h2 : ∀ y ∈ xs, P y) : RD K B O (rNotInD K) (E x) d2 (.bl (!decide (x ∈ xs))) := fun u v H Q m r1 r2 k =>
  ⟨g x, xs.map g, (h.py x).dp vis_le r1, w2.dp m r2 (.lst (h.pyL xs)), shaped_of (h.lay x h1) (h.dep x) (by omega), shaped_of (n := n + 1) (h.lst.lay xs h2) (h.lst.dep xs) (by omega), by rw [any_eqv h]; exact k _ H (Same.refl H) (.bl _)⟩
theorem vdI : Vd O d d := .inl rfl
theorem vdM {q : Addr} (h : (q, M.lst ds) ∈ O) : Vd (B.L ++ O) (.rf q) (.lst ds) := .inr ⟨q, ds, rfl, List.mem_append_right _ h, rfl⟩
theorem vdL (h : Vs B.L d ds) : Vd (B.L ++ O) d (.lst ds) := by
  rcases h with h | ⟨q, h, m⟩
  · exact .inl h
  · exact .inr ⟨q, ds, h, List.mem_append_left _ m, rfl⟩
theorem EqOk.bl : EqOk D.bl (fun _ => True) 0 PyData.bool := ⟨fun x => .bl x, fun x _ => by simp [PyData.canLay0], fun x => by simp [PyData.depth], fun x y => by rw [Bool.eq_iff_iff]; simp [PyData.eqv]⟩
theorem EqOk.p2 [DecidableEq α] [DecidableEq β] {P : α → Prop} {P' : β → Prop} {n n' : Nat} {g : α → PyData} {g' : β → PyData} (h : EqOk E P n g) (h' : EqOk F P' n' g') : EqOk (dP2 E F) (fun p => P p.1 ∧ P' p.2) (max n n' + 1) (fun p => PyData.tuple [g p.1, g' p.2]) :=
  ⟨fun p => .tup (.cons (h.py _) (.cons (h'.py _) .nil)), fun p q => by simp only [PyData.canLay0, PyData.canLayAll0, h.lay _ q.1, h'.lay _ q.2, Bool.and_self], fun p => by
    have h1 := h.dep p.1
    have h2 := h'.dep p.2
    simp only [PyData.depth, PyData.depthAll]
    omega, fun p q => by
    simp only [PyData.eqv, PyData.eqvAll, h.eqv, h'.eqv]
    rw [Bool.eq_iff_iff]
    simp only [Bool.and_eq_true, decide_eq_true_eq, and_true]
    exact Prod.ext_iff.symm⟩
theorem EqOk.p3 {γ : Type} {G : γ → D} [DecidableEq α] [DecidableEq β] [DecidableEq γ] {P : α → Prop} {P' : β → Prop} {P'' : γ → Prop} {n n' n'' : Nat} {g : α → PyData} {g' : β → PyData} {g'' : γ → PyData} (h : EqOk E P n g) (h' : EqOk F P' n' g') (h'' : EqOk G P'' n'' g'') :
    EqOk (dP3 E F G) (fun p => P p.1 ∧ P' p.2.1 ∧ P'' p.2.2) (max n (max n' n'') + 1) (fun p => PyData.tuple [g p.1, g' p.2.1, g'' p.2.2]) :=
  ⟨fun p => .tup (.cons (h.py _) (.cons (h'.py _) (.cons (h''.py _) .nil))), fun p q => by simp only [PyData.canLay0, PyData.canLayAll0, h.lay _ q.1, h'.lay _ q.2.1, h''.lay _ q.2.2, Bool.and_self], fun p => by
    have h1 := h.dep p.1
    have h2 := h'.dep p.2.1
    have h3 := h''.dep p.2.2
    simp only [PyData.depth, PyData.depthAll]
    omega, fun p q => by
    simp only [PyData.eqv, PyData.eqvAll, h.eqv, h'.eqv, h''.eqv]
    rw [Bool.eq_iff_iff]
    simp only [Bool.and_eq_true, decide_eq_true_eq, and_true]
    rw [Prod.ext_iff, Prod.ext_iff]⟩
abbrev okRow : Row → Prop := fun p => True ∧ True ∧ True
theorem EqOk.row : EqOk dRow okRow 1 (fun p : Row => PyData.tuple [.int p.1, .int p.2.1, .int p.2.2]) := EqOk.p3 EqOk.int EqOk.int EqOk.int
theorem okR (r : Row) : okRow r := ⟨trivial, trivial, trivial⟩
theorem okRs (rs : List Row) : ∀ r ∈ rs, okRow r := fun r _ => okR r
theorem rd_notinStr {K : PySem.W.Frag} {i j : Str} : RD K B O (fun x y H Q => ∃ i j, x = .str i ∧ y = .str j ∧ Q (.bl (!(!(Builtin.Str.occurrences j i 0 j.length 1).isEmpty))) H) (.str i) (.str j) (.bl (!(!(Builtin.Str.occurrences j i 0 j.length 1).isEmpty))) := fun x y H Q m r1 r2 k => by
  cases r1; cases r2
  exact ⟨i, j, rfl, rfl, k _ H (Same.refl H) (.bl _)⟩
end
end DL

set_option Elab.async false
set_option linter.all false
set_option maxRecDepth 100000
set_option maxHeartbeats 2000000
namespace DL
open PySem PySem.Spec PyProof.Rows L2
section
variable {X : Cx} {B : Gd} {ρ ρ' : List (Option D)} {O O' O1 O2 : Om} {a b c e o : Expr} {es : List Expr} {d d1 d2 d3 : D} {ds : List D} {pos pos' p apos : Pos} {b1 b2 : Bool} {st : Stmt} {ss rest s1 s2 body : List Stmt} {x : Str} {k kk : Nat}
variable {α β γ : Type} {E : α → D} {F : β → D} {A : γ → AE}
theorem wk_nn {r r' : List (Option D)} (h : Wk r r') : Wk (none :: r) (none :: r') := wk_none h
theorem atS2 {z : Str} {i : Int} (h : 0 ≤ i ∧ i < (z.length : Int)) : atI z.cps.toList i = some (ixS z i) := atS h.1 h.2
theorem dt_vs (h : Vs (B.L ++ O) d ds) : DT (B.L ++ O) d "list" := by
  rcases h with rfl | ⟨a, rfl, h⟩
  · exact .lst
  · exact .mlst h
theorem ev_globS {t : Str} (hg : Gl X x) (hm : ∃ tk, X.mg x = some (.str t tk)) (hd : (x == ("__debug__" : Str)) = false := by decide) : EV X B ρ O (.Name x pos) (.str t) := by
  obtain ⟨tk, hm⟩ := hm
  exact ev_glob (v := .str t) hg hm ⟨_, rfl⟩ (fun _ => .str _) hd
theorem j_retNew {A : AE} (he : EN X B ρ O e ds) (h : ∀ q, has O q = false → A.rt (.rf q) ((q, .lst ds) :: O)) : J1 X B (.Return (some e) pos) ρ O A :=
  ps_imp (ps_ret he) fun Dn σ H ⟨st, pp⟩ => ⟨st, fun q H1 vs hp e1 hv r => by
    have op := st.m.newO hp
    have vs1 : Same (vis B.F O H) (vis B.F ((q, .lst ds) :: O) H1) := fun a o h => by
      obtain ⟨h1, h2, h3⟩ := vis_some.mp h
      have ne : a ≠ q := ne_of_none h3 hp
      exact vis_some.mpr ⟨h1, by rw [has_cons, h2, Bool.or_false]; exact beq_eq_false_iff_ne.mpr (Ne.symm ne), e1 _ _ h3⟩
    refine pp.rt _ _ _ H1 (h q op) ⟨fun a o hb => ?_, fun a m hm => ?_, ?_, fun a m hm => (st.m.lent a m hm).mono vs1 fun o q => e1 _ _ q⟩ (.rf q)
    · have := st.m.base a o hb
      have ne : a ≠ q := ne_of_none this.1 hp
      exact ⟨e1 _ _ this.1, by rw [has_cons, this.2, Bool.or_false]; exact beq_eq_false_iff_ne.mpr (Ne.symm ne)⟩
    · rcases List.mem_cons.mp hm with z | z
      · cases z; exact ⟨vs, hv, r⟩
      · exact (st.m.mem a m z).mono vs1 fun o q => e1 _ _ q
    · rw [List.map_cons, List.nodup_cons]
      refine ⟨fun z => ?_, st.m.nd⟩
      obtain ⟨⟨a, m⟩, hm, ea⟩ := List.mem_map.mp z
      have : has O q = true := has_mem.mpr ⟨m, by have z : a = q := ea; rw [← z]; exact hm⟩
      rw [op] at this; cases this⟩
theorem jc_retEN {v : List α} {w : γ} (he : EN X B ρ O e (v.map E)) (h : ∀ q, (A w).rt (.rf q) ((q, .lst (v.map E)) :: O)) : JC X B (.Return (some e) pos :: rest) ρ O A (.ret w) := fun _ => j_cons (j_retNew he fun q _ => h q)
end
section
variable {P : Program} {w : World} {K : PySem.W.Frag} {mg : Str → Option Value} {base : Heap}
theorem fn_pureV {Ar : Om → List D → D → Prop} {x qual : Str} {st : Stmt} {f : Addr} {fd : FuncData} {N ps : List Str} {k : Nat} (F : Fun K x qual st f fd) (S : FnScope N ps (defScope st)) (len : ∀ L ds d, Ar L ds d → ds.length = ps.length)
    (h : ∀ (cdv : Value) (A : Around) (outer : List Env) (s : Shared) (H : Hp) (E : XK) (B : Gd) (ds : List D) (d : D), Room k (A.deeper (envOfC qual (defScope st) s.heap.objs.size f cdv)) → Ar B.L ds d →
      J (cxOf CX0 P w K mg base N qual (defScope st) f cdv A outer s H E).nox B (defBody st) (startD N ds) [] { nx := fun _ O' => Frz O' .non d, rt := fun d' O' => Frz O' d' d }) : FnOk P w K mg base CX0 (k + 1) f fd ps (spP K Ar) := by
  refine F.ok S (fun vs H Q E q => ?_) (fun cdv A outer s H vs Q E hr q => ?_)
  · obtain ⟨F', L, ds, d, _, r, ha, _⟩ := q
    rw [r.length]; exact len L ds d ha
  · obtain ⟨F', L, ds, d, bo, r, ha, kk⟩ := q
    refine ⟨_, h cdv A outer s H E ⟨F', H, fun c d _ H => E c d H, L, bo.ok, bo.lF⟩ ds d hr ha, ⟨⟨fun a o e => ⟨e, rfl⟩, (fun a m hm => nomatch hm), (by simp), bo.lent⟩, start_env r⟩, ?_, ?_, fun _ _ _ _ z => z.elim, fun _ _ _ _ z => z.elim, fun _ _ _ _ _ _ _ _ _ z => z.elim⟩
    · intro ρ O σ H' fz s' _
      exact kk _ H' (fun a o q => (s'.m.base a o q).1) (Rp.frz vis_all s'.m.frz fz .non)
    · intro d' O' v H' fz m r'
      exact kk v H' (fun a o q => (m.base a o q).1) (Rp.frz vis_all m.frz fz r')
theorem fn_newV {Ar : Om → List D → List D → Prop} {x qual : Str} {st : Stmt} {f : Addr} {fd : FuncData} {N ps : List Str} {k : Nat} (F : Fun K x qual st f fd) (S : FnScope N ps (defScope st)) (len : ∀ L ds d, Ar L ds d → ds.length = ps.length)
    (h : ∀ (cdv : Value) (A : Around) (outer : List Env) (s : Shared) (H : Hp) (E : XK) (B : Gd) (ds : List D) (es : List D), Room k (A.deeper (envOfC qual (defScope st) s.heap.objs.size f cdv)) → Ar B.L ds es →
      J (cxOf CX0 P w K mg base N qual (defScope st) f cdv A outer s H E).nox B (defBody st) (startD N ds) [] { nx := fun _ O' => ∃ p, D.non = .rf p ∧ O' = [(p, .lst es)], rt := fun d' O' => ∃ p, d' = .rf p ∧ O' = [(p, .lst es)] }) : FnOk P w K mg base CX0 (k + 1) f fd ps (spN K Ar) :=
  fn_new F S len fun cdv A outer s H E B ds es hr ha => j_imp (h cdv A outer s H E B ds es hr ha) (fun _ _ ⟨_, z, _⟩ => nomatch z) (fun _ _ z => z) (fun _ _ z => z) (fun _ _ z => z) (fun _ _ _ _ _ z => z)
end
end DL

set_option Elab.async false
set_option linter.all false
set_option maxRecDepth 100000
set_option maxHeartbeats 2000000
namespace PySem
namespace ErX
open PySem.W PySem.Calls PyProof.Rows PySem.HandSPX
def iArgs (n : Str) (p1 p2 : Pos) : Arguments := { posonlyargs := [], args := [{ arg := "self", annotation := none, pos := p1 }, { arg := n, annotation := none, pos := p2 }], vararg := none, kwonlyargs := [], kw_defaults := [], kwarg := none, defaults := [] }
def iBody (n msg : Str) (k : Nat) (q1 q2 q3 q4 q5 q6 q7 q8 q9 q10 : Pos) : List Stmt :=
  [.Expr (.Call (.Attribute (.Call (.Name "super" q1) [] [] q2) "__init__" q3) [.Constant (.str msg) k q4] [] q5) q6, .Assign [.Attribute (.Name "self" q7) n q8] (.Name n q9) q10]
def iScope (n : Str) : Scope := { kind := .function, names := [("self", .local), (n, .local), ("__class__", .free), ("super", .globalImplicit)], isGenerator := false, isCoroutine := false, more := [] }
def PlainM (o : Expr) (name : Str) (apos pos : Pos) (args : List Expr) : Prop := ∃ pl : Env → Sem Bool, ∀ env : Env, eval (.Call (.Attribute o name apos) args [] pos) env = (do
  let ov ← attributeBase o name env (eval o env)
  standAt apos.atName
  let (f, first) ← holding [ov] (getMethod ov name (pl env))
  callWith pos f first (backTo pos (starEach args env)) [])
structure ErrT (prog : Program) (K : Frag) (mg : Str → Option Value) (C fI : Addr) (n : Str) : Prop where
  cls : ∃ nm q N bs bm sn sub ab col dd k0 k1 k2 k3 k5, K.lookup C = some (excClassObj nm q C N bs bm true sn sub ab col dd k0 k1 k2 k3 k5 "ValueError.__new__") ∧ refsVE bm = true
  sa : findIn K (.ref C) "__setattr__" = some (some (.builtin "object.__setattr__"))
  ga : findIn K (.ref C) "__getattribute__" = some (some (.builtin "BaseException.__getattribute__"))
  gg : findIn K (.ref C) "__getattr__" = some none
  noN : findIn K (.ref C) n = some none
  iC : findIn K (.ref C) "__init__" = some (some (.ref fI))
  tC : typeIn K (.ref fI) = some (.type "function")
  kC : keepIn K (.ref C) = true
  exC : subIn K (.ref C) (.type "BaseException") = some true
  tyC : typeIn K (.ref C) = some (.type "type")
  hdC : hasDictIn K C = true
  subC : mroIn K C (.ref C) = some true
  sup : ks_superIn K C C "__init__" = some (some (.builtin "ValueError.__init__"))
  isB : subIn K (.ref C) (.type "ValueError") = some true
  stat : nsIn K cStatics "thirdparty.any" = some none
  gS : mg "super" = none
  top : (prog.main.scope.names.lookup ("super" : Str)).isSome = false
  lkS : (iScope n).names.lookup ("super" : Str) = some .globalImplicit
  lkC : (iScope n).names.lookup ("__class__" : Str) = some .free
  lkN : (iScope n).names.lookup n = some .local
  ndn : (n == ("__debug__" : Str)) = false
  nse : (n == ("self" : Str)) = false
  fn : ∃ (oc : Value) (od : Option Addr) (dV kV doc pm : Value) (an : Option Addr) (ct : Value) (osl : Array (Option Value)) (cda cc : Addr) (p1 p2 q1 q2 q3 q4 q5 q6 q7 q8 q9 q10 : Pos) (msg qual : Str) (k : Nat) (ccl cl : Value) (cdd cld : Option Addr) (vs ccs csl : Array (Option Value)) (fs : Array Value) (file : Str) (tf : Tok),
    K.lookup fI = some ⟨oc, od, .func (fnX "__init__" qual (iArgs n p1 p2) (iBody n msg k q1 q2 q3 q4 q5 q6 q7 q8 q9 q10) (iScope n) [("__class__", cc)] dV kV doc pm an (.ref cda) ct), osl⟩ ∧ codeIn K (.ref cda) qual = true ∧
    K.lookup cda = some ⟨ccl, cdd, .fields fs, ccs⟩ ∧ fs[2]? = some (.str file tf) ∧ ((prog.main.file : Str) == file) = true ∧ K.lookup cc = some ⟨cl, cld, .cell (some (.ref C)), csl⟩ ∧
    (∀ (s : Shared) (x v : Value), BindsTo s (fnX "__init__" qual (iArgs n p1 p2) (iBody n msg k q1 q2 q3 q4 q5 q6 q7 q8 q9 q10) (iScope n) [("__class__", cc)] dV kV doc pm an (.ref cda) ct) ⟨[x, v], []⟩ [("self", x), (n, v)]) ∧
    PlainM (.Call (.Name "super" q1) [] [] q2) "__init__" q3 q5 [.Constant (.str msg) k q4]
structure InitDone (h h' : Heap) (x C dx t1 : Addr) (n : Str) (v : Value) : Prop where
  keep : ∀ b o, b ≠ x → h.get? b = some o → h'.get? b = some o
  obj : h'.get? x = some { cls := .ref C, dict := some dx, data := .fields #[.ref t1, .none, .none, .none, .bool false, .none] }
  dbig : h.objs.size ≤ dx
  dne : dx ≠ x
  ns : h'.Ns1 dx (fun y => if y = n then some v else none)
structure ErrMade (h h' : Heap) (e C d : Addr) (n : Str) (v : Value) : Prop where
  keep : ∀ b o, h.get? b = some o → h'.get? b = some o
  new : h.objs.size ≤ e
  obj : ∃ oe vs, h'.get? e = some oe ∧ oe.cls = .ref C ∧ oe.dict = some d ∧ oe.data = .fields vs ∧ vs[1]? = some .none
  dbig : h.objs.size ≤ d
  dne : d ≠ e
  ns : h'.Ns1 d (fun y => if y = n then some v else none)
section
variable {prog : Program} {w : World} {A : Around} {E : Value → Shared → Prop} {R : Result → Shared → Prop} {s : Shared} {K : Frag} {mg : Str → Option Value} {C fI : Addr} {n : Str} {base : Heap}
theorem name_here {M : Model} {env : Env} {m : Str → Option Value} {y : Str} {pos : Pos} {v : Value} {Q : Value → Shared → Prop} (hn : s.heap.Ns env.locals m) (hv : m y = some v) (hk : env.scope.kind = .function) (hl : env.kindOf y = some .local) (hd : (y == ("__debug__" : Str)) = false) (h : Q v s) :
    wpAny M A (eval (.Name y pos) env) Q E s := wpAny_Name (wpAny_loadName_local hk hl hn hv h) hd
theorem call_mw {u e t0 : Addr} {rest : List Value} {nm q : Str} {N : Addr} {bs bm : List Value} {sn : List Str} {sub : List Value} {ab : Bool} {col : Option Bool} {dd : Option Addr} {k0 k1 k2 k3 k5 : Option Value} {Q : Value → Shared → Prop}
    (hC : s.heap.get? C = some (excClassObj nm q C N bs bm true sn sub ab col dd k0 k1 k2 k3 k5 "ValueError.__new__")) (hu : s.heap.get? u = some (kxs_mw "ValueError.__init__" e)) (he : s.heap.get? e = some (excO C t0)) (hz : rest.length ≤ sizeLine)
    (hq : ∀ h' t1, (∀ b o, b ≠ e → s.heap.get? b = some o → h'.get? b = some o) → h'.get? e = some (excO C t1) → Q .none { s with heap := h' }) : wpAny (model prog w) A (call (.ref u) rest) Q E s := by
  obtain ⟨hh, g, d, tk, os⟩ := s
  refine wpAny_call (codeAny_of_tree ?_)
  show wpAny _ A.in1 (callAny (.ref u) ⟨rest, []⟩) _ _ _
  simp only [callAny]
  refine wpAny_bind (wpAny_load hu ?_)
  have t1 : (Value.type "method-wrapper" == Value.type "method" || Value.type "method-wrapper" == Value.type "builtin_function_or_method" || Value.type "method-wrapper" == Value.type "method-wrapper") = true := by decide
  simp only [kxs_mw, t1, if_true]
  refine KFB.if_so (by decide) ?_
  refine wpAny_bind (check_bound_init F.excBase_ValueError.toExcCallFacts hC he rfl ?_)
  refine wpAny_bind (wpAny_pure (wpAny_pure ?_))
  refine ⟨plainId_quiet F.excBase_ValueError.init.plain _, codeAny_builtin F.excBase_ValueError.initEntry ?_⟩
  exact exc_init_tree (cls := .ref C) (t0 := t0) (dv := none) (c2 := .none) (c3 := .none) (b4 := .bool false) he hz fun h' k e' _ => hq h' _ k e'
theorem err_init (T : ErrT prog K mg C fI n) (MO : L2.Mod K mg base) (kb : ∀ b o, base.get? b = some o → s.heap.get? b = some o) {x t0 : Addr} {v : Value} (X : K.In s.heap) (hx : s.heap.get? x = some (excO C t0)) (hnx : K.lookup x = none) (hroom : A.depth < recursionLimit)
    (hq : ∀ h' tk dx t1, InitDone s.heap h' x C dx t1 n v → R (.ok (.ret .none)) { s with heap := h', toks := tk }) : codeAny (model prog w) A (.call (.ref fI) ⟨[.ref x, v], []⟩) R s := by
  obtain ⟨oc, od, dV, kV, doc, pm, an, ct, osl, cda, cc, p1, p2, q1, q2, q3, q4, q5, q6, q7, q8, q9, q10, msg, qual, k, ccl, cl, cdd, cld, vs, ccs, csl, fs, file, tf, ho, hcd, hcda, hfs, hfile, hcell, hbind, pl, hpl⟩ := T.fn
  obtain ⟨nm, q, N, bs, bm, sn, sub, ab, col, dd, k0, k1, k2, k3, k5, hC, hbm⟩ := T.cls
  have hcl : clsIn K C = some { name := nm, bases := bs, mro := .ref C :: bm, ns := N, qualname := q, hasDict := true, slotNames := sn, subclasses := sub, abstract := ab, collection := col, hasDel := false } := by unfold clsIn; rw [hC] <;> rfl
  have lim : s.heap.NoLimit := MO.nolimit.keeps kb
  have lkSelf : (iScope n).names.lookup ("self" : Str) = some .local := rfl
  refine ks_codeAny_call_defAt (binds := [("self", .ref x), (n, v)]) hroom (X _ _ ho) rfl lim (codeRec_of X hcd) rfl (hbind _ _ _) ?_ ?_ (fun h₁ hns hk => ?_) rfl rfl rfl
  · intro y hy
    have hy' : y ∈ [(("self" : Str), NameKind.local), (n, .local), ("__class__", .free), ("super", .globalImplicit)] := hy
    simp only [List.mem_cons, List.not_mem_nil, or_false] at hy'
    rcases hy' with rfl | rfl | rfl | rfl <;> (intro z; cases z)
  · intro y hy
    simp only [List.mem_cons, List.not_mem_nil, or_false] at hy
    rcases hy with rfl | rfl
    · exact lkSelf
    · exact T.lkN
  have X₁ : K.In h₁ := X.keeps hk
  have hx₁ := hk _ _ hx
  have hxL : s.heap.objs.size ≠ x := Nat.ne_of_gt (Heap.lt_size hx)
  have vS : (fun y : Str => List.lookup y [(("self" : Str), Value.ref x), (n, v)].reverse) "self" = some (.ref x) := by
    show List.lookup ("self" : Str) [(n, v), (("self" : Str), Value.ref x)] = _
    have : (("self" : Str) == n) = false := by rw [Bool.beq_comm]; exact T.nse
    rw [List.lookup_cons, this]
    rfl
  have vN : (fun y : Str => List.lookup y [(("self" : Str), Value.ref x), (n, v)].reverse) n = some v := by
    show List.lookup n [(n, v), (("self" : Str), Value.ref x)] = _
    rw [List.lookup_cons, beq_self_eq_true]
  obtain ⟨mb, hb1, hb2⟩ := MO.blt
  have hD2 : (excClassObj nm q C N bs bm true sn sub ab col dd k0 k1 k2 k3 k5 "ValueError.__new__").data = .cls { name := nm, bases := bs, mro := .ref C :: bm, ns := N, qualname := q, hasDict := true, slotNames := sn, subclasses := sub, abstract := ab, collection := col, hasDel := false } := rfl
  have I1 : InstAt h₁ x (excO C t0) C none := ⟨hx₁, rfl, rfl, trivial⟩
  show PySem.wpAt _ _ _ (execs (iBody n msg k q1 q2 q3 q4 q5 q6 q7 q8 q9 q10) _) _ _ _
  refine ks_wpAt_execs_cons (ks_wpAt_Expr_any (ks_wpAt_MethodCall (he := hpl _) (ks_wpAt_super_base T.lkS T.lkC rfl rfl (X₁ _ _ ho) rfl rfl rfl (X₁ _ _ hcda) rfl hfs hfile T.top ?_)))
  refine ks_loadName_global rfl T.lkS (loadGlobal_builtin (MO.glob.keeps fun b o e => hk b o (kb b o e)) T.gS (hb1.keeps fun b o e => hk b o (kb b o e)) ((hb2 _ (by decide +kernel)).trans (show bootBuiltins "super" = some (.type "super") by decide +kernel)) ⟨rfl, ?_⟩)
  refine wpAny_loadName_free rfl T.lkC rfl ⟨_, X₁ _ _ hcell, rfl⟩ ?_
  refine wpAny_loadName_local rfl lkSelf hns vS ?_
  refine ks_wpAny_isType_cls (X₁ _ _ hC) hD2 ⟨rfl, ?_⟩
  refine ks_wpAny_call_super (X₁ _ _ hC) hD2 hx₁ rfl (fun c z => by cases z) (looks_mroIn X₁ T.subC) (fun h₂ hso hk₂ => ?_)
  have X₂ : K.In h₂ := X₁.keeps hk₂
  have hsupm : (clsIn K C).bind (fun cd => alongIn K "__init__" ((cd.mro.dropWhile (· != .ref C)).drop 1)) = some (some (.builtin "ValueError.__init__")) := T.sup
  rw [hcl] at hsupm
  have I2 : InstAt h₂ x (excO C t0) C none := ⟨hk₂ _ _ hx₁, rfl, rfl, trivial⟩
  refine kxs_getMethod kxs_ValueError hso (looks_opaque X₂ T.stat) (l₀ := .ref C :: bm) (fun A Q E s k q => wpAny_bind ((looks_clsIn X₂ hcl) A _ E s k (wpAny_pure q))) rfl X₂ hsupm (I2.type.andThen (looks_subIn X₂ T.isB)) (ks_ne X₂ I2 hcl) rfl ?_
  refine kxs_callWith (i := "ValueError.__init__") (x := x) rfl (evalArgs_plain (spliced_cons (wpAny_Constant_str (k := k) (pos := q4) (spliced_nil ?_))))
  have hk3 : ∀ b o, h₂.get? b = some o → (h₂.push (kxs_mw "ValueError.__init__" x)).get? b = some o := fun b o e => Heap.get?_push_of_some _ e
  refine ⟨Heap.get?_push_at rfl rfl, call_mw (hk3 _ _ (X₂ _ _ hC)) (Heap.get?_push_at rfl rfl) (hk3 _ _ (hk₂ _ _ hx₁)) (by show 1 ≤ sizeLine; decide) fun h₄ t1 hk₄ hx₄ => ?_⟩
  have old : ∀ b o, b ≠ x → h₁.get? b = some o → h₄.get? b = some o := fun b o hb e => hk₄ b o hb (hk3 b o (hk₂ b o e))
  have X₄ : K.In h₄ := fun a o e => old a o (fun z => by rw [z, hnx] at e; cases e) (X₁ _ _ e)
  have hns₄ : h₄.Ns s.heap.objs.size (fun y => List.lookup y [(("self" : Str), Value.ref x), (n, v)].reverse) := by
    obtain ⟨oL, es, ep, hL, r⟩ := hns
    exact ⟨oL, es, ep, old _ _ hxL hL, r⟩
  refine wpAt_of_wpAny ?_
  show wpAny _ _ (execs [.Assign [.Attribute (.Name "self" q7) n q8] (.Name n q9) q10] _) _ _ _
  refine wpAny_execs_cons (plainObj_wpAny_Assign_Attribute ?_)
  refine name_here hns₄ vN rfl T.lkN T.ndn (name_here hns₄ vS rfl lkSelf rfl ?_)
  refine set_plain X₄ (ox := excO C t1) (od := none) ⟨hx₄, rfl, rfl, trivial⟩ T.sa ?_
  refine exc_osa X₄ hx₄ hcl (show refsVE (.ref C :: bm) = true from hbm) rfl T.noN (fun h₅ tk₅ dx k₅ dn dne hx₅ hn₅ => ?_)
  show wpAny _ _ (execs _ _) _ _ _
  have z4 : s.heap.objs.size ≤ h₄.objs.size := Nat.le_of_lt hns₄.lt
  exact wpAny_execs_nil (hq h₅ tk₅ dx t1 ⟨fun b o hb e => k₅ b o hb (old b o hb (hk b o e)), hx₅, Nat.le_trans z4 dn, dne, hn₅⟩)
theorem err_made (T : ErrT prog K mg C fI n) (MO : L2.Mod K mg base) (kb : ∀ b o, base.get? b = some o → s.heap.get? b = some o) {v : Value} (X : K.In s.heap) (hroom : A.depth + 1 < recursionLimit)
    (hq : ∀ h' tk e d, ErrMade s.heap h' e C d n v → R (.ok (.ret (.ref e))) { s with heap := h', toks := tk }) : codeAny (model prog w) A (.call (.ref C) ⟨[v], []⟩) R s := by
  obtain ⟨nm, q, N, bs, bm, sn, sub, ab, col, dd, k0, k1, k2, k3, k5, hC, hbm⟩ := T.cls
  obtain ⟨hp, g, dr, tk, os⟩ := s
  have kk : ∀ b o, hp.get? b = some o → ((hp.push (kdv_tup [v])).push (excO C hp.objs.size)).get? b = some o := fun b o e => Heap.get?_push_of_some _ (Heap.get?_push_of_some _ e)
  have hget : ((hp.push (kdv_tup [v])).push (excO C hp.objs.size)).get? (hp.objs.size + 1) = some (excO C hp.objs.size) := by heap_get
  have hnx : K.lookup (hp.objs.size + 1) = none := by
    cases e : K.lookup (hp.objs.size + 1) with
    | none => rfl
    | some o =>
      have z : hp.get? (hp.objs.size + 1) = some o := X _ _ e
      exact absurd (Nat.lt_of_succ_lt (Heap.lt_size z)) (Nat.lt_irrefl _)
  refine call_own F.excBase_ValueError (fun Y => refsVE_contains Y bm hbm) (X _ _ hC) (looks_findIn X T.iC) (fun self => bind_fn X self T.tC) (by show 1 ≤ sizeLine; decide) ?_
  refine err_init (s := ⟨(hp.push (kdv_tup [v])).push (excO C hp.objs.size), g, dr, tk, os⟩) T MO (fun b o e => kk b o (kb b o e)) (X.keeps kk) hget hnx hroom fun h' tk' dx t1 ⟨k', hx, dn, dne, hns⟩ => ?_
  have old : ∀ b o, hp.get? b = some o → h'.get? b = some o := fun b o e => k' b o (Nat.ne_of_lt (Nat.lt_succ_of_lt (Heap.lt_size e))) (kk b o e)
  have z : hp.objs.size ≤ dx := by
    have q : ((hp.push (kdv_tup [v])).push (excO C hp.objs.size)).objs.size ≤ dx := dn
    rw [Heap.size_push, Heap.size_push] at q
    exact Nat.le_trans (Nat.le_trans (Nat.le_succ _) (Nat.le_succ _)) q
  exact ⟨rfl, hq h' tk' (hp.objs.size + 1) dx ⟨old, Nat.le_succ _, ⟨_, _, hx, rfl, rfl, rfl, rfl⟩, z, dne, hns⟩⟩
end
end ErX
end PySem

set_option Elab.async false
set_option linter.all false
set_option maxRecDepth 100000
set_option maxHeartbeats 2000000
namespace DL
open PySem PySem.Spec PyProof.Rows L2
def lookS : List (Str × Int) → Str → Option Int
  | [], _ => none
  | (k, i) :: r, z => if k = z then some i else lookS r z
def opsL : List (Str × Int) := [("not", 1), ("flip", 1), ("and", 2), ("or", 2), ("else", 2), ("pareto", 2)]
def arLaw (L : Om) (ds : List D) (d : D) : Prop := ∃ s : List Int, ds = [.frl (s.map D.int)] ∧ s.length ≤ 63 ∧ d = .bl true
theorem law_sp {K : PySem.W.Frag} {H : Hp} {a : Addr} {ns : List Int} {Q : VK} {E : XK} {Ar : Om → List D → D → Prop} (hA : Ar [] [.frl (ns.map D.int)] (.bl true)) (hS : SqL K H a (ns.map V.int)) (k : ∀ H', Q (.bl true) H') : spP K Ar [.ref a] H Q E := by
  have e : Same H (vis (fun _ => false) [] H) := fun a o h => vis_some.mpr ⟨rfl, rfl, h⟩
  exact ⟨fun _ => false, [], [.frl (ns.map D.int)], .bl true, ⟨fun a h => (by cases h), fun a m h => (by cases h), fun a m h => (by cases h)⟩, .cons (.frl (e.seq hS) (RpL.ofInts ns)) .nil, hA, fun v H' _ r => by cases r; exact k H'⟩
section
variable {P : Program} {w : World} {K : PySem.W.Frag} {mg : Str → Option Value} {base : Heap} {CX : CXT} {k : Nat} {f : Addr} {fd : FuncData} {ps : List Str}
theorem fn_law {Ar : Om → List D → D → Prop} (F : FnOk P w K mg base CX k f fd ps (spP K Ar)) (h : ∀ (L : Om) (s : List Int), s.length ≤ 63 → Ar L [.frl (s.map D.int)] (.bl true)) : FnOk P w K mg base CX k f fd ps (spP K arLaw) :=
  F.imp fun vs H Q E ⟨F', L, ds, d, bo, r, ⟨s, e1, e2, e3⟩, kk⟩ => ⟨F', L, ds, d, bo, r, by subst e1 e3; exact h L s e2, kk⟩
end
def Cmp.sat {α : Type} (m : Cmp α) (Q : α → Prop) : Prop := m.ok ∧ Q m.val
section
variable {α β S L R : Type} {Q : α → Prop}
theorem sat_ret {v : α} (h : Q v) : (Cmp.ret v).sat Q := ⟨trivial, h⟩
theorem sat_req {p : Prop} {m : Cmp α} (hp : p) (h : m.sat Q) : (Cmp.req p m).sat Q := ⟨⟨hp, h.1⟩, h.2⟩
theorem sat_bnd {v : β} {f : β → Cmp α} (h : (f v).sat Q) : (Cmp.bnd v f).sat Q := h
theorem sat_bind {m : Cmp β} {f : β → Cmp α} {P : β → Prop} (h : m.sat P) (k : ∀ b, P b → (f b).sat Q) : (m.bind f).sat Q := ⟨⟨h.1, (k _ h.2).1⟩, (k _ h.2).2⟩
theorem sat_ite {b : Bool} {m1 m2 : Cmp α} (h1 : b = true → m1.sat Q) (h2 : b = false → m2.sat Q) : (if b = true then m1 else m2).sat Q := by
  cases b with
  | true => exact h1 rfl
  | false => exact h2 rfl
theorem sat_mono {m : Cmp α} {P : α → Prop} (h : m.sat P) (k : ∀ a, P a → Q a) : m.sat Q := ⟨h.1, k _ h.2⟩
theorem sat_forN {xs : List β} {f : β → S → Cmp S} {s : S} (I : Nat → S → Prop) (h0 : I 0 s) (hs : ∀ i x s, xs[i]? = some x → I i s → (f x s).sat (I (i + 1))) : (forN f xs s).sat (I xs.length) := by
  induction xs generalizing s I with
  | nil => exact ⟨trivial, h0⟩
  | cons x xs ih =>
    have h1 := hs 0 x s rfl h0
    have h2 := ih (s := (f x s).val) (fun i s => I (i + 1) s) h1.2 fun i y s hy => hs (i + 1) y s (by simpa using hy)
    exact ⟨⟨h1.1, h2.1⟩, h2.2⟩
theorem sat_forR {n : Int} {f : Int → S → Cmp S} {s : S} (I : Nat → S → Prop) (h0 : I 0 s) (hs : ∀ (i : Nat) s, (i : Int) < n → I i s → (f (i : Int) s).sat (I (i + 1))) : (forN f (rangeL 0 n) s).sat (I n.toNat) := by
  have hl : (rangeL 0 n).length = n.toNat := by simp [rangeL]
  have := sat_forN (xs := rangeL 0 n) (f := f) (s := s) I h0 fun i x s hx hi => by
    obtain ⟨hi', e⟩ := List.getElem?_eq_some_iff.mp hx
    rw [hl] at hi'
    have : x = (i : Int) := by rw [← e]; simp [rangeL]
    subst this
    exact hs i s (by omega) hi
  rwa [hl] at this
theorem sat_bindR [Inhabited R] {m : Cmp (Ctl S L R)} {k : S → Cmp R} {Q : R → Prop} {P : Ctl S L R → Prop} (h : m.sat P) (k' : ∀ c, P c → (c.thenR k).sat Q) : (m.bindR k).sat Q := sat_bind h k'
theorem sat_bindC {S2 : Type} {m : Cmp (Ctl S L R)} {k : S → Cmp (Ctl S2 L R)} {Q : Ctl S2 L R → Prop} {P : Ctl S L R → Prop} (h : m.sat P) (k' : ∀ c, P c → (c.then_ k).sat Q) : (m.bindC k).sat Q := sat_bind h k'
theorem sat_forC {xs : List β} {f : β → S → Cmp (Ctl S S R)} {s : S} (I : Nat → S → Prop) (h0 : I 0 s) (hs : ∀ i x s, xs[i]? = some x → I i s → (f x s).sat fun c => ∃ s', (c = .nx s' ∨ c = .ct s') ∧ I (i + 1) s') : (forC (L := L) f xs s).sat fun c => ∃ s', c = .nx s' ∧ I xs.length s' := by
  induction xs generalizing s I with
  | nil => exact ⟨trivial, s, rfl, h0⟩
  | cons x xs ih =>
    obtain ⟨o1, s', h1, h2⟩ := hs 0 x s rfl h0
    have h3 := ih (s := s') (fun i s => I (i + 1) s) h2 fun i y s hy => hs (i + 1) y s (by simpa using hy)
    unfold forC
    refine sat_bind (P := fun c => c = .nx s' ∨ c = .ct s') ⟨o1, h1⟩ fun c hc => ?_
    rcases hc with rfl | rfl <;> exact h3
end
end DL

set_option Elab.async false
set_option linter.all false
set_option maxRecDepth 100000
set_option maxHeartbeats 4000000
namespace DL
open PySem PySem.Spec PyProof.Rows L2 TL
theorem un65 {k : Nat} {A : Around} (r : Room k A) : A.units + 65 < cLine := by have := r.un; omega
def sortI (xs : List Int) : List Int := xs.mergeSort (fun a b => decide (a ≤ b))
theorem sortI_perm (xs : List Int) : (sortI xs).Perm xs := List.mergeSort_perm _ _
theorem sortI_le (xs : List Int) : (sortI xs).Pairwise (· ≤ ·) := by
  have h := List.pairwise_mergeSort (le := fun (a b : Int) => decide (a ≤ b)) (fun a b c h1 h2 => by simp at *; omega) (fun a b => by simp; omega) xs
  exact h.imp fun h => of_decide_eq_true h
theorem sortI_eq {xs ys : List Int} (h : ys.Perm xs) (hp : ys.Pairwise (· ≤ ·)) : ys = sortI xs :=
  List.Perm.eq_of_pairwise (le := (· ≤ ·)) (fun a b _ _ h1 h2 => by omega) hp (sortI_le xs) (h.trans (sortI_perm xs).symm)
section
variable {X : Cx} {B : Gd} {ρ : List (Option D)} {O : Om} {d : D}
theorem rp_ints {K : PySem.W.Frag} {H : Hp} (xs : List Int) : RpL K H (xs.map V.int) (xs.map D.int) := by
  induction xs with
  | nil => exact .nil
  | cons x xs ih => exact .cons (.int x) ih
theorem rcn_sorted {K : PySem.W.Frag} {xs : List Int} (w : Vw (B.L ++ O) d (xs.map D.int)) : RCN K B O (rSortedI K) [d] ((sortI xs).map D.int) := fun vs H Q m r k => by
  obtain ⟨a, ws, e, q, rl⟩ := vw_rp w m r
  have ev := rl.ints
  subst ev
  refine ⟨a, xs, e, q, fun ns' p h1 h2 hp => ?_⟩
  rw [sortI_eq h1 h2]
  exact new_same m (rp_ints (sortI xs)) k p hp
end
section
variable {α : Type} {E : α → D} {B : Gd} {O : Om} {d2 : D}
theorem rd_notinH {K : PySem.W.Frag} [DecidableEq α] {P : α → Prop} {n : Nat} {g : α → PyData} {x : α} {xs : List α} {i : Decidable (x ∈ xs)} (h : EqOk E P n g) (hn : n ≤ 63) (w2 : Vd (B.L ++ O) d2 (.lst (xs.map E))) (h1 : P x) (h2 : ∀ y ∈ xs, P y) : RD K B O (rNotInD K) (E x) d2 (.bl (!@decide (x ∈ xs) i)) := by
  obtain rfl : i = List.instDecidableMemOfLawfulBEq x xs := Subsingleton.elim _ _
  exact rd_notinG (K := K) h hn w2 h1 h2
end
section
variable {X : Cx} {B : Gd} {ρ : List (Option D)} {O : Om} {d : D} {C : Addr} {ds fs es' : List D} {k : Nat} {o e : Expr} {es : List Expr} {pos apos : Pos}
end
end DL

set_option Elab.async false
set_option linter.all false
set_option maxRecDepth 100000
set_option maxHeartbeats 4000000
namespace DL
open PySem PySem.Spec PyProof.Rows L2 TL
inductive Tr where
  | leaf (z : Str)
  | un (h : Str) (t : Tr)
  | bin (h : Str) (a b : Tr)
instance : Inhabited Tr := ⟨.leaf Str.empty⟩
namespace Tr
def head : Tr → Str
  | .leaf _ => Str.empty
  | .un h _ => h
  | .bin h _ _ => h
def c1 : Tr → Tr
  | .leaf z => .leaf z
  | .un _ t => t
  | .bin _ a _ => a
def c2 : Tr → Tr
  | .bin _ _ b => b
  | t => t
end Tr
section
variable {X : Cx} {B : Gd} {ρ : List (Option D)} {O : Om} {d : D} {ds : List D} {a b e : Expr} {pos p2 : Pos} {t : Tr}
end
end DL

set_option Elab.async false
set_option linter.all false
set_option maxRecDepth 100000
set_option maxHeartbeats 4000000
namespace PySem.W
open Lean Elab Tactic Meta PySem PySem.Calls PyProof.Rows
section
variable {prog : Program} {w : World} {M : Model} {A : Around} {E : Value → Shared → Prop} {s : Shared} {K : Frag} {x b C f : Addr} {ox ob : Obj} {od odb : Option Obj}
end
end PySem.W
namespace DL
open PySem PySem.Spec PyProof.Rows L2 TL
section
variable {X : Cx} {B : Gd} {ρ : List (Option D)} {O : Om} {d : D} {C f : Addr} {ds ds' fs : List D} {k : Nat} {a b e : Expr} {pos : Pos}
def rOwn1 (X : Cx) (C : Addr) (sp : Sp) (E : XK) : V → Hp → VK → Prop := fun x H Q => ∃ p, x = .ref p ∧ StX.InsC X H p C ∧ sp [.ref p] H Q E
theorem un_neg {CX : CXT} {sp : Sp} {E : XK} (h1 : PySem.W.findIn X.K (.ref C) "__neg__" = some (some (.ref f))) (h2 : PySem.W.isFn X.K (.ref f) = true) (F : FnR X.prog X.w X.K X.mg X.base CX k f sp) (hr : Room k X.A) (hx : Passes CX X E) : UnR X (unaryOp .USub) (rOwn1 X C sp E) := by
  intro pins s σ H x v Q I rx h
  obtain ⟨p, rfl, g1, g3⟩ := h
  cases rx
  obtain ⟨ox, od, J, _⟩ := StX.insC_at I g1
  unfold unaryOp
  refine wpAny_holding (wpAny_bind (PySem.W.special_fn I.kIn J h1 (beq_iff_eq.mp h2) (wpAny_mono (wpAny_call (run_fnR (us := [.ref p]) (vs := [.ref p]) F hr hx I (.cons rfl .nil) g3)) (fun _ _ z => wpAny_pure z) fun _ _ z => z)))
end
end DL

set_option Elab.async false
set_option linter.all false
set_option maxRecDepth 100000
set_option maxHeartbeats 4000000
namespace L2
open PySem PySem.Spec PyProof.Rows
theorem relO_err {v : V} {v' : Value} {n : Str} (r : RelV v v') (f : Str) : RelO (List.lookup f [(n, v)]) (if f = n then some v' else none) := by
  by_cases hw : f = n
  · subst hw
    rw [if_pos rfl]
    have q : List.lookup f [(f, v)] = some v := by simp [List.lookup]
    rw [q]
    exact r
  · rw [if_neg hw]
    have qw : (f == n) = false := by simpa using hw
    have q2 : List.lookup f [(n, v)] = none := by simp [List.lookup, qw]
    rw [q2]
    trivial
section
variable {X : Cx} {C fI : Addr} {n x : Str}
def tMkErr (C : Addr) (n : Str) (ta : TA) : St → Hp → XK → Prop := fun σ H Q => ta σ H fun vs H1 => ∃ v, vs = [v] ∧ ∀ d, H1 d = none → Q (.ref C) (some d) (upd H1 d (.xd [(n, v)]))
theorem pmk_err {a : Expr} {ta : TA} {p pos : Pos} {k : Nat} (T : PySem.ErX.ErrT X.prog X.K X.mg C fI n) (gC : X.mg x = some (.ref C)) (hr : Room k X.A) (ha : PA X [a] ta) (hg : Gl X x) (hdb : (x == ("__debug__" : Str)) = false := by decide)
    (he : starEach (a :: []) X.env = (false, eval a X.env) :: starEach [] X.env := by rfl) (hpl : (backTo pos (starEach [] X.env)).any (·.1) = false := by rfl) :
    PMk X (.Call (.Name x p) [a] [] pos) (tMkErr C n ta) := by
  intro pins s σ H Q I h
  refine wpAny_Call_Name_kw (ld_glob I hg gC ?_ hdb)
  refine PySem.W.callWith_K (h₀ := X.base) I.ok.mod.kin T.kC (thn (ha.run pos pins s σ H _ I h) fun us s1 hh => ?_) he hpl
  obtain ⟨vs, H1, I1, r1, v, ev, q1⟩ := hh
  subst ev
  refine ⟨I1.kIn, ?_⟩
  cases r1 with
  | cons rv rn =>
    rename_i v' us'
    cases rn
    show wpAny _ _ (call (.ref C) [v']) _ _ _
    have hbk := I1.bk
    have hmod := I1.ok.mod
    obtain ⟨hp, g, dr, tk, os⟩ := s1
    refine wpAny_call (PySem.ErX.err_made T hmod hbk I1.kIn (by have := hr.dp; omega) fun h' tk' e d M => ?_)
    show MkP X pins σ Q (.ref e) ⟨h', g, dr, tk', os⟩
    obtain ⟨oe, fv, hoe, hc, hd, hdat, h1⟩ := M.obj
    have hns := M.ns
    obtain ⟨G', g1, g2⟩ := restrict h' fun b => decide (b ≠ e)
    have gk : ∀ b, b ≠ e → G'.get? b = h'.get? b := fun b hb => g1 b (decide_eq_true hb)
    have ge : G'.get? e = none := g2 e (by simp)
    have old : ∀ b o, hp.get? b = some o → G'.get? b = some o := fun b o q => (gk b (Nat.ne_of_lt (Nat.lt_of_lt_of_le (Heap.lt_size q) M.new))).trans (M.keep b o q)
    have ob : ObjOk X.prog X.w (upd H1 d (.xd [(n, v)])) G' d (.xd [(n, v)]) :=
      ⟨_, hns.at (fun o q => (gk d M.dne).trans q), fun f => relO_err rv f⟩
    have J : Inv X pins σ (upd H1 d (.xd [(n, v)])) ⟨G', g, dr, tk', os⟩ := I1.laid (t' := tk') old M.dbig ob
    refine ⟨e, oe, fv, ⟨G', g, dr, tk', os⟩, _, .ref C, some d, rfl, J, fun b o q => ?_, ge, hoe, ⟨hc, hd⟩, hdat, h1, ?_, rfl, I1.bare, raises_own T.exC T.tyC, q1 d (I1.hok.fresh M.dbig)⟩
    · by_cases hb : b = e
      · have q' : G'.get? b = some o := q
        rw [hb, ge] at q'; cases q'
      · exact (gk b hb).symm.trans q
    · rw [upd_ne (Ne.symm M.dne)]
      exact I1.hok.fresh M.new
end
section
variable {X : Cx} {CX : CXT} {k i : Nat} {f C : Addr} {sp : Sp} {x : Str} {e fe : Expr} {es : List Expr} {te tf : TE} {t : TA} {p pos : Pos}
theorem run_fnRS {pins : List (Addr × Obj)} {σ : L2.St} {H : Hp} {s : Shared} {Q : VK} {E : XK} {us : List Value} {vs : List V} (F : FnR X.prog X.w X.K X.mg X.base CX k f sp) (hr : Room k X.A) (hx : PassesAt CX X σ E) (I : Inv X pins σ H s) (r : Vals vs us) (h : sp vs H Q E) :
    codeAny (model X.prog X.w) X.A (.call (.ref f) ⟨us, []⟩) (fun r s' => match r with | .ok (.ret v) => EP X pins σ Q v s' | .ok _ => False | .error e => X.xe e s') s := by
  refine codeAny_mono (F X.A X.stack s H us vs Q E hr I.env0 r h) fun r s' hq => ?_
  cases r with
  | error e => exact hx pins H s e s' I hq
  | ok fl =>
    cases fl with
    | ret u => exact I.after hq
    | next => exact False.elim hq
    | brk => exact False.elim hq
    | cont => exact False.elim hq
theorem pe_callRS {E : St → XK} (F : FnR X.prog X.w X.K X.mg X.base CX k f sp) (hr : Room k X.A) (hg : Gl X x) (hm : X.mg x = some (.ref f)) (hk : PySem.W.keepIn X.K (.ref f) = true) (hx : ∀ σ, PassesAt CX X σ (E σ))
    (ha : PA X (e :: es) t) (hdb : (x == ("__debug__" : Str)) = false := by decide) (he : starEach (e :: es) X.env = (false, eval e X.env) :: starEach es X.env := by rfl) (hpl : (backTo pos (starEach es X.env)).any (·.1) = false := by rfl) :
    PE X (.Call (.Name x p) (e :: es) [] pos) (tCallS sp E t) := by
  refine ⟨fun pins s σ H Q I h => ?_⟩
  refine wpAny_Call_Name_kw (ld_glob I hg hm ?_ hdb)
  refine PySem.W.callWith_K (h₀ := X.base) I.ok.mod.kin hk (thn (ha.run pos pins s σ H _ I h) fun us s1 ⟨vs, H1, I1, r, q⟩ => ⟨I1.kIn, ?_⟩) he hpl
  exact wpAny_call (run_fnRS F hr (hx σ) I1 r q)
end
end L2
namespace DL
open PySem PySem.Spec PyProof.Rows L2 TL
def spR (K : PySem.W.Frag) (C : Addr) (n : Str) (Ar : Om → List D → D → Prop) : Sp := fun vs H _ E => ∃ (F : Addr → Bool) (L : Om) (ds : List D) (d : D), Bor K F L [] H ∧ RpL K (vis F [] H) vs ds ∧ Ar L ds d ∧
  ∀ dx v H', Same H H' → H' dx = some (.xd [(n, v)]) → Rp K (vis F [] H') v d → E (.ref C) (some dx) H'
def aX (C : Addr) (n : Str) (d : D) : AE := { nx := fun _ _ => False, rt := fun _ _ => False, ex := fun C' n' d' _ _ => C' = C ∧ n' = n ∧ d' = d }
def tER (K : PySem.W.Frag) (B : Gd) (ρ : List (Option D)) (O : Om) (C : Addr) (n : Str) (d : D) : TE := fun σ H _ => StOk K B ρ O σ H ∧
  ∀ dx v H', Same H H' → H' dx = some (.xd [(n, v)]) → Rp K (vis B.F O H') v d → B.W (.ref C) (some dx) σ H'
abbrev ER (X : Cx) (B : Gd) (ρ : List (Option D)) (O : Om) (e : Expr) (C : Addr) (n : Str) (d : D) : Prop := PE X e (tER X.K B ρ O C n d)
section
variable {X : Cx} {B : Gd} {ρ : List (Option D)} {O : Om} {d : D} {C C0 f : Addr} {ds fs es' : List D} {k : Nat} {n x : Str} {o a b e : Expr} {es : List Expr} {pos pos2 p apos : Pos} {rest : List Stmt}
theorem has_xd {K : PySem.W.Frag} {H H' : Hp} {dx : Addr} {q : List (Str × V)} (m : MOk K B O H) (e : Same H H') (h : H' dx = some (.xd q)) : has O dx = false := by
  cases z : has O dx with
  | false => rfl
  | true =>
    obtain ⟨mm, hm⟩ := has_mem.mp z
    have r := m.mem dx mm hm
    cases mm with
    | lst ds => obtain ⟨vs, h1, _⟩ := r; rw [e _ _ h1] at h; cases h
    | ins C ns ds => obtain ⟨d', fv, h1, _⟩ := r; rw [e _ _ h1] at h; cases h
    | dk kvs => obtain ⟨kv, h1, _⟩ := r; rw [e _ _ h1] at h; cases h
    | dkl o kv kvs => obtain ⟨h1, _⟩ := r; rw [e _ _ h1] at h; cases h
    | dct ks => obtain ⟨_, _, _, _, h1, _⟩ := r; rw [e _ _ h1] at h; cases h
theorem spR_use {K : PySem.W.Frag} {Ar : Om → List D → D → Prop} {H : Hp} {Q : VK} {E : XK} {vs : List V} (m : MOk K B O H) (r : RpL K (vis B.F O H) vs ds) (h : Ar (B.L ++ O) ds d) (k : ∀ dx v H', Same H H' → H' dx = some (.xd [(n, v)]) → Rp K (vis B.F O H') v d → E (.ref C) (some dx) H') : spR K C n Ar vs H Q E :=
  ⟨frF B O, B.L ++ O, ds, d, bor_of m, by rw [vis_fr]; exact r, h, fun dx v H' e hx r' => k dx v H' e hx (by rw [vis_fr] at r'; exact r')⟩
theorem er_call {Ar : Om → List D → D → Prop} (c : Cal X.prog X.w X.K X.mg X.base (L2.CX X.prog X.w) k x (spR X.K C n Ar)) (hr : Room k X.A) (tk : Takes X B.W) (hg : Gl X x) (ha : EA X B ρ O (e :: es) ds) (h : Ar (B.L ++ O) ds d) (hdb : (x == ("__debug__" : Str)) = false := by decide)
    (he : starEach (e :: es) X.env = (false, eval e X.env) :: starEach es X.env := by rfl) (hpl : (backTo pos (starEach es X.env)).any (·.1) = false := by rfl) : ER X B ρ O (.Call (.Name x p) (e :: es) [] pos) C n d := by
  obtain ⟨f, F, hm⟩ := c.ex
  exact pe_imp (pe_callRS (E := WE B.W) F.raw hr hg hm F.kp (fun σ => passAt tk σ) ha hdb he hpl) fun σ H Q ⟨st, k⟩ => ⟨st, fun vs H1 e1 r1 => spR_use (st.same e1).m r1 h fun dx v H2 e2 hx r2 => k dx v H2 (e1.trans e2) hx r2⟩
theorem j_raise {A : AE} {x : Str} {a : Expr} {fI : Addr} (hc : X.calm = true) (T : PySem.ErX.ErrT X.prog X.K X.mg C fI n) (gC : X.mg x = some (.ref C)) (hr : Room k X.A) (tk : Takes X B.W) (hg : Gl X x) (ha : EV X B ρ O a d) (hdb : (x == ("__debug__" : Str)) = false := by decide)
    (he : starEach (a :: []) X.env = (false, eval a X.env) :: starEach [] X.env := by rfl) (hpl : (backTo pos (starEach [] X.env)).any (·.1) = false := by rfl) (h : A.ex C n d ρ O) : J1 X B (.Raise (some (.Call (.Name x p) [a] [] pos)) none pos2) ρ O A :=
  ps_imp (ps_raise hc tk (pmk_err T gC hr (ea_cons ha ea_nil he) hg hdb he hpl)) fun Dn σ H ⟨st, pp⟩ => ⟨st, fun vs H1 e1 r1 => by
    cases r1 with
    | @cons v0 vs0 d0 ds0 r rn =>
      cases rn
      refine ⟨v0, rfl, fun dx hdx => ?_⟩
      have e2 : Same H1 (upd H1 dx (.xd [(n, v0)])) := same_new hdx
      exact pp.ex C n d ρ O σ _ dx _ h ((st.same e1).same e2) (vis_same (e1.trans e2)) upd_same (has_xd (st.same e1).m e2 upd_same) (r.mono (vis_same e2))⟩
theorem j_exprR {A : AE} (he : ER X B ρ O e C n d) (h : A.ex C n d ρ O) (hs : swapsWith e none pos.line X.env = pure false := by rfl) : J1 X B (.Expr e pos) ρ O A :=
  ps_imp (ps_expr he hs) fun Dn σ H ⟨st, pp⟩ => ⟨st, fun dx v H1 e1 hx r1 => pp.ex C n d ρ O σ H1 dx v h (st.same e1) (vis_same e1) hx (has_xd st.m e1 hx) r1⟩
end
end DL

set_option Elab.async false
set_option linter.all false
set_option maxRecDepth 100000
set_option maxHeartbeats 4000000
namespace DL
open PySem PySem.Spec PyProof.Rows L2 TL
inductive Out where
  | val (d : D)
  | exn (C : Addr) (n : Str) (d : D)
inductive OutI where
  | val (ns : List Str) (fs : List D)
  | exn (C : Addr) (n : Str) (d : D)
def FlatD (d : D) : Prop := (∃ i, d = .int i) ∨ ∃ z, d = .str z
theorem flat_rp {K : PySem.W.Frag} {H H' : Hp} {v : V} {d : D} (f : FlatD d) (r : Rp K H v d) : Rp K H' v d := by
  rcases f with ⟨i, rfl⟩ | ⟨z, rfl⟩
  · cases r; exact .int i
  · cases r; exact .str z
def postX : Out → AE
  | .val d => { nx := fun _ O' => Frz O' .non d, rt := fun d' O' => Frz O' d' d }
  | .exn C n d => aX C n d
def spX (K : PySem.W.Frag) (Ar : Om → List D → Out → Prop) : Sp := fun vs H Q E => ∃ (F : Addr → Bool) (L : Om) (ds : List D) (out : Out), Bor K F L [] H ∧ RpL K (vis F [] H) vs ds ∧ Ar L ds out ∧
  match out with
  | .val d => ∀ v H', Same H H' → Rp K (vis F [] H') v d → Q v H'
  | .exn C n d => ∀ dx v H', Same H H' → H' dx = some (.xd [(n, v)]) → Rp K (vis F [] H') v d → E (.ref C) (some dx) H'
def spXI (K : PySem.W.Frag) (C0 : Addr) (Ar : Om → List D → OutI → Prop) : Sp := fun vs H Q E => ∃ (F : Addr → Bool) (L : Om) (x dx : Addr) (us : List V) (ds : List D) (out : OutI), vs = .ref x :: us ∧ Bor K F L [(x, .ins C0 [] [])] H ∧ F x = false ∧
  H x = some (.ins C0 dx []) ∧ RpL K (vis F [(x, .ins C0 [] [])] H) us ds ∧ Ar L ds out ∧
  match out with
  | .val ns fs => ∀ H' dx' fv, (∀ a o, a ≠ x → H a = some o → H' a = some o) → H' x = some (.ins C0 dx' fv) → fv.map (·.1) = ns → RpL K (vis F [(x, .ins C0 [] [])] H') (fv.map (·.2)) fs → Q .non H'
  | .exn C n d => FlatD d ∧ ∀ ex v H', (∀ a o, a ≠ x → H a = some o → H' a = some o) → H' ex = some (.xd [(n, v)]) → Rp K (vis F [(x, .ins C0 [] [])] H') v d → E (.ref C) (some ex) H'
section
variable {P : Program} {w : World} {K : PySem.W.Frag} {mg : Str → Option Value} {base : Heap}
theorem calm_fn {CX : CXT} {k : Nat} {f : Addr} {fd : FuncData} {ps : List Str} {sp : Sp} (F : FnOk P w K mg base (L2.CX P w) k f fd ps sp) (h : ∀ vs H Q E E', sp vs H Q E → sp vs H Q E') : FnOk P w K mg base CX0 k f fd ps sp :=
  ⟨F.len, fun A outer s H args us vs Q E hr he hb hv hs => codeAny_mono (F.run A outer s H args us vs Q E0 hr he hb hv (h _ _ _ _ _ hs)) fun r s' q => by
    cases r with
    | ok fl =>
      cases fl with
      | ret u => exact q
      | next => exact q
      | brk => exact q
      | cont => exact q
    | error e =>
      obtain ⟨_, _, _, _, _, _, _, _, _, _, _, _, z⟩ := q
      exact z.elim⟩
theorem spX_P {CX : CXT} {k : Nat} {f : Addr} {fd : FuncData} {ps : List Str} {Ar : Om → List D → Out → Prop} (F : FnOk P w K mg base CX k f fd ps (spX K Ar)) : FnOk P w K mg base CX k f fd ps (spP K fun L ds d => Ar L ds (.val d)) :=
  F.imp fun vs H Q E ⟨F', L, ds, d, a, b, c, e⟩ => ⟨F', L, ds, .val d, a, b, c, e⟩
theorem spX_R {CX : CXT} {k : Nat} {f C : Addr} {n : Str} {fd : FuncData} {ps : List Str} {Ar : Om → List D → Out → Prop} (F : FnOk P w K mg base CX k f fd ps (spX K Ar)) : FnOk P w K mg base CX k f fd ps (spR K C n fun L ds d => Ar L ds (.exn C n d)) :=
  F.imp fun vs H Q E ⟨F', L, ds, d, a, b, c, e⟩ => ⟨F', L, ds, .exn C n d, a, b, c, e⟩
theorem spXI_I {CX : CXT} {k : Nat} {f C0 : Addr} {fd : FuncData} {ps : List Str} {Ar : Om → List D → OutI → Prop} (F : FnOk P w K mg base CX k f fd ps (spXI K C0 Ar)) : FnOk P w K mg base CX k f fd ps (spI K C0 fun L ds ns fs => Ar L ds (.val ns fs)) :=
  F.imp fun vs H Q E ⟨F', L, x, dx, us, ds, ns, fs, a, b, c, e, g, h, i⟩ => ⟨F', L, x, dx, us, ds, .val ns fs, a, b, c, e, g, h, i⟩
theorem fn_pureX {Ar : Om → List D → Out → Prop} {x qual : Str} {st : Stmt} {f : Addr} {fd : FuncData} {N ps : List Str} {k : Nat} (F : Fun K x qual st f fd) (S : FnScope N ps (defScope st)) (len : ∀ L ds d, Ar L ds d → ds.length = ps.length)
    (h : ∀ (cdv : Value) (A : Around) (outer : List Env) (s : Shared) (H : Hp) (E : XK) (B : Gd) (ds : List D) (out : Out), Room k (A.deeper (envOfC qual (defScope st) s.heap.objs.size f cdv)) → Takes (cxOf (L2.CX P w) P w K mg base N qual (defScope st) f cdv A outer s H E) B.W →
      PassesOwn (model P w) (cxOf (L2.CX P w) P w K mg base N qual (defScope st) f cdv A outer s H E).A (cxOf (L2.CX P w) P w K mg base N qual (defScope st) f cdv A outer s H E).env (cxOf (L2.CX P w) P w K mg base N qual (defScope st) f cdv A outer s H E).xe → Ar B.L ds out →
      J (cxOf (L2.CX P w) P w K mg base N qual (defScope st) f cdv A outer s H E) B (defBody st) (startD N ds) [] (postX out)) : FnOk P w K mg base (L2.CX P w) (k + 1) f fd ps (spX K Ar) := by
  refine F.okX S (fun vs H Q E q => ?_) (fun cdv A outer s H vs Q E hr q => ?_)
  · obtain ⟨F', L, ds, d, _, r, ha, _⟩ := q
    rw [r.length]; exact len L ds d ha
  · obtain ⟨F', L, ds, out, bo, r, ha, kk⟩ := q
    refine ⟨_, h cdv A outer s H E ⟨F', H, fun c d _ H => E c d H, L, bo.ok, bo.lF⟩ ds out hr (takes_of rfl rfl rfl rfl) (passes_of rfl) ha, ⟨⟨fun a o e => ⟨e, rfl⟩, (fun a m hm => nomatch hm), (by simp), bo.lent⟩, start_env r⟩, ?_⟩
    cases out with
    | val d =>
      refine ⟨?_, ?_, fun _ _ _ _ z => z.elim, fun _ _ _ _ z => z.elim, fun _ _ _ _ _ _ _ _ _ z => z.elim⟩
      · intro ρ O σ H' fz s' _
        exact kk _ H' (fun a o q => (s'.m.base a o q).1) (Rp.frz vis_all s'.m.frz fz .non)
      · intro d' O' v H' fz m r'
        exact kk v H' (fun a o q => (m.base a o q).1) (Rp.frz vis_all m.frz fz r')
    | exn C n d =>
      refine ⟨fun _ _ _ _ z => z.elim, fun _ _ _ _ z => z.elim, fun _ _ _ _ z => z.elim, fun _ _ _ _ z => z.elim, ?_⟩
      rintro C' n' d' ρ O σ H' dx v ⟨rfl, rfl, rfl⟩ s' _ hx _ r'
      exact kk dx v H' (fun a o q => (s'.m.base a o q).1) hx (r'.mono vis_all)
end
end DL

set_option Elab.async false
set_option linter.all false
set_option maxRecDepth 100000
set_option maxHeartbeats 4000000
namespace DL
open PySem PySem.Spec PyProof.Rows L2 TL
abbrev ErrTab := Nat → Addr × Str
def exq (ce : ErrTab) : Exn → Addr → Str → D → List (Option D) → Om → Prop := fun er C n d _ _ => C = (ce er.c).1 ∧ n = (ce er.c).2 ∧ d = er.d
def exq0 (ce : ErrTab) (ρ0 : List (Option D)) (O0 : Om) : Exn → Addr → Str → D → List (Option D) → Om → Prop := fun er C n d ρ O => (C = (ce er.c).1 ∧ n = (ce er.c).2 ∧ d = er.d) ∧ Wk ρ0 ρ ∧ O = O0
section
variable {α β S S2 L R : Type}
def Cmp.bindX (m : Cmp (Ctl Unit Unit α)) (k : α → Cmp (Ctl S L R)) : Cmp (Ctl S L R) := m.bind fun c => match c with
  | .rt v => k v
  | .ex e => .ret (.ex e)
  | _ => ⟨False, .ex ⟨0, .non⟩⟩
def Cmp.calm [Inhabited α] (m : Cmp (Ctl Unit Unit α)) : Cmp α := m.bind fun c => match c with
  | .rt v => .ret v
  | _ => .bad
def tryM (m : Cmp (Ctl S L R)) (h : Exn → Cmp R) : Cmp (Ctl S L R) := m.bind fun c => match c with
  | .ex e => (h e).bind fun r => .ret (.rt r)
  | c => .ret c
theorem bindX_rt {m : Cmp (Ctl Unit Unit α)} {k : α → Cmp (Ctl S L R)} {v : α} (h : m.val = .rt v) : (m.bindX k).ok = (m.ok ∧ (k v).ok) ∧ (m.bindX k).val = (k v).val := by
  unfold Cmp.bindX Cmp.bind; rw [h]; exact ⟨rfl, rfl⟩
theorem bindX_ex {m : Cmp (Ctl Unit Unit α)} {k : α → Cmp (Ctl S L R)} {e : Exn} (h : m.val = .ex e) : (m.bindX k).val = .ex e := by
  unfold Cmp.bindX Cmp.bind; rw [h]
theorem bindX_ok {m : Cmp (Ctl Unit Unit α)} {k : α → Cmp (Ctl S L R)} (h : (m.bindX k).ok) : m.ok ∧ ((∃ v, m.val = .rt v ∧ (k v).ok) ∨ ∃ e, m.val = .ex e) := by
  obtain ⟨h1, h2⟩ := h
  refine ⟨h1, ?_⟩
  cases q : m.val with
  | rt v => rw [q] at h2; exact .inl ⟨v, rfl, h2⟩
  | ex e => exact .inr ⟨e, rfl⟩
  | nx s => rw [q] at h2; exact h2.elim
  | bk s => rw [q] at h2; exact h2.elim
  | ct s => rw [q] at h2; exact h2.elim
end
section
variable {X : Cx} {B : Gd} {ρ ρ0 : List (Option D)} {O O0 : Om} {a b e : Expr} {es : List Expr} {d : D} {pos pos2 pos' np p : Pos} {rest body suite : List Stmt} {b₀ : Stmt} {x nm n : Str} {k i : Nat} {C fI : Addr} {ce : ErrTab}
variable {α β S S2 L R : Type} {st : S → List (Option D) → Om → Prop} {sl : L → List (Option D) → Om → Prop} {rt : R → D → Om → Prop} {ex : Exn → Addr → Str → D → List (Option D) → Om → Prop}
theorem jc_raise {A : Ctl S L R → AE} {er : Nat} {m : D} (hc : X.calm = true) (T : PySem.ErX.ErrT X.prog X.K X.mg (ce er).1 fI (ce er).2) (gC : X.mg x = some (.ref (ce er).1)) (hr : Room k X.A) (tk : Takes X B.W) (hg : Gl X x) (ha : EV X B ρ O a d) (hex : (A (.ex ⟨er, d⟩)).ex (ce er).1 (ce er).2 d ρ O) (hdb : (x == ("__debug__" : Str)) = false := by decide)
    (he : starEach (a :: []) X.env = (false, eval a X.env) :: starEach [] X.env := by rfl) (hpl : (backTo pos (starEach [] X.env)).any (·.1) = false := by rfl) : JC X B (.Raise (some (.Call (.Name x p) [a] [] pos)) none pos2 :: rest) ρ O A (.ret (.ex ⟨er, d⟩)) := fun _ =>
  j_cons (j_raise hc T gC hr tk hg ha hdb he hpl hex)
theorem jc_exprX {A : Ctl S L R → AE} {m : Cmp (Ctl Unit Unit β)} {E : β → D} {f : Cmp (Ctl S L R)} (hv : ∀ v, m.ok → m.val = .rt v → EV X B ρ O e (E v)) (hx : ∀ er, m.ok → m.val = .ex er → ER X B ρ O e (ce er.c).1 (ce er.c).2 er.d)
    (h : JC X B rest ρ O A f) (hex : ∀ er, (A (.ex er)).ex (ce er.c).1 (ce er.c).2 er.d ρ O) (hs : swapsWith e none pos.line X.env = pure false := by rfl) :
    JC X B (.Expr e pos :: rest) ρ O A (m.bindX fun _ => f) := fun ok => by
  obtain ⟨ok1, ⟨v, hm, ok2⟩ | ⟨er, hm⟩⟩ := bindX_ok ok
  · rw [(bindX_rt hm).2]
    exact j_cons (j_expr (eg_of (hv v ok1 hm)) (h ok2) hs)
  · rw [bindX_ex hm]
    exact j_cons (j_exprR (hx er ok1 hm) (hex er) hs)
def onErr {R : Type} [Inhabited R] (i : Nat) (er : Exn) (f : Int → Cmp R) : Cmp R := if er.c = i then (match er.d with | .int z => f z | _ => .bad) else .bad
theorem onErr_ok {R : Type} [Inhabited R] {i : Nat} {er : Exn} {f : Int → Cmp R} (h : (onErr i er f).ok) : ∃ z, er = ⟨i, .int z⟩ ∧ (f z).ok ∧ onErr i er f = f z := by
  obtain ⟨c, d⟩ := er
  unfold onErr at h
  by_cases hc : c = i
  · subst hc
    simp only [if_true] at h
    cases d with
    | int z => exact ⟨z, rfl, h, by unfold onErr; simp⟩
    | _ => exact h.elim
  · simp only [hc, if_false] at h
    exact h.elim
theorem jc_onErr {R : Type} [Inhabited R] {A : R → AE} {er : Exn} {f : Int → Cmp R} {j : Nat} (h : ∀ z, er = ⟨j, .int z⟩ → JC X B rest ρ O A (f z)) : JC X B rest ρ O A (onErr j er f) := fun ok => by
  obtain ⟨z, e, o, q⟩ := onErr_ok ok
  rw [q]; exact h z e o
theorem takes_no : Takes X fun _ _ _ _ => False := fun u s' ⟨_, _, _, _, _, _, _, _, _, _, _, _, _, _, _, _, w⟩ => w.elim
def gdS (B : Gd) (dx : Addr) (q : List (Str × V)) : Gd where
  F := B.F
  Hb := upd B.Hb dx (.xd q)
  W := B.W
  L := B.L
  ok := fun a h => by
    by_cases z : a = dx
    · subst z; exact ⟨_, upd_same⟩
    · rw [upd_ne z]; exact B.ok a h
  lF := B.lF
theorem gdS_in {K : PySem.W.Frag} {H : Hp} {dx : Addr} {q : List (Str × V)} (m : MOk K B O H) (h : H dx = some (.xd q)) (ho : has O dx = false) : MOk K (gdS B dx q) O H :=
  ⟨fun a o e => by
    have e' : upd B.Hb dx (.xd q) a = some o := e
    by_cases z : a = dx
    · subst z; rw [upd_same] at e'; cases e'; exact ⟨h, ho⟩
    · rw [upd_ne z] at e'; exact m.base a o e', m.mem, m.nd, m.lent⟩
theorem gdS_out {K : PySem.W.Frag} {H H0 : Hp} {dx : Addr} {q : List (Str × V)} {O0 : Om} (m0 : MOk K B O0 H0) (h0 : H0 dx = some (.xd q)) (m : MOk K (gdS B dx q) O H) : MOk K B O H :=
  ⟨fun a o e => by
    refine m.base a o ?_
    show upd B.Hb dx (.xd q) a = some o
    by_cases z : a = dx
    · subst z
      have := (m0.base a o e).1
      rw [h0] at this
      rw [upd_same]; exact this
    · rw [upd_ne z]; exact e, m.mem, m.nd, m.lent⟩
theorem jc1_try {m : Cmp (Ctl S L R)} {h : Exn → Cmp R} {C0 : Addr} (i : Nat) (hs : X.stack = X.env :: X.outer) (hf : X.env.frame = some X.env.locals) (hN : X.N.Nodup) (hi : X.N[i]? = some nm) (hln : X.env.kindOf nm = some .local) (hc : Names X x (.ref C0)) (tk : Takes X fun _ _ _ _ => False)
    (hb : ∀ (W : WX) (pn : List (Addr × Obj)) (xe : Value → Shared → Prop), Takes (X.tr pn xe) W → PassesOwn (model X.prog X.w) X.A X.env xe → JC (X.tr pn xe) { B with W := W } body ρ O (aC st sl rt (exq0 ce ρ0 O0)) m)
    (hm : ∀ er, m.ok → m.val = .ex er → (h er).ok → PySem.W.exmOne X.K (.ref (ce er.c).1) (.ref C0) = some true ∧ FlatD er.d)
    (hsu : ∀ er, m.ok → m.val = .ex er → ∀ (a : Addr) (oe : Obj) (pn : List (Addr × Obj)) (dx : Addr) (v : V), Zc (.ref (ce er.c).1) (some dx) oe → (∃ vs, oe.data = .fields vs) → (∀ H, Rp X.K H v er.d) →
      JC (X.suite a ((a, oe) :: pn)) (gdS B dx [((ce er.c).2, v)]) (b₀ :: suite) (ρ0.set i (some (.rf a))) O0 (fun r => noNx (aR rt r)) (h er)) :
    JC1 X B (.Try body [.ExceptHandler (some (.Name x np)) (some nm) (b₀ :: suite) pos'] [] [] pos) ρ O (aC st sl rt ex) (tryM m h) := fun ok => by
  obtain ⟨ok1, ok2⟩ := ok
  let ts : Addr → Value → Option Addr → TS := fun a cls dd Dn σ H => ∃ (er : Exn) (dx : Addr) (v : V), m.val = .ex er ∧ cls = .ref (ce er.c).1 ∧ dd = some dx ∧ (∀ H, Rp X.K H v er.d) ∧ tW X.K (gdS B dx [((ce er.c).2, v)]) (ρ0.set i (some (.rf a))) O0 (noNx (aR rt (h er).val)) Dn σ H
  refine ps_imp (ps_try_as (tb := fun W => tW X.K { B with W := W } ρ O (aC st sl rt (exq0 ce ρ0 O0) m.val)) (ts := ts) (Wout := fun _ _ _ _ => False) hs hf hN hi hln hc tk (fun W pn xe t1 t2 => hb W pn xe t1 t2 ok1) (fun a oe cls dd pn hz hf2 => ?_)) fun Dn σ H ⟨s, p⟩ => ?_
  · refine ⟨fun pins s σ H Dn I ⟨er, dx, v, e1, e2, e3, e4, hw⟩ => ?_⟩
    subst e2; subst e3
    have ok3 : (h er).ok := by
      rw [e1] at ok2; exact ok2.1
    exact (hsu er ok1 e1 a oe pn dx v hz hf2 e4 ok3).run pins s σ H Dn I hw
  · refine ⟨⟨⟨s.m.base, s.m.mem, s.m.nd, s.m.lent⟩, s.env⟩, ?_⟩
    cases hv : m.val with
    | nx y =>
      have e : (tryM m h).val = .nx y := by unfold tryM Cmp.bind; rw [hv]
      rw [e] at p
      exact ⟨fun ρ' O' σ' H' q s' e' => p.nx ρ' O' σ' H' q ⟨⟨s'.m.base, s'.m.mem, s'.m.nd, s'.m.lent⟩, s'.env⟩ e', fun _ _ _ _ z => z.elim, fun _ _ _ _ z => z.elim, fun _ _ _ _ z => z.elim, fun _ _ _ _ _ _ _ _ _ z => z.elim⟩
    | rt y =>
      have e : (tryM m h).val = .rt y := by unfold tryM Cmp.bind; rw [hv]
      rw [e] at p
      exact ⟨fun _ _ _ _ z => z.elim, fun d O v H q s' => p.rt d O v H q ⟨s'.base, s'.mem, s'.nd, s'.lent⟩, fun _ _ _ _ z => z.elim, fun _ _ _ _ z => z.elim, fun _ _ _ _ _ _ _ _ _ z => z.elim⟩
    | bk y =>
      have e : (tryM m h).val = .bk y := by unfold tryM Cmp.bind; rw [hv]
      rw [e] at p
      exact ⟨fun _ _ _ _ z => z.elim, fun _ _ _ _ z => z.elim, fun ρ' O' σ' H' q s' e' => p.bk ρ' O' σ' H' q ⟨⟨s'.m.base, s'.m.mem, s'.m.nd, s'.m.lent⟩, s'.env⟩ e', fun _ _ _ _ z => z.elim, fun _ _ _ _ _ _ _ _ _ z => z.elim⟩
    | ct y =>
      have e : (tryM m h).val = .ct y := by unfold tryM Cmp.bind; rw [hv]
      rw [e] at p
      exact ⟨fun _ _ _ _ z => z.elim, fun _ _ _ _ z => z.elim, fun _ _ _ _ z => z.elim, fun ρ' O' σ' H' q s' e' => p.ct ρ' O' σ' H' q ⟨⟨s'.m.base, s'.m.mem, s'.m.nd, s'.m.lent⟩, s'.env⟩ e', fun _ _ _ _ _ _ _ _ _ z => z.elim⟩
    | ex er =>
      have e : (tryM m h).val = .rt (h er).val := by unfold tryM Cmp.bind; rw [hv]
      rw [e] at p
      refine ⟨fun _ _ _ _ z => z.elim, fun _ _ _ _ z => z.elim, fun _ _ _ _ z => z.elim, fun _ _ _ _ z => z.elim, ?_⟩
      rintro C' n' d' ρ' O' σ' H' dx v ⟨⟨rfl, rfl, rfl⟩, hw, rfl⟩ s' e' hx ho r
      obtain ⟨m1, fl⟩ := hm er ok1 hv (by rw [hv] at ok2; exact ok2.1)
      have mB : MOk X.K B O' H' := ⟨s'.m.base, s'.m.mem, s'.m.nd, s'.m.lent⟩
      refine ⟨true, m1, fun _ a _ => ?_, fun z => nomatch z⟩
      refine ⟨er, dx, v, hv, rfl, rfl, fun H => flat_rp fl r, ⟨?_, ?_⟩⟩
      · have s2 : StOk X.K (gdS B dx [((ce er.c).2, v)]) ρ0 O' σ' H' := StOk.weak ⟨gdS_in mB hx ho, s'.env⟩ hw
        exact s2.set (.rf a)
      · exact ⟨fun _ _ _ _ z => z.elim, fun d O v2 H2 q s2 r2 => p.rt d O v2 H2 q (gdS_out mB hx s2) r2, fun _ _ _ _ z => z.elim, fun _ _ _ _ z => z.elim, fun _ _ _ _ _ _ _ _ _ z => z.elim⟩
end
end DL

set_option Elab.async false
set_option linter.all false
set_option maxRecDepth 100000
set_option maxHeartbeats 4000000
namespace L2
open PySem PySem.Spec PyProof.Rows
section
variable {X : Cx} {C fI a dx : Addr} {n : Str}
theorem od_of {pins : List (Addr × Obj)} {s : Shared} {σ : St} {H : Hp} {oe : Obj} {pn : List (Addr × Obj)} {q : List (Str × V)} (I : Inv (X.suite a ((a, oe) :: pn)) pins σ H s) (hz : Zc (.ref C) (some dx) oe) (hf : ∃ vs, oe.data = .fields vs) (ea : H dx = some (.xd q)) :
    ∃ (od : Obj) (mA : Str → Option Value), PySem.W.InstAt s.heap a oe C (some od) ∧ (∀ f, RelO (List.lookup f q) (mA f)) ∧ ∀ f, PySem.W.lookIn f od = some (mA f) := by
  obtain ⟨ha, _⟩ := I.pin (a, oe) (List.mem_append_left _ List.mem_cons_self)
  obtain ⟨vs, hd⟩ := hf
  have hx : ObjOk X.prog X.w H s.heap dx (.xd q) := I.hok dx _ ea
  obtain ⟨mA, hns, hr⟩ := hx
  obtain ⟨od, ho, hl⟩ := lookIn_ns hns
  exact ⟨od, mA, ⟨ha, hz.1, by unfold PySem.W.notCls; rw [hd] <;> rfl, by rw [hz.2]; exact ho⟩, hr, hl⟩
theorem pe_errF {oe : Obj} {pn : List (Addr × Obj)} {e : Expr} {te : TE} {v : V} {pos : Pos} (T : PySem.ErX.ErrT X.prog X.K X.mg C fI n) (hz : Zc (.ref C) (some dx) oe) (hf : ∃ vs, oe.data = .fields vs) (he : PE (X.suite a ((a, oe) :: pn)) e te)
    (hb : attributeBase e n X.env (eval e X.env) = eval e X.env := by rfl) :
    PE (X.suite a ((a, oe) :: pn)) (.Attribute e n pos) (fun σ H Q => te σ H fun x H1 => x = .ref a ∧ H1 dx = some (.xd [(n, v)]) ∧ Q v H1) := by
  refine ⟨fun pins s σ H Q I h => ?_⟩
  refine attr_of hb (thn (he.run pins s σ H _ I h) fun u s1 hh => ?_)
  obtain ⟨x, H1, I1, rx, ex, ea, q⟩ := hh
  subst ex
  obtain rfl : u = Value.ref a := rx
  obtain ⟨od, mA, J, hr, hl⟩ := od_of I1 hz hf ea
  have l : List.lookup n [(n, v)] = some v := by simp [List.lookup]
  obtain ⟨u, hu, ru⟩ := RelO.some_of (v := v) (o := mA n) (by rw [← l]; exact hr n)
  exact HandSPX.exc_get I1.kIn J T.ga T.gg T.exC (PySem.W.findObj_own T.hdC T.noN rfl (by rw [hl, hu])) (handed_of ru) ⟨v, H1, I1.tok _, ru, q⟩
def rIsED (K : PySem.W.Frag) (D a dx : Addr) : List V → Hp → VK → Prop := fun xs H Q => ∃ (c : V) (cv : Value) (b : Bool) (q : List (Str × V)), xs = [.ref a, c] ∧ H dx = some (.xd q) ∧ (∀ u, RelV c u → u = cv) ∧ PySem.W.kitOne K (.ref D) cv = some b ∧ Q (.bl b) H
theorem call_isED {D : Addr} {oe : Obj} {pn : List (Addr × Obj)} (C : ExcC X.K D) (hz : Zc (.ref D) (some dx) oe) (hf : ∃ vs, oe.data = .fields vs) : CallR (X.suite a ((a, oe) :: pn)) (.builtin "isinstance") (rIsED X.K D a dx) := by
  intro pins s σ H xs us Q I r h
  obtain ⟨c, cv, b, q', rfl, ea, hcv, e, q⟩ := h
  cases r with
  | cons rx rr =>
    cases rr with
    | cons rt rr =>
      cases rr
      cases rx
      have ec := hcv _ rt
      subst ec
      obtain ⟨od, mA, J, _, _⟩ := od_of I hz hf ea
      have hcl : (PySem.W.clsIn X.K D).isSome = true := by
        obtain ⟨cd, hc, _⟩ := PySem.W.any_some C.hd
        rw [hc]; rfl
      exact PySem.W.kia_one (PySem.W.kitx_exc hcl C.hg C.hk C.hs C.ha C.hn C.ht C.hm) I.kIn J e (fun z => nomatch z) fun tk => ⟨.bl b, H, I.kept (t' := tk) fun _ _ z => z, rfl, q⟩
end
end L2
namespace DL
open PySem PySem.Spec PyProof.Rows L2 TL
section
variable {X : Cx} {B : Gd} {ρ : List (Option D)} {O : Om} {C fI a dx C' : Addr} {n x : Str} {e f : Expr} {d : D} {v : V} {pos p : Pos} {oe : Obj} {pn : List (Addr × Obj)} {b1 : Bool}
theorem ev_errF (T : PySem.ErX.ErrT X.prog X.K X.mg C fI n) (hz : Zc (.ref C) (some dx) oe) (hf : ∃ vs, oe.data = .fields vs) (hv : ∀ H, Rp X.K H v d) (he : EV (X.suite a ((a, oe) :: pn)) (gdS B dx [(n, v)]) ρ O e (.rf a)) (hb : attributeBase e n X.env (eval e X.env) = eval e X.env := by rfl) :
    EV (X.suite a ((a, oe) :: pn)) (gdS B dx [(n, v)]) ρ O (.Attribute e n pos) d :=
  pe_imp (pe_errF (v := v) T hz hf he hb) fun σ H Q ⟨st, k⟩ => ⟨st, fun w H1 e1 r1 => by
    cases r1
    exact ⟨rfl, ((st.same e1).m.base dx _ upd_same).1, k v H1 e1 (hv _)⟩⟩
theorem rc_isED {K : PySem.W.Frag} {q : List (Str × V)} {cd : D} {cv : Value} (hc : ∀ H w u, Rp K H w cd → RelV w u → u = cv) (hk : PySem.W.kitOne K (.ref C) cv = some b1) : RC K (gdS B dx q) O (rIsED K C a dx) [.rf a, cd] (.bl b1) := fun xs H Q m r k => by
  cases r with
  | cons h1 r =>
    cases r with
    | cons h2 r =>
      cases r
      cases h1
      exact ⟨_, cv, b1, q, rfl, (m.base dx _ upd_same).1, fun u ru => hc _ _ u h2 ru, hk, k _ H (Same.refl H) (.bl b1)⟩
theorem cls_ref {K : PySem.W.Frag} {H : Hp} {w : V} {u : Value} (h : Rp K H w (.rf C')) (r : RelV w u) : u = .ref C' := by
  cases h; cases r; rfl
theorem cls_ty {K : PySem.W.Frag} {H : Hp} {w : V} {u : Value} {t : String} (h : Rp K H w (.ty t)) (r : RelV w u) : u = .type t := by
  cases h; cases r; rfl
end
end DL

set_option Elab.async false
set_option linter.all false
set_option maxRecDepth 100000
set_option maxHeartbeats 4000000
namespace DL
open PySem PySem.Spec PyProof.Rows L2 TL
def outX {R : Type} (ce : ErrTab) (E : R → D) : Ctl Unit Unit R → Out
  | .rt v => .val (E v)
  | .ex e => .exn (ce e.c).1 (ce e.c).2 e.d
  | _ => .val .non
section
variable {α S L R : Type}
theorem calm_ok [Inhabited α] {m : Cmp (Ctl Unit Unit α)} (h : m.calm.ok) : m.ok ∧ m.val = .rt m.calm.val := by
  obtain ⟨h1, h2⟩ := h
  refine ⟨h1, ?_⟩
  unfold Cmp.calm Cmp.bind
  cases q : m.val with
  | rt v => rfl
  | ex e => rw [q] at h2; exact h2.elim
  | nx s => rw [q] at h2; exact h2.elim
  | bk s => rw [q] at h2; exact h2.elim
  | ct s => rw [q] at h2; exact h2.elim
end
section
variable {X : Cx} {B : Gd} {ρ : List (Option D)} {O : Om} {ss : List Stmt} {ce : ErrTab}
theorem j_outX {R : Type} {E : R → D} {c : Ctl Unit Unit R} (h : J X B ss ρ O (aC (fun _ _ _ => False) (fun _ _ _ => False) (rtP E) (exq ce) c)) : J X B ss ρ O (postX (outX ce E c)) := by
  cases c with
  | nx s => exact j_imp h (fun _ _ ⟨_, _, z⟩ => z.elim) (fun _ _ z => z.elim) (fun _ _ z => z.elim) (fun _ _ z => z.elim) (fun _ _ _ _ _ z => z.elim)
  | rt v => exact j_imp h (fun _ _ z => z.elim) (fun _ _ z => z) (fun _ _ z => z.elim) (fun _ _ z => z.elim) (fun _ _ _ _ _ z => z.elim)
  | bk s => exact j_imp h (fun _ _ z => z.elim) (fun _ _ z => z.elim) (fun _ _ ⟨_, _, z⟩ => z.elim) (fun _ _ z => z.elim) (fun _ _ _ _ _ z => z.elim)
  | ct s => exact j_imp h (fun _ _ z => z.elim) (fun _ _ z => z.elim) (fun _ _ z => z.elim) (fun _ _ ⟨_, _, z⟩ => z.elim) (fun _ _ _ _ _ z => z.elim)
  | ex e => exact j_imp h (fun _ _ z => z.elim) (fun _ _ z => z.elim) (fun _ _ z => z.elim) (fun _ _ z => z.elim) (fun _ _ _ _ _ z => z)
end
section
variable {P : Program} {w : World} {K : PySem.W.Frag} {mg : Str → Option Value} {base : Heap} {k : Nat} {f C0 C : Addr} {x n : Str}
theorem spP_mono {Ar Ar' : Om → List D → D → Prop} (h : ∀ L ds d, Ar' L ds d → Ar L ds d) : ∀ vs H Q E, spP K Ar' vs H Q E → spP K Ar vs H Q E := fun _ _ _ _ ⟨F, L, ds, d, a, b, c, e⟩ => ⟨F, L, ds, d, a, b, h _ _ _ c, e⟩
theorem spI_mono {Ar Ar' : Om → List D → List Str → List D → Prop} (h : ∀ L ds ns fs, Ar' L ds ns fs → Ar L ds ns fs) : ∀ vs H Q E, spI K C0 Ar' vs H Q E → spI K C0 Ar vs H Q E := fun _ _ _ _ ⟨F, L, x, dx, us, ds, ns, fs, a, b, c, e, g, i, j⟩ => ⟨F, L, x, dx, us, ds, ns, fs, a, b, c, e, g, h _ _ _ _ i, j⟩
theorem fn_calmP {fd : FuncData} {ps : List Str} {Ar : Om → List D → Out → Prop} {Ar' : Om → List D → D → Prop} (F : FnOk P w K mg base (L2.CX P w) k f fd ps (spX K Ar)) (h : ∀ L ds d, Ar' L ds d → Ar L ds (.val d)) : FnOk P w K mg base CX0 k f fd ps (spP K Ar') :=
  calm_fn (CX := CX0) ((spX_P F).imp (spP_mono h)) fun _ _ _ _ _ z => z
theorem fn_calmI {fd : FuncData} {ps : List Str} {Ar : Om → List D → OutI → Prop} {Ar' : Om → List D → List Str → List D → Prop} (F : FnOk P w K mg base (L2.CX P w) k f fd ps (spXI K C0 Ar)) (h : ∀ L ds ns fs, Ar' L ds ns fs → Ar L ds (.val ns fs)) : FnOk P w K mg base CX0 k f fd ps (spI K C0 Ar') :=
  calm_fn (CX := CX0) ((spXI_I F).imp (spI_mono h)) fun _ _ _ _ _ z => z
theorem Fok.xP {Ar : Om → List D → Out → Prop} (F : Fok P w K mg base (L2.CX P w) k f (spX K Ar)) : Fok P w K mg base CX0 k f (spP K fun L ds d => Ar L ds (.val d)) := by
  obtain ⟨fd, ps, G, b⟩ := F.ex
  exact ⟨⟨fd, ps, fn_calmP G fun _ _ _ z => z, b⟩, F.kp⟩
theorem Fok.xR {Ar : Om → List D → Out → Prop} (F : Fok P w K mg base (L2.CX P w) k f (spX K Ar)) : Fok P w K mg base (L2.CX P w) k f (spR K C n fun L ds d => Ar L ds (.exn C n d)) := by
  obtain ⟨fd, ps, G, b⟩ := F.ex
  exact ⟨⟨fd, ps, spX_R (CX := L2.CX P w) G, b⟩, F.kp⟩
theorem Cal.xP {Ar : Om → List D → Out → Prop} (c : Cal P w K mg base (L2.CX P w) k x (spX K Ar)) : Cal P w K mg base CX0 k x (spP K fun L ds d => Ar L ds (.val d)) := by
  obtain ⟨f, F, hm⟩ := c.ex; exact ⟨f, F.xP, hm⟩
theorem Cal.xR {Ar : Om → List D → Out → Prop} (c : Cal P w K mg base (L2.CX P w) k x (spX K Ar)) : Cal P w K mg base (L2.CX P w) k x (spR K C n fun L ds d => Ar L ds (.exn C n d)) := by
  obtain ⟨f, F, hm⟩ := c.ex; exact ⟨f, F.xR, hm⟩
end
end DL

set_option Elab.async false
set_option linter.all false
set_option maxRecDepth 100000
set_option maxHeartbeats 4000000
namespace L2
open PySem PySem.Spec PyProof.Rows
abbrev TSu := Addr → Value → Option Addr → TS
section
variable {X : Cx} {n : Str} {i : Nat} {body : List Stmt} {h₀ : ExceptHandler} {hds : List ExceptHandler} {l : List (Value × TSu)} {pos : Pos} {tb : WX → TS} {Wout : WX}
end
end L2
namespace DL
open PySem PySem.Spec PyProof.Rows L2 TL
section
variable {X : Cx} {B : Gd} {ρ ρ0 : List (Option D)} {O O0 : Om} {pos pos1 pos2 np1 np2 : Pos} {body suite1 suite2 : List Stmt} {b1 b2 : Stmt} {x1 x2 nm : Str} {ce : ErrTab}
variable {S L R : Type} {st : S → List (Option D) → Om → Prop} {sl : L → List (Option D) → Om → Prop} {rt : R → D → Om → Prop} {ex : Exn → Addr → Str → D → List (Option D) → Om → Prop}
end
end DL

set_option Elab.async false
set_option linter.all false
set_option maxRecDepth 100000
set_option maxHeartbeats 4000000
namespace L2
open PySem PySem.Spec PyProof.Rows
section
variable {X : Cx} {C : Addr} {x : Str} {e : Expr} {es : List Expr} {p pos : Pos}
end
end L2
namespace DL
open PySem PySem.Spec PyProof.Rows L2 TL
section
variable {X : Cx} {B : Gd} {ρ : List (Option D)} {O : Om} {d : D} {C C0 f : Addr} {ds : List D} {k : Nat} {n x : Str} {e : Expr} {es : List Expr} {pos p : Pos}
end
end DL

set_option Elab.async false
set_option linter.all false
set_option maxRecDepth 100000
set_option maxHeartbeats 4000000
namespace L2
open PySem PySem.Spec PyProof.Rows
def turnS (e : Expr) (d : Nat) (tg iter : Expr) (ifs : List Expr) (body : Sem PySem.Fin → Sem PySem.Fin) (it acc : Value) (env : Env) : Sem PySem.Fin := do
  standAt iter.pos
  match ← pyNext it with
  | none => pure (.done .next)
  | some v =>
    letOwnedTupleGo tg it v
    assign tg env v
    let mut ok := true
    for c in ifs do
      if ok then ok ← isTrue c env (eval c env)
    if ok then
      body (again (.compLoop e d it acc env))
    else again (.compLoop e d it acc env)
def bodyC (e : Expr) (d : Nat) (iter : Expr) (acc : Value) (env : Env) (k : Sem PySem.Fin) : Sem PySem.Fin := do
  let x ← eval iter env
  standAt iter.pos
  let x ← foldedSetIterable iter env x
  let _ ← runOwn (.compStart e d (← holding [x] (pyIter x)) acc env) env
  k
def bodyE (emit : Sem Unit) (k : Sem PySem.Fin) : Sem PySem.Fin := do
  emit
  k
def IsNode (e : Expr) : Prop := (∃ elt gs sc pos, e = .ListComp elt gs sc pos) ∨ ∃ k v gs sc pos, e = .DictComp k v gs sc pos
section
variable {prog : Program} {w : World} {A : Around} {R : Result → Shared → Prop} {s : Shared} {e tg iter : Expr} {ifs : List Expr} {it acc : Value} {env : Env} {d : Nat} {body : Sem PySem.Fin → Sem PySem.Fin}
theorem loopS_any (hn : IsNode e) (ht : compTurn e d it acc env = turnS e d tg iter ifs body it acc env) (I : Nat → Shared → Prop)
    (turn : ∀ n s, I n s → wpAny (model prog w) A (pyNext it) (fun r s₁ => match r with
      | none => R (.ok .next) s₁
      | some v => wpAny (model prog w) A (letOwnedTupleGo tg it v) (fun _ s₁' => wpAny (model prog w) A (assign tg env v) (fun _ s₂ =>
          wpAny (model prog w) A (forIn ifs true fun c r => if r = true then do let ok ← isTrue c env (eval c env); pure (ForInStep.yield ok) else pure (ForInStep.yield r)) (fun ok s₃ =>
            if ok = true then ∀ (k : Sem PySem.Fin) (R' : PySem.Fin → Shared → Prop) (E' : Value → Shared → Prop), (∀ s₅, (∃ m, m < n ∧ I m s₅) → wpAny (model prog w) A k R' E' s₅) → wpAny (model prog w) A (body k) R' E' s₃
            else ∃ m, m < n ∧ I m s₃) (notedBy (model prog w) A env fun e s' => R (.error e) s') s₂) (notedBy (model prog w) A env fun e s' => R (.error e) s') s₁') (notedBy (model prog w) A env fun e s' => R (.error e) s') s₁) (notedBy (model prog w) A env fun e s' => R (.error e) s') s)
    (n : Nat) (h : I n s) :
    codeAny (model prog w) A (.compLoop e d it acc env) R s := by
  have hq : (Code.compLoop e d it acc env).quiet = true := rfl
  refine codeAny_loop hq I (fun n s hI => ?_) n h
  have hd : wpAny (model prog w) A ((compTurn e d it acc env).onRaise (fun x => do noteFrame x env; theTreesLotGoes x)) (fun fin s' => match fin with | .done f => R (.ok f) s' | .again c' => c' = Code.compLoop e d it acc env ∧ ∃ m, m < n ∧ I m s') (fun e s' => R (.error e) s') s := by
    refine wpAny_noted ?_
    rw [ht]
    unfold turnS
    refine wpAny_bind (wpAny_standAt (wpAny_bind (wpAny_mono (turn n s hI) (fun r s₁ h₁ => ?_) fun _ _ h' => h')))
    cases r with
    | none => exact wpAny_pure h₁
    | some v =>
      refine wpAny_bind (wpAny_mono h₁ (fun _ s₁' h₁' => ?_) fun _ _ h' => h')
      refine wpAny_bind (wpAny_mono h₁' (fun _ s₂ h₂ => wpAny_bind (wpAny_mono h₂ (fun ok s₃ h₃ => ?_) fun _ _ h' => h')) fun _ _ h' => h')
      cases ok with
      | false => exact wpAny_pure ⟨rfl, h₃⟩
      | true => exact h₃ _ _ _ fun s₅ h₅ => wpAny_pure ⟨rfl, h₅⟩
  rcases hn with ⟨_, _, _, _, rfl⟩ | ⟨_, _, _, _, _, rfl⟩ <;> exact hd
theorem startS_any {g : Comprehension} (hn : IsNode e) (hg : (clausesOf e)[d]? = some g) (ha : (g.is_async != 0) = false) (h0 : codeAny (model prog w) A (.compLoop e d it acc env) R s)
    (h : wpAny (model prog w) A (pyIter it) (fun it' s' => codeAny (model prog w) A (.compLoop e d it' acc env) R s')
      (notedBy (model prog w) A env fun x s' => R (.error x) s') s) :
    codeAny (model prog w) A (.compStart e d it acc env) R s := by
  refine codeAny_of_tree ?_
  have hd : wpAny (model prog w) A ((compStart e d it acc env).onRaise (fun x => do noteFrame x env; standAt theWindowsPlace)) (fun fin s' => match fin with
      | .done f => R (.ok f) s'
      | .again c' => c'.quiet = true ∧ codeAny (model prog w) A c' R s') (fun e s' => R (.error e) s') s := by
    refine wpAny_notedAt ?_
    unfold compStart
    rw [hg]
    simp only [Option.elim_some, ha, Bool.false_eq_true, if_false]
    show wpAny _ _ (ask >>= _) _ _ s
    refine wpAny_bind (wpAny_askSetting (wpAny_ite ?_))
    split
    · first
        | exact wpAny_bind (wpAny_pure (wpAny_pure (And.intro rfl h0)))
        | exact wpAny_pure (And.intro rfl h0)
    · first
        | exact wpAny_bind (wpAny_rule (wpAny_bind (wpAny_standAt (wpAny_bind (wpAny_mono h (fun it' s' h' => wpAny_pure (And.intro rfl h')) fun _ _ x => x)))))
        | (refine wpAny_bind (wpAny_rule ?_); show wpAny _ _ (standAt g.iter.pos >>= _) _ _ s; exact wpAny_bind (wpAny_standAt (wpAny_bind (wpAny_mono h (fun it' s' h' => wpAny_pure (And.intro rfl h')) fun _ _ x => x))))
  rcases hn with ⟨_, _, _, _, rfl⟩ | ⟨_, _, _, _, _, rfl⟩ <;> exact hd
end
abbrev TB := St → Hp → (Hp → Prop) → Prop
structure Clz where
  wi : TI
  g : TG
  tt : TT
  vs : List Nat
def tCl : List Clz → TB → TB
  | [], te => te
  | c :: cs, te => fun σ H Nx => c.wi σ H fun J1 H4 => ∃ W1 : Nat → Nat → Hp → Prop, (∃ m, W1 0 m H4) ∧ ∀ j k H, W1 j k H →
      (J1.stop j H ∧ Nx H) ∨ (J1.go j H ∧ ∃ Nx1 : Hp → Prop, (∀ H', Nx1 H' → ∃ k', k' < k ∧ W1 (j + 1) k' H') ∧ ∀ x H', J1.yld j H x H' → c.g x (wipe σ c.vs) H' fun σ3 H5 => wipe σ3 c.vs = wipe σ c.vs ∧ c.tt σ3 H5 fun b H6 =>
        if b = true then tCl cs te σ3 H6 Nx1 else Nx1 H6)
def OffE (own : List Nat) (σ σ' : St) : Prop := σ'.length = σ.length ∧ ∀ j, j ∉ own → σ'[j]? = σ[j]?
theorem OffE.refl {own : List Nat} {σ : St} : OffE own σ σ := ⟨rfl, fun _ _ => rfl⟩
theorem OffE.trans {own : List Nat} {σ σ1 σ2 : St} (a : OffE own σ σ1) (b : OffE own σ1 σ2) : OffE own σ σ2 := ⟨b.1.trans a.1, fun j h => (b.2 j h).trans (a.2 j h)⟩
theorem OffE.wipe {own vs : List Nat} {σ : St} (h : ∀ i ∈ vs, i ∈ own) : OffE own σ (wipe σ vs) := ⟨wipe_length σ vs, fun j hj => wipe_out fun z => hj (h j z)⟩
structure BodyOk (X : Cx) (own : List Nat) (body : Sem PySem.Fin → Sem PySem.Fin) (te : TB) : Prop where
  run : ∀ (pins : List (Addr × Obj)) (s : Shared) (σ : St) (H : Hp) (Nx : Hp → Prop), Inv X pins σ H s → te σ H Nx → ∀ (k : Sem PySem.Fin) (R : PySem.Fin → Shared → Prop) (E : Value → Shared → Prop),
    (∀ σ' H' s', Inv X pins σ' H' s' → OffE own σ σ' → Nx H' → wpAny (model X.prog X.w) X.A k R E s') → wpAny (model X.prog X.w) X.A (body k) R E s
section
variable {X : Cx} {own sub : List Nat} {e tg iter : Expr} {ifs : List Expr} {acc : Value} {d : Nat} {body : Sem PySem.Fin → Sem PySem.Fin} {te : TB} {c : Clz} {cs : List Clz}
theorem body_clause (hxe : X.xe = fun _ _ => False) (hn : IsNode e) (hc : X.calm = true) (hcl : (clausesOf e)[d]? = some ⟨tg, iter, ifs, 0⟩) (ht : ∀ it, compTurn e d it acc X.env = turnS e d tg iter ifs body it acc X.env) (hs : ∀ env x, foldedSetIterable iter env x = pure x)
    (hi : PI X tg iter c.wi) (hg : PG X tg c.g) (hts : PTs X ifs c.tt) (hv : ∀ i ∈ sub, i ∈ c.vs) (hb : BodyOk X sub body (tCl cs te)) : BodyOk X c.vs (bodyC e d iter acc X.env) (tCl (c :: cs) te) := ⟨fun pins s9 σ8 H9 Nx I9 q9 k RR EE hk => by
  unfold bodyC
  have ri := hi.run _ s9 σ8 H9 _ I9 q9
  rw [hxe] at ri
  refine wpAny_bind (thnF ri fun xv s10 hx => ?_)
  refine wpAny_bind (wpAny_standAt (wpAny_bind (wpAny_of_eq (hs _ xv) (wpAny_bind (wpAny_holding (thnF hx fun itv s11 h11 => ?_))))))
  obtain ⟨it1, fp1, tn1, J1, H11, e1, I11, T1, st11, f11, W1, ⟨m1, w1⟩, turn1⟩ := h11
  subst e1
  have stat1 : ∀ {H' : Hp}, (∀ b ∈ fp1, H' b = none) → ∀ b ∈ fp1, FpOk X pins H' b := fun hn b hb => ⟨hn b hb, (f11 b hb).2⟩
  have loop1 : codeAny (model X.prog X.w) X.A (.compLoop e d (.ref it1) acc X.env)
      (fun r s' => match r with
        | .ok _ => ∃ σ' H', Inv X pins σ' H' s' ∧ OffE c.vs σ8 σ' ∧ Nx H'
        | .error _ => False) s11 := by
    refine loopS_any hn (ht _) (fun k s' => ∃ j H', Inv X pins (wipe σ8 c.vs) H' s' ∧ tn1 j s'.heap ∧ (∀ b ∈ fp1, H' b = none) ∧ W1 j k H') ?_ m1 ⟨0, H11, I11.weak (wipe_length _ _) (fun j v e => (wipe_some e).1), st11, fun b hb => (f11 b hb).1, w1⟩
    rintro k s12 ⟨j, H12, I12, st12, n12, w12⟩
    rcases turn1 j k H12 w12 with ⟨stop1, nx1⟩ | ⟨go1, Nx1, hNx1, step1⟩
    · refine thnF (T1.done X rfl rfl rfl hc j _ s12 (wipe σ8 c.vs) H12 (fun _ _ => False) I12 (stat1 n12) st12 stop1) fun r s13 ⟨hr, I13⟩ => ?_
      subst hr
      exact ⟨_, _, I13, .wipe fun _ h => h, nx1⟩
    · refine thnF (T1.item X rfl rfl rfl hc j _ s12 (wipe σ8 c.vs) H12 (fun _ _ => False) I12 (stat1 n12) st12 go1) fun r s13 ⟨u1, hr, h13⟩ => ?_
      subst hr
      refine thnF h13 fun _ s14 ⟨x1, H14, I14, r14, y14, st14, n14⟩ => ?_
      have I14' := I14.pinned (stat1 n14) (T1.obj _ _ st14)
      have rg := hg.run _ s14 (wipe σ8 c.vs) H14 x1 u1 _ I14' r14 (step1 x1 H14 y14)
      rw [hxe] at rg
      refine thnF rg fun _ s15 ⟨σ15, H15, I15, hw15, q15⟩ => ?_
      have rt := hts.run _ s15 σ15 H15 _ I15 q15
      rw [hxe] at rt
      refine thnF rt fun b1 s16 ⟨H16, I16, q16⟩ => ?_
      have k15 : ∀ (j : Nat) v, (wipe σ8 c.vs)[j]? = some (some v) → σ15[j]? = some (some v) := fun j v e => by rw [← hw15] at e; exact (wipe_some e).1
      have fin1 : ∀ {s' : Shared} {σ' : St} {H' : Hp}, Inv X (pins ++ pinsAt fp1 s14.heap) σ' H' s' → OffE sub σ15 σ' → Nx1 H' → ∃ m, m < k ∧ ∃ j H', Inv X pins (wipe σ8 c.vs) H' s' ∧ tn1 j s'.heap ∧ (∀ b ∈ fp1, H' b = none) ∧ W1 j m H' := fun {s' σ' H'} I' of nx => by
        obtain ⟨m', hm, w'⟩ := hNx1 H' nx
        have pin' : ∀ b ∈ fp1, ∀ o, s14.heap.get? b = some o → s'.heap.get? b = some o ∧ H' b = none := fun b hb o e =>
          let z := I'.pin (b, o) (List.mem_append_right _ (List.mem_append_right _ (mem_pinsAt hb e)))
          ⟨z.1, z.2.1⟩
        refine ⟨m', hm, j + 1, H', I'.unpinned.weak (by rw [of.1, ← wipe_length σ15 c.vs, hw15, wipe_length]) (fun i v e => ?_), T1.keep _ _ _ st14 fun b hb o e => (pin' b hb o e).1, fun b hb => ?_, w'⟩
        · rw [of.2 i fun z => (wipe_some e).2 (hv i z)]
          exact k15 i v e
        · obtain ⟨o, e, _⟩ := T1.obj _ _ st14 b hb
          exact (pin' b hb o e).2
      cases b1 with
      | false =>
        simp only [Bool.false_eq_true, if_false] at q16 ⊢
        exact fin1 I16 .refl q16
      | true =>
        simp only [if_true] at q16 ⊢
        exact fun k' R' E' hk' => hb.run _ s16 σ15 H16 _ I16 q16 k' R' E' fun σ17 H17 s17 I17 of17 nx => hk' _ (fin1 I17 of17 nx)
  refine wpAny_bind (wpAny_runOwn ?_)
  rw [Around.mark_none]
  refine codeAny_mono (startS_any hn hcl rfl loop1 (T1.self X.A 0 _ _ _ st11 loop1)) fun r s' hr => ?_
  cases r with
  | ok f =>
    obtain ⟨σ', H', I', of', nx⟩ := hr
    first
      | exact hk σ' H' s' I' of' nx
      | exact wpAny_bind (wpAny_pure (hk σ' H' s' I' of' nx))
  | error e => exact hr.elim⟩
theorem body_list {elt : Expr} {t : TE} {D : Addr} (hxe : X.xe = fun _ _ => False) (he : PE X elt t) :
    BodyOk X [] (bodyE (do let _ ← call (.builtin "list.append") [.ref D, ← eval elt X.env])) (fun σ H Nx => t σ H fun y H7 => ∃ acc, H7 D = some (.lst acc) ∧ acc.length < sizeLine ∧ Nx (upd H7 D (.lst (acc ++ [y])))) := ⟨fun pins s σ H Nx I q k R E hk => by
  have re := he.run _ s σ H _ I q
  rw [hxe] at re
  refine wpAny_bind (wpAny_bind (thnF re fun z s17 ⟨yv, H17, I17, r17, acc, hD17, hz17, nx⟩ => wpAny_bind ?_))
  exact app_ok (X := X) I17 hD17 hz17 r17 fun s18 I18 => wpAny_pure (hk _ _ _ I18 .refl nx)⟩
def tCn (c : Clz) (cs : List Clz) (te : Addr → TB) (ho : Addr → HO) : TE := fun σ H Q => c.wi σ H fun J H1 => ∀ D, H1 D = none → (D == sysModules) = false → ∃ W : Nat → Nat → Hp → Prop, (∃ m, W 0 m (upd H1 D (ho D))) ∧ ∀ i m H, W i m H →
  (J.stop i H ∧ Q (.ref D) H) ∨ (J.go i H ∧ ∃ Nx : Hp → Prop, (∀ H', Nx H' → ∃ m', m' < m ∧ W (i + 1) m' H') ∧ ∀ x H', J.yld i H x H' → c.g x (wipe σ c.vs) H' fun σ2 H2 => wipe σ2 c.vs = wipe σ c.vs ∧ c.tt σ2 H2 fun b H3 =>
    if b = true then tCl cs (te D) σ2 H3 Nx else Nx H3)
theorem cn_core {pins : List (Addr × Obj)} {s : Shared} {σ : St} {H : Hp} {Q : VK} {scope : Scope} {own : List (Str × Nat)} {pos' : Pos} {use : Option (Value → Sem Unit)} {Qf : Value → Shared → Prop} {gs : List Comprehension} {newAcc : Sem Value} {ob : Obj} {ho : Addr → HO} {body : Value → Env → Sem PySem.Fin → Sem PySem.Fin} {te : Addr → TB}
    (hn : IsNode e) (hc : X.calm = true) (hN : X.N.Nodup) (I : Inv X pins σ H s) (hcl : clausesOf e = ⟨tg, iter, ifs, 0⟩ :: gs) (hi : PI X tg iter c.wi) (ok : BlkOk X.N X.env.scope scope own) (hown : c.vs = own.map (·.2)) (hv : ∀ i ∈ sub, i ∈ c.vs)
    (hacc : ∀ {A : Around} {E : Value → Shared → Prop} {Q : Value → Shared → Prop} {s : Shared}, Q (.ref s.heap.objs.size) { s with heap := s.heap.push ob } → wpAny (model X.prog X.w) A newAcc Q E s)
    (hob : ∀ (H : Hp) (h : Heap), sysModules < h.objs.size → ObjOk X.prog X.w (upd H h.objs.size (ho h.objs.size)) (h.push ob) h.objs.size (ho h.objs.size))
    (ht : ∀ it D env, compTurn e 0 it (.ref D) env = turnS e 0 tg iter ifs (body (.ref D) env) it (.ref D) env)
    (hg : ∀ (s : Shared) (H : Hp) (C : Addr) (cl : List (Str × Addr)) (fp : List Addr), PG (X.blk s H scope (compEnvC scope cl C X.env) fp) tg c.g) (hts : ∀ (s : Shared) (H : Hp) (C : Addr) (cl : List (Str × Addr)) (fp : List Addr), PTs (X.blk s H scope (compEnvC scope cl C X.env) fp) ifs c.tt)
    (hb : ∀ (s : Shared) (H : Hp) (C : Addr) (cl : List (Str × Addr)) (fp : List Addr) (D : Addr), BodyOk (X.blk s H scope (compEnvC scope cl C X.env) fp) sub (body (.ref D) (compEnvC scope cl C X.env)) (tCl cs (te D))) (hs : ∀ x, foldedSetIterable iter X.env x = pure x)
    (h : tCn c cs te ho σ H Q)
    (hRR : ∀ D C s' m H', Inv X pins σ H' s' → Q (.ref D) H' → s'.heap.Ns C m → FpOk X pins H' C → compPost (model X.prog X.w) X.A X.xe use Qf (.ref D) C (.ok .next) s') :
    wpAny (model X.prog X.w) X.A (comprehension e scope X.env pos' newAcc false (eval iter X.env) use) Qf X.xe s := by
  have hfree : ∀ y ∈ scope.names, y.2 = .free → ∃ c, X.env.cells.lookup y.1 = some c := fun y hy e => by
    rcases ok.free y hy e with k | k
    · exact I.ok.has _ (.inl k)
    · exact I.ok.has _ (.inr k)
  refine wpAny_comprehension_free (use := use) hcl hs (closure_ok hfree) ok.kind (fun y hy e => by rw [ok.uniq y hy, e])
    (thn (hi.run pins s σ H _ I h) fun xv s1 hx => thn hx fun itv s2 h2 => ?_)
  obtain ⟨it, fp, tn, J, H2, ee, I2, T, st2, f2, q⟩ := h2
  subst ee
  refine hacc (newEnv_comp ?_)
  generalize hD : s2.heap.objs.size = D
  have hDn : H2 D = none := I2.hok.fresh (Nat.le_of_eq hD)
  obtain ⟨W, ⟨m0, w0⟩, turn⟩ := q D hDn (by rw [← hD]; exact beq_eq_false_iff_ne.mpr (Nat.ne_of_gt I2.big))
  generalize hs3 : ({ s2 with heap := s2.heap.push ob } : Shared) = s3
  have I3 : Inv X pins σ (upd H2 D (ho D)) s3 := by
    rw [← hs3]
    refine I2.laid (t' := s2.toks) (fun b o e => Heap.get?_push_of_some _ e) (Nat.le_of_eq hD) ?_
    rw [← hD]
    exact hob _ _ I2.big
  have h3 : s3.heap = s2.heap.push ob := by rw [← hs3]
  have sz : ∀ b ∈ fp, b < s2.heap.objs.size := fun b hb => by
    obtain ⟨o, e, _⟩ := T.obj _ _ st2 b hb
    exact Heap.lt_size e
  have f3 : ∀ b ∈ fp, FpOk X pins (upd H2 D (ho D)) b ∧ b < s3.heap.objs.size := fun b hb => by
    have hlt := sz b hb
    refine ⟨⟨?_, (f2 b hb).2⟩, by rw [h3, Heap.size_push]; exact Nat.lt_succ_of_lt hlt⟩
    rw [upd_ne (by rw [← hD]; exact Nat.ne_of_lt hlt)]
    exact (f2 b hb).1
  have st3 : tn 0 s3.heap := T.keep _ _ _ st2 fun b _ o e => by rw [h3]; exact Heap.get?_push_of_some _ e
  have I4 := block_start I3 ok hN f3
  have pg := hg s3 (upd H2 D (ho D)) s3.heap.objs.size (cellsFrom (s3.heap.objs.size + 1) scope.names (cloFrom X.env.cells scope.names [])) fp
  have pt := hts s3 (upd H2 D (ho D)) s3.heap.objs.size (cellsFrom (s3.heap.objs.size + 1) scope.names (cloFrom X.env.cells scope.names [])) fp
  have pb := hb s3 (upd H2 D (ho D)) s3.heap.objs.size (cellsFrom (s3.heap.objs.size + 1) scope.names (cloFrom X.env.cells scope.names [])) fp D
  have ht' := fun it => ht it D (compEnvC scope (cellsFrom (s3.heap.objs.size + 1) scope.names (cloFrom X.env.cells scope.names [])) s3.heap.objs.size X.env)
  show codeAny _ _ (.compStart e 0 (.ref it) (.ref D) (compEnvC scope (cellsFrom (s3.heap.objs.size + 1) scope.names (cloFrom X.env.cells scope.names [])) s3.heap.objs.size X.env)) (compPost (model X.prog X.w) X.A X.xe use Qf (.ref D) s3.heap.objs.size) { s3 with heap := pushCells (s3.heap.push { cls := .type "dict", data := .dict #[] }) scope.names }
  have nfp : ∀ b ∈ fp, (upd H2 D (ho D)) b = none := fun b hb => (f3 b hb).1.1
  generalize hce : compEnvC scope (cellsFrom (s3.heap.objs.size + 1) scope.names (cloFrom X.env.cells scope.names [])) s3.heap.objs.size X.env = ce at I4 pg pt pb ht' ⊢
  have cL : ce.locals = s3.heap.objs.size := by subst hce; rfl
  generalize hH3 : upd H2 D (ho D) = H3 at I3 I4 pg pt pb w0 nfp f3
  generalize hs4 : ({ s3 with heap := pushCells (s3.heap.push { cls := .type "dict", data := .dict #[] }) scope.names } : Shared) = s4 at I4 ⊢
  have st4 : tn 0 s4.heap := T.keep _ _ _ st3 fun b _ o e => by rw [← hs4]; exact pushCells_keeps _ _ _ _ (Heap.get?_push_of_some _ e)
  have stat : ∀ {σ' : St} {H' : Hp} {s' : Shared}, Inv (X.blk s3 H3 scope ce fp) [] σ' H' s' → (∀ b ∈ fp, H' b = none) → ∀ b ∈ fp, FpOk (X.blk s3 H3 scope ce fp) [] H' b := fun {σ' H' s'} I' hn b hb =>
    ⟨hn b hb, (I'.ok.exf b hb).1, I'.ok.exfs b hb, .inl hb, fun x c e => (I'.ok.exf b hb).2 x c e, fun p hp => absurd (show p ∈ ([] : List (Addr × Obj)) ++ [] from hp) (by simp)⟩
  rw [hown] at turn
  have loop : codeAny (model X.prog X.w) X.A (.compLoop e 0 (.ref it) (.ref D) ce) (compPost (model X.prog X.w) X.A X.xe use Qf (.ref D) s3.heap.objs.size) s4 := by
    refine loopS_any hn (ht' _) (fun n s' => ∃ i H', Inv (X.blk s3 H3 scope ce fp) [] (wipe σ (own.map (·.2))) H' s' ∧ tn i s'.heap ∧ (∀ b ∈ fp, H' b = none) ∧ W i n H') ?_ m0 ⟨0, H3, I4, st4, nfp, w0⟩
    rintro n s5 ⟨i, H5, I5, st5, n5, w5⟩
    rcases turn i n H5 w5 with ⟨stop, qq⟩ | ⟨go, Nx, hNx, step⟩
    · have td := T.done (X.blk s3 H3 scope ce fp) rfl rfl rfl hc i [] s5 _ H5 (fun _ _ => False) I5 (stat I5 n5) st5 stop
      refine thnF td fun r s6 ⟨hr, I6⟩ => ?_
      subst hr
      -- back in the def's context
      have I7 : Inv X pins σ H5 s6 := I3.call' (ch := fp) I6.os I6.base I6.hok I6.bare fun b hb => ⟨(f3 b hb).1.2.2.2.1, (f3 b hb).1.2.1, (f3 b hb).1.2.2.2.2.1, (f3 b hb).1.2.2.2.2.2⟩
      have nC : H5 s3.heap.objs.size = none := by
        have z : H5 ce.locals = none := I6.free
        rw [cL] at z
        exact z
      obtain ⟨m, hn, _⟩ := I6.loc
      have hn : s6.heap.Ns ce.locals m := hn
      rw [cL] at hn
      exact hRR D s3.heap.objs.size s6 m H5 I7 qq hn (I3.fpOk (Nat.le_refl _) nC)
    · have ti := T.item (X.blk s3 H3 scope ce fp) rfl rfl rfl hc i [] s5 _ H5 (fun _ _ => False) I5 (stat I5 n5) st5 go
      refine thnF ti fun r s6 ⟨u, hr, h6⟩ => ?_
      subst hr
      refine thnF h6 fun _ s7 ⟨x, H7, I7, r7, y7, st7, n7⟩ => ?_
      have I7' := I7.pinned (stat I7 n7) (T.obj _ _ st7)
      refine thnF (pg.run _ s7 _ H7 x u _ I7' r7 (step x H7 y7)) fun _ s8 ⟨σ8, H8, I8, hw8, q8⟩ => ?_
      refine thnF (pt.run _ s8 σ8 H8 _ I8 q8) fun b s9 ⟨H9, I9, q9⟩ => ?_
      -- the turn's end
      have fin : ∀ {σ9 : St} {s' : Shared} {H' : Hp}, Inv (X.blk s3 H3 scope ce fp) ([] ++ pinsAt fp s7.heap) σ9 H' s' → OffE sub σ8 σ9 → Nx H' → ∃ m, m < n ∧ ∃ i H', Inv (X.blk s3 H3 scope ce fp) [] (wipe σ (own.map (·.2))) H' s' ∧ tn i s'.heap ∧ (∀ b ∈ fp, H' b = none) ∧ W i m H' := fun {σ9 s' H'} I' of nx => by
        obtain ⟨m', hm, w'⟩ := hNx H' nx
        have pin' : ∀ b ∈ fp, ∀ o, s7.heap.get? b = some o → s'.heap.get? b = some o ∧ H' b = none := fun b hb o e =>
          let z := I'.pin (b, o) (List.mem_append_right _ (List.mem_append_right _ (mem_pinsAt hb e)))
          ⟨z.1, z.2.1⟩
        refine ⟨m', hm, i + 1, H', (I'.unpinned (pins := [])).weak (by rw [of.1, ← hw8, wipe_length]) (fun j v e => ?_), T.keep _ _ _ st7 fun b hb o e => (pin' b hb o e).1, fun b hb => ?_, w'⟩
        · rw [of.2 j fun z => (wipe_some e).2 (by rw [← hown]; exact hv j z)]
          rw [← hw8] at e
          exact (wipe_some e).1
        · obtain ⟨o, e, _⟩ := T.obj _ _ st7 b hb
          exact (pin' b hb o e).2
      cases b with
      | false =>
        simp only [Bool.false_eq_true, if_false] at q9 ⊢
        exact fin I9 .refl q9
      | true =>
        simp only [if_true] at q9 ⊢
        exact fun k' R' E' hk' => pb.run _ s9 σ8 H9 _ I9 q9 k' R' E' fun σ11 H11 s11 I11 of11 nx => hk' _ (fin I11 of11 nx)
  exact startS_any hn (by rw [hcl]; rfl) rfl loop (T.self X.A 0 _ _ _ st4 loop)
def LcRun (X : Cx) (elt : Expr) (gs : List Comprehension) (iter : Expr) (scope : Scope) (pos : Pos) (t : TE) : Prop := ∀ {pins : List (Addr × Obj)} {s : Shared} {σ : St} {H : Hp} {Q : VK} {pos' : Pos} {use : Option (Value → Sem Unit)} {Qf : Value → Shared → Prop}, Inv X pins σ H s → t σ H Q →
  (∀ D C s' m H', Inv X pins σ H' s' → Q (.ref D) H' → s'.heap.Ns C m → FpOk X pins H' C → compPost (model X.prog X.w) X.A X.xe use Qf (.ref D) C (.ok .next) s') →
  wpAny (model X.prog X.w) X.A (comprehension (.ListComp elt gs scope pos) scope X.env pos' (newList []) false (eval iter X.env) use) Qf X.xe s
theorem lc_run {elt : Expr} {gs : List Comprehension} {scope : Scope} {own : List (Str × Nat)} {pos : Pos} {body : Value → Env → Sem PySem.Fin → Sem PySem.Fin} {te : Addr → TB} (hc : X.calm = true) (hN : X.N.Nodup) (hi : PI X tg iter c.wi) (ok : BlkOk X.N X.env.scope scope own) (hown : c.vs = own.map (·.2)) (hv : ∀ i ∈ sub, i ∈ c.vs)
    (ht : ∀ it D env, compTurn (.ListComp elt (⟨tg, iter, ifs, 0⟩ :: gs) scope pos) 0 it (.ref D) env = turnS (.ListComp elt (⟨tg, iter, ifs, 0⟩ :: gs) scope pos) 0 tg iter ifs (body (.ref D) env) it (.ref D) env)
    (hg : ∀ (s : Shared) (H : Hp) (C : Addr) (cl : List (Str × Addr)) (fp : List Addr), PG (X.blk s H scope (compEnvC scope cl C X.env) fp) tg c.g) (hts : ∀ (s : Shared) (H : Hp) (C : Addr) (cl : List (Str × Addr)) (fp : List Addr), PTs (X.blk s H scope (compEnvC scope cl C X.env) fp) ifs c.tt)
    (hb : ∀ (s : Shared) (H : Hp) (C : Addr) (cl : List (Str × Addr)) (fp : List Addr) (D : Addr), BodyOk (X.blk s H scope (compEnvC scope cl C X.env) fp) sub (body (.ref D) (compEnvC scope cl C X.env)) (tCl cs (te D))) (hs : ∀ x, foldedSetIterable iter X.env x = pure x := by intro _; rfl) :
    LcRun X elt (⟨tg, iter, ifs, 0⟩ :: gs) iter scope pos (tCn c cs te fun _ => .lst []) := fun I h hRR =>
  cn_core (ho := fun _ => .lst []) (ob := { cls := .type "list", data := .seq ([] : List Value).toArray }) (.inl ⟨_, _, _, _, rfl⟩) hc hN I rfl hi ok hown hv (fun {A E Q s} q => wpAny_newObj_type q (by show 0 ≤ sizeLine; decide)) (fun H h _ => ⟨Nat.zero_le _, [], 0, .nil, Heap.get?_push_size _ rfl⟩) ht hg hts hb hs h hRR
theorem LcRun.imp {elt : Expr} {gs : List Comprehension} {scope : Scope} {pos : Pos} {t t' : TE} (h : LcRun X elt gs iter scope pos t) (w : ∀ σ H Q, t' σ H Q → t σ H Q) : LcRun X elt gs iter scope pos t' := fun I q hRR => h I (w _ _ _ q) hRR
theorem pe_lcr {elt : Expr} {gs : List Comprehension} {scope : Scope} {pos : Pos} {t : TE} (h : LcRun X elt (⟨tg, iter, ifs, 0⟩ :: gs) iter scope pos t) : PE X (.ListComp elt (⟨tg, iter, ifs, 0⟩ :: gs) scope pos) t := by
  refine ⟨fun pins s σ H Q I q => ?_⟩
  rw [eval_ListComp]
  refine h I q fun D C s' m H' I' q hn f => ⟨m, hn, fun h'' sb => ?_⟩
  obtain ⟨f0, f1, f2, f3, f4, f5⟩ := f
  exact ⟨.ref D, H', I'.turned (t' := s'.toks) (fun b o hb e => (sb.2 b hb).trans e) f0 f1 f3 f4 f5, rfl, q⟩
theorem ps_setLcr {i : Nat} {y : Str} {py spos : Pos} {elt : Expr} {gs : List Comprehension} {scope : Scope} {pos : Pos} {t : TE} (h : LcRun X elt (⟨tg, iter, ifs, 0⟩ :: gs) iter scope pos t) (hN : X.N.Nodup) (hy : X.N[i]? = some y) (hyl : X.env.scope.names.lookup y = some .local)
    (hsw : swapsWith (.ListComp elt (⟨tg, iter, ifs, 0⟩ :: gs) scope pos) (some (.Name y py)) spos.line X.env = pure true) :
    PS X (.Assign [.Name y py] (.ListComp elt (⟨tg, iter, ifs, 0⟩ :: gs) scope pos) spos) (tAsg t (gName i)) := by
  refine ⟨fun pins s σ H D I hq => ?_⟩
  rw [exec_Assign_Name_used _ _ _ _ hsw]
  refine wpAny_bind (wpAny_standAt (wpAny_bind ?_))
  show wpAny _ X.A (do let _ ← comprehension (.ListComp elt (⟨tg, iter, ifs, 0⟩ :: gs) scope pos) scope X.env (firstIterPos (⟨tg, iter, ifs, 0⟩ :: gs) pos) (newList []) false (eval iter X.env) (some (assign (.Name y py) X.env))) _ _ s
  have hq : t σ H (fun x H1 => gName i x σ H1 D.nx) := hq
  refine wpAny_bind (thn (h (Qf := fun _ s' => SP X pins D .next s') I hq fun L C s' m H' I' q hn f => ?_) fun _ s' hq => wpAny_pure (wpAny_pure hq))
  show wpAny _ _ (assign (.Name y py) X.env (.ref L)) _ _ _
  refine wpAny_assign_Name (store_ok2 (v := V.ref L) I' hN hy (.inl hyl) rfl (fun s2 I2 ⟨a, sb, ha⟩ => ?_) (.inr hyl))
  obtain ⟨f0, f1, f2, f3, f4, f5⟩ := f
  have haC : C ≠ a := by
    rcases ha with z | z
    · rw [z]; exact f1
    · exact fun e => f4 y a z e.symm
  refine ⟨m, hn.sameBut sb haC, fun h3 sb3 => ?_⟩
  exact ⟨_, H', I2.turned (t' := s2.toks) (fun b o hb e => (sb3.2 b hb).trans e) f0 f1 f3 f4 f5, q⟩
end
end L2

set_option Elab.async false
set_option linter.all false
set_option maxRecDepth 100000
set_option maxHeartbeats 4000000
namespace DL
open PySem PySem.Spec PyProof.Rows L2
structure AccK (A E : Type) where
  P : Addr → Hp → Hp → A → Prop
  size : A → Nat
  step : A → E → A
  mono : ∀ {D : Addr} {Hv Hv' H H' : Hp} {a : A}, P D Hv H a → Same Hv Hv' → H' D = H D → P D Hv' H' a
  there : ∀ {D : Addr} {Hv H : Hp} {a : A}, P D Hv H a → ∃ o, H D = some o
  grow : ∀ a x, size (step a x) ≤ size a + 1
theorem AccK.growL {A E : Type} (AC : AccK A E) (l : List E) : ∀ a, AC.size (l.foldl AC.step a) ≤ AC.size a + l.length := by
  induction l with
  | nil => intro a; exact Nat.le_refl _
  | cons x l ih =>
    intro a
    have h1 := ih (AC.step a x)
    have h2 := AC.grow a x
    simp only [List.foldl_cons, List.length_cons]
    omega
theorem split_flat {α E : Type} {xs : List α} {pr : α → Bool} {out : α → List E} {i : Nat} (hlt : i < xs.length) (hp : pr xs[i] = true) : ((xs.filter pr).flatMap out) = (((xs.take i).filter pr).flatMap out) ++ out xs[i] ++ (((xs.drop (i + 1)).filter pr).flatMap out) := by
  have e : xs.drop i = xs[i] :: xs.drop (i + 1) := List.drop_eq_getElem_cons hlt
  have e2 : xs.filter pr = (xs.take i).filter pr ++ (xs.drop i).filter pr := by rw [← List.filter_append, List.take_append_drop]
  rw [e2, List.flatMap_append, e, List.filter_cons, if_pos hp, List.flatMap_cons, List.append_assoc]
def But (D : Addr) (H H' : Hp) : Prop := ∀ b o, b ≠ D → H b = some o → H' b = some o
theorem But.refl {D : Addr} {H : Hp} : But D H H := fun _ _ _ h => h
theorem But.trans {D : Addr} {H H1 H2 : Hp} (a : But D H H1) (b : But D H1 H2) : But D H H2 := fun x o n h => b x o n (a x o n h)
theorem But.same {D : Addr} {H H1 : Hp} (a : Same H H1) : But D H H1 := fun x o n h => a x o h
theorem But.upd {D : Addr} {H : Hp} {o : HO} : But D H (upd H D o) := fun x _ n h => by rw [upd_ne n]; exact h
theorem vis_but {F : Addr → Bool} {O : Om} {D : Addr} {H H' : Hp} (hF : F D = true) (b : But D H H') : Same (vis F O H) (vis F O H') := fun a o h => by
  obtain ⟨h1, h2, h3⟩ := vis_some.mp h
  have ne : a ≠ D := fun z => by rw [z, hF] at h1; cases h1
  exact vis_some.mpr ⟨h1, h2, b _ _ ne h3⟩
structure Hid (B : Gd) (D : Addr) : Prop where
  F : B.F D = true
  L : ∀ m, (D, m) ∉ B.L
section
variable {K : PySem.W.Frag} {B : Gd} {ρ : List (Option D)} {O : Om} {σ : L2.St} {H H' : Hp} {D : Addr}
theorem Hid.notO (h : Hid B D) (s : StOk K B ρ O σ H) : has O D = false := by
  obtain ⟨o, e⟩ := B.ok D h.F
  exact (s.m.base D o e).2
theorem hid_step (s : StOk K B ρ O σ H) (hd : Hid B D) (b : But D H H') (he : ∃ o, H' D = some o) : ∃ B' : Gd, B'.F = B.F ∧ B'.L = B.L ∧ Hid B' D ∧ StOk K B' ρ O σ H' := by
  have hO := hd.notO s
  have sv := vis_but (O := O) hd.F b
  refine ⟨⟨B.F, fun a => if a = D then H' D else B.Hb a, B.W, B.L, fun a h => ?_, B.lF⟩, rfl, rfl, ⟨hd.F, hd.L⟩, ⟨⟨fun a o q => ?_, fun a m hm => ?_, s.m.nd, fun a m hm => ?_⟩, s.env.mono sv⟩⟩
  · by_cases q : a = D
    · subst q; rw [if_pos rfl]; exact he
    · rw [if_neg q]; exact B.ok a h
  · by_cases z : a = D
    · subst z
      have q' : (if a = a then H' a else B.Hb a) = some o := q
      rw [if_pos rfl] at q'
      exact ⟨q', hO⟩
    · have q' : (if a = D then H' D else B.Hb a) = some o := q
      rw [if_neg z] at q'
      exact ⟨b _ _ z (s.m.base a o q').1, (s.m.base a o q').2⟩
  · have ne : a ≠ D := fun z => by
      subst z
      have := has_mem.mpr ⟨m, hm⟩
      rw [hO] at this; cases this
    exact (s.m.mem a m hm).mono sv fun o q => b _ _ ne q
  · have ne : a ≠ D := fun z => by subst z; exact hd.L m hm
    exact (s.m.lent a m hm).mono sv fun o q => b _ _ ne q
end
def tAnyI (Xs : Cx → Prop) (tg iter : Expr) : TI := fun σ H R => ∀ X, Xs X → ∃ wi, PI X tg iter wi ∧ wi σ H R
theorem anyI_ok {Xs : Cx → Prop} {X : Cx} {tg iter : Expr} (h : Xs X) : PI X tg iter (tAnyI Xs tg iter) := ⟨fun pins s σ H R I q => by
  obtain ⟨wi, p, q'⟩ := q X h
  exact p.run pins s σ H R I q'⟩
section
variable {X : Cx} {B : Gd} {ρ ρ' : List (Option D)} {O : Om} {scope : Scope} {A E : Type} {AC : AccK A E} {elt iter tg : Expr} {ifs : List Expr} {pos : Pos} {D0 : Addr} {te : TB} {cs : List Clz}
def TailOk (X : Cx) (L : Om) (O : Om) (AC : AccK A E) (D0 : Addr) (cs : List Clz) (te : TB) (ρ : List (Option D)) (l : List E) : Prop :=
  ∀ (B' : Gd) (σ : L2.St) (H : Hp) (a : A) (Nx : Hp → Prop), B'.L = L → Hid B' D0 → StOk X.K B' ρ O σ H → AC.P D0 (vis B'.F O H) H a → AC.size a + l.length ≤ sizeLine →
    (∀ H', But D0 H H' → AC.P D0 (vis B'.F O H') H' (l.foldl AC.step a) → Nx H') → tCl cs te σ H Nx
theorem tail_clause {α : Type} {xs : List α} {h : α → D} {pr : α → Bool} {out : α → List E} {g : TG} {sl vs : List Nat} {f}
    (hi : ∀ X' B', B'.L = B.L → Blk X scope X' → ∃ wi G, EI X' B' ρ O tg iter wi G (xs.map h) ∧ G O) (hg : ∀ X', Blk X scope X' → EB X' tg g sl f) (hsl : ∀ j ∈ sl, j ∈ vs)
    (hb : ∀ x ∈ xs, ∃ ρ', f (h x) (wipeD ρ vs) = some ρ' ∧ (∀ X' B', B'.L = B.L → Blk X scope X' → ETs X' B' ρ' O ifs (pr x)) ∧ (pr x = true → TailOk X B.L O AC D0 cs te ρ' (out x))) :
    TailOk X B.L O AC D0 (⟨tAnyI (Blk X scope) tg iter, g, tAnyTs (Blk X scope) ifs, vs⟩ :: cs) te ρ ((xs.filter pr).flatMap out) := fun B0 σ H a Nx eL hd st hA hz k => by
  show tAnyI (Blk X scope) tg iter σ H _
  intro Xp hXp
  have hK : ∀ X', Blk X scope X' → X'.K = X.K := fun X' ⟨s, H, C, cl, fp, e⟩ => by rw [e]
  obtain ⟨wi, G, ei, hG⟩ := hi Xp B0 eL hXp
  refine ⟨wi, ei.pi, ei.is σ H _ (by rw [hK Xp hXp]; exact st) fun J H1 e1 S => ?_⟩
  rw [hK Xp hXp] at S
  have s1 := st.same e1
  have hA1 := AC.mono hA (vis_same (F := B0.F) (O := O) e1) (by obtain ⟨o, q⟩ := AC.there hA; rw [q, e1 _ _ q] : H1 D0 = H D0)
  have hlx : (xs.map h).length = xs.length := List.length_map ..
  refine ⟨fun i m H' => m = xs.length - i ∧ i ≤ xs.length ∧ But D0 H1 H' ∧ AC.P D0 (vis B0.F O H') H' ((((xs.take i).filter pr).flatMap out).foldl AC.step a), ⟨xs.length, by simp, Nat.zero_le _, .refl, by simpa using hA1⟩, ?_⟩
  rintro i m H' ⟨rfl, hi', bt, hP⟩
  obtain ⟨B', eF, eL', hd', sB⟩ := hid_step s1 hd bt (AC.there hP)
  have eL2 : B'.L = B0.L := eL'
  have eB : Same (vis B0.F O H1) (vis B'.F O H') := by rw [eF]; exact vis_but hd.F bt
  by_cases hlt : i < xs.length
  · refine .inr ⟨S.goes i B' O H' eL2 (by rw [hlx]; exact hlt) sB.m eB hG, fun H2 => But D0 H1 H2 ∧ AC.P D0 (vis B0.F O H2) H2 ((((xs.take (i + 1)).filter pr).flatMap out).foldl AC.step a), fun H2 q => ⟨xs.length - (i + 1), by omega, rfl, hlt, q.1, q.2⟩, fun x H2 y => ?_⟩
    obtain ⟨e2, d, hd2, rv⟩ := S.yields i B' O H' x H2 eL2 (by rw [hlx]; exact hlt) sB.m eB hG y
    have ed : d = h (xs[i]) := by
      rw [List.getElem?_map, List.getElem?_eq_getElem hlt] at hd2
      exact (Option.some.inj hd2).symm
    subst ed
    obtain ⟨ρ', hf, ht, he⟩ := hb (xs[i]) (List.getElem_mem hlt)
    have sw : StOk X.K B' (wipeD ρ vs) O (L2.wipe σ vs) H2 := ⟨(sB.same e2).m, wipeD_env (sB.same e2).env vs⟩
    refine (hg (X.blk X.s_0 H scope (compEnvC scope [] 0 X.env) []) ⟨X.s_0, H, 0, [], [], rfl⟩).is B' O _ _ ρ' x _ H2 _ hf sw rv fun σ2 s2 off => ⟨(off.wipe hsl).trans (wipe_wipe _ _), ?_⟩
    refine ⟨X.K, B', ρ', O, pr xs[i], fun X' hX' => ⟨hK X' hX', ht X' B' (eL2.trans eL) hX'⟩, s2, fun H3 e3 => ?_⟩
    have tk : xs.take (i + 1) = xs.take i ++ [xs[i]] := by rw [List.take_succ, List.getElem?_eq_getElem hlt]; rfl
    have b3 : But D0 H1 H3 := (bt.trans (.same e2)).trans (.same e3)
    have keepD : H3 D0 = H' D0 := by
      obtain ⟨o, q⟩ := AC.there hP
      rw [q, e3 _ _ (e2 _ _ q)]
    have hP3 : AC.P D0 (vis B0.F O H3) H3 ((((xs.take i).filter pr).flatMap out).foldl AC.step a) := AC.mono hP (vis_same (e2.trans e3)) keepD
    cases hp : pr xs[i] with
    | false =>
      refine iteF ⟨b3, ?_⟩
      rw [tk, List.filter_append]
      have : List.filter pr [xs[i]] = [] := by simp [hp]
      rw [this, List.append_nil]
      exact hP3
    | true =>
      refine iteT (he hp B' σ2 H3 _ _ (eL2.trans eL) hd' (s2.same e3) (by rw [eF]; exact hP3) ?_ fun H4 b4 hP4 => ⟨b3.trans b4, ?_⟩)
      · have g1 := AC.growL (((xs.take i).filter pr).flatMap out) a
        have l1 : (((xs.take i).filter pr).flatMap out).length + (out xs[i]).length ≤ ((xs.filter pr).flatMap out).length := by
          have := split_flat (out := out) hlt hp
          rw [this]; simp only [List.length_append]; omega
        omega
      · rw [tk, List.filter_append, List.flatMap_append, List.foldl_append]
        have : List.filter pr [xs[i]] = [xs[i]] := by simp [hp]
        rw [this]
        rw [eF] at hP4
        simpa using hP4
  · have e : i = xs.length := by omega
    subst e
    refine .inl ⟨by have q := S.stops B' O H' eL2 sB.m eB hG; rw [hlx] at q; exact q, k H' ((But.same e1).trans bt) ?_⟩
    rw [List.take_length] at hP
    exact hP
theorem cnW_imp {α : Type} {xs : List α} {h : α → D} {pr : α → Bool} {out : α → List E} {G : Om → Prop} {g : TG} {sl vs : List Nat} {f} {wi : TI} {te : Addr → TB} {ho : Addr → HO} {a0 : A} {σ : L2.St} {H : Hp} {Q : VK}
    (hi : EI X B ρ O tg iter wi G (xs.map h)) (hG : G O) (hg : ∀ X', Blk X scope X' → EB X' tg g sl f) (hsl : ∀ j ∈ sl, j ∈ vs)
    (hb : ∀ D0, ∀ x ∈ xs, ∃ ρ', f (h x) (wipeD ρ vs) = some ρ' ∧ (∀ X' B', B'.L = B.L → Blk X scope X' → ETs X' B' ρ' O ifs (pr x)) ∧ (pr x = true → TailOk X B.L O AC D0 cs (te D0) ρ' (out x)))
    (h0 : ∀ D Hv H, (D == sysModules) = false → AC.P D Hv (upd H D (ho D)) a0) (hz : AC.size a0 + ((xs.filter pr).flatMap out).length ≤ sizeLine)
    (st : StOk X.K B ρ O σ H) (k : ∀ p H', H p = none → Same H H' → AC.P p (vis B.F ((p, .lst []) :: O) H') H' (((xs.filter pr).flatMap out).foldl AC.step a0) → Q (.ref p) H') :
    tCn ⟨wi, g, tAnyTs (Blk X scope) ifs, vs⟩ cs te ho σ H Q := by
  refine hi.is σ H _ st fun J H1 e1 S D hD hlo => ?_
  have hK : ∀ X', Blk X scope X' → X'.K = X.K := fun X' ⟨s, H, C, cl, fp, e⟩ => by rw [e]
  have s1 := st.same e1
  have oD := s1.m.newO hD
  have fD := s1.m.newF hD
  have visD : ∀ {H' : Hp}, vis B.F ((D, .lst []) :: O) H' = fun a => if (B.F a || a == D || has O a) = true then none else H' a := fun {H'} => by
    funext a
    unfold vis
    rw [has_cons, Bool.beq_comm (a := D), Bool.or_assoc]
  have keep : ∀ {H' : Hp}, Same H1 H' → Same (vis B.F O H1) (vis B.F ((D, .lst []) :: O) H') := fun {H'} e a o h => by
    obtain ⟨h1, h2, h3⟩ := vis_some.mp h
    have ne : a ≠ D := ne_of_none h3 hD
    exact vis_some.mpr ⟨h1, by rw [has_cons, h2, Bool.or_false]; exact beq_eq_false_iff_ne.mpr (Ne.symm ne), e _ _ h3⟩
  have nL : ∀ m, (D, m) ∉ B.L := fun m hm => by
    obtain ⟨o, q⟩ := (s1.m.lent D m hm).some
    rw [hD] at q; cases q
  have hid : ∀ {H' : Hp} (e : Same H1 H') (hd : ∃ o, H' D = some o), ∃ B' : Gd, B'.L = B.L ∧ Hid B' D ∧ (∀ H2, vis B'.F O H2 = vis B.F ((D, .lst []) :: O) H2) ∧ StOk X.K B' (wipeD ρ vs) O (L2.wipe σ vs) H' := fun {H'} e hd => by
    have b3 : ∀ a o, B.Hb a = some o → H' a = some o ∧ has O a = false := fun a o q => ⟨e _ _ (s1.m.base a o q).1, (s1.m.base a o q).2⟩
    have ev : ∀ H2, vis (B.hid D H' O B.ok hd b3 oD).F O H2 = vis B.F ((D, .lst []) :: O) H2 := fun H2 => by rw [visD]; rfl
    refine ⟨B.hid D H' O B.ok hd b3 oD, rfl, ⟨by show (B.F D || D == D) = true; simp, nL⟩, ev, ⟨⟨fun a o q => ?_, fun a m hm => ?_, s1.m.nd, fun a m hm => ?_⟩, ?_⟩⟩
    · have q' : (if has O a = true then none else H' a) = some o := q
      cases ha : has O a with
      | true => rw [ha, if_pos rfl] at q'; cases q'
      | false => rw [ha, if_neg Bool.false_ne_true] at q'; exact ⟨q', rfl⟩
    · rw [ev]
      exact (s1.m.mem a m hm).mono (keep e) fun o q => e _ _ q
    · rw [ev]
      exact (s1.m.lent a m hm).mono (keep e) fun o q => e _ _ q
    · rw [ev]
      exact wipeD_env (s1.env.mono (keep e)) _
  have hlx : (xs.map h).length = xs.length := List.length_map ..
  refine ⟨fun i m H' => m = xs.length - i ∧ i ≤ xs.length ∧ Same H1 H' ∧ AC.P D (vis B.F ((D, .lst []) :: O) H') H' ((((xs.take i).filter pr).flatMap out).foldl AC.step a0), ⟨xs.length, by simp, Nat.zero_le _, same_new hD, by simpa using h0 D _ H1 hlo⟩, ?_⟩
  rintro i m H' ⟨rfl, hi', eS, hP⟩
  obtain ⟨B', eL, hd', ev, sB⟩ := hid eS (AC.there hP)
  have eB : Same (vis B.F O H1) (vis B'.F O H') := by rw [ev]; exact keep eS
  by_cases hlt : i < xs.length
  · refine .inr ⟨S.goes i B' O H' eL (by rw [hlx]; exact hlt) sB.m eB hG, fun H2 => Same H1 H2 ∧ AC.P D (vis B.F ((D, .lst []) :: O) H2) H2 ((((xs.take (i + 1)).filter pr).flatMap out).foldl AC.step a0), fun H2 q => ⟨xs.length - (i + 1), by omega, rfl, hlt, q.1, q.2⟩, fun x H2 y => ?_⟩
    obtain ⟨e2, d, hd2, rv⟩ := S.yields i B' O H' x H2 eL (by rw [hlx]; exact hlt) sB.m eB hG y
    have ed : d = h (xs[i]) := by
      rw [List.getElem?_map, List.getElem?_eq_getElem hlt] at hd2
      exact (Option.some.inj hd2).symm
    subst ed
    obtain ⟨ρ', hf, ht, he⟩ := hb D (xs[i]) (List.getElem_mem hlt)
    refine (hg (X.blk X.s_0 H scope (compEnvC scope [] 0 X.env) []) ⟨X.s_0, H, 0, [], [], rfl⟩).is B' O _ _ ρ' x _ H2 _ hf (sB.same e2) rv fun σ2 s2 off => ⟨(off.wipe hsl).trans (wipe_wipe _ _), ?_⟩
    refine ⟨X.K, B', ρ', O, pr xs[i], fun X' hX' => ⟨hK X' hX', ht X' B' eL hX'⟩, s2, fun H3 e3 => ?_⟩
    have tk : xs.take (i + 1) = xs.take i ++ [xs[i]] := by rw [List.take_succ, List.getElem?_eq_getElem hlt]; rfl
    have eS3 : Same H1 H3 := (eS.trans e2).trans e3
    have keepD : H3 D = H' D := by
      obtain ⟨o, q⟩ := AC.there hP
      rw [q, e3 _ _ (e2 _ _ q)]
    have hP3 : AC.P D (vis B.F ((D, .lst []) :: O) H3) H3 ((((xs.take i).filter pr).flatMap out).foldl AC.step a0) := AC.mono hP (vis_same (e2.trans e3)) keepD
    cases hp : pr xs[i] with
    | false =>
      refine iteF ⟨eS3, ?_⟩
      rw [tk, List.filter_append]
      have : List.filter pr [xs[i]] = [] := by simp [hp]
      rw [this, List.append_nil]
      exact hP3
    | true =>
      refine iteT (he hp B' σ2 H3 _ _ eL hd' (s2.same e3) (by rw [ev]; exact hP3) ?_ fun H4 b4 hP4 => ⟨fun b o q => b4 b o (ne_of_none q hD) (eS3 _ _ q), ?_⟩)
      · have g1 := AC.growL (((xs.take i).filter pr).flatMap out) a0
        have l1 : (((xs.take i).filter pr).flatMap out).length + (out xs[i]).length ≤ ((xs.filter pr).flatMap out).length := by
          have := split_flat (out := out) hlt hp
          rw [this]; simp only [List.length_append]; omega
        omega
      · rw [tk, List.filter_append, List.flatMap_append, List.foldl_append]
        have : List.filter pr [xs[i]] = [xs[i]] := by simp [hp]
        rw [this]
        rw [ev] at hP4
        simpa using hP4
  · have e : i = xs.length := by omega
    subst e
    refine .inl ⟨by have q := S.stops B' O H' eL sB.m eB hG; rw [hlx] at q; exact q, k D H' (e1.free hD) (e1.trans eS) ?_⟩
    rw [List.take_length] at hP
    exact hP
end
def accL (K : PySem.W.Frag) : AccK (List D) D where
  P := fun D Hv H as => ∃ acc, H D = some (.lst acc) ∧ RpL K Hv acc as
  size := List.length
  step := fun as d => as ++ [d]
  mono := fun ⟨acc, h, r⟩ e eh => ⟨acc, eh.trans h, r.mono e⟩
  there := fun ⟨acc, h, _⟩ => ⟨_, h⟩
  grow := fun a x => by simp
theorem foldl_snoc {α : Type} (l : List α) : ∀ a, l.foldl (fun as d => as ++ [d]) a = a ++ l := by
  induction l with
  | nil => intro a; simp
  | cons x l ih => intro a; simp [ih]
abbrev teL (X : Cx) (scope : Scope) (elt : Expr) (D0 : Addr) : TB := fun σ H Nx => tAnyE (Blk X scope) elt σ H fun y H7 => ∃ acc, H7 D0 = some (.lst acc) ∧ acc.length < sizeLine ∧ Nx (upd H7 D0 (.lst (acc ++ [y])))
section
variable {X : Cx} {B : Gd} {ρ ρ' : List (Option D)} {O : Om} {scope : Scope} {elt iter tg it2 tg2 it3 tg3 : Expr} {ifs ifs2 ifs3 : List Expr} {pos : Pos} {D0 : Addr} {d : D}
theorem tail_elt (he : ∀ X' B', B'.L = B.L → Blk X scope X' → EV X' B' ρ O elt d) : TailOk X B.L O (accL X.K) D0 [] (teL X scope elt D0) ρ [d] := fun B0 σ H a Nx eL hd st ⟨acc, hA, rA⟩ hz k => by
  have hK : ∀ X', Blk X scope X' → X'.K = X.K := fun X' ⟨s, H, C, cl, fp, e⟩ => by rw [e]
  refine ⟨X.K, B0, ρ, O, d, fun X' hX' => ⟨hK X' hX', he X' B0 eL hX'⟩, st, fun v H4 e4 r4 => ⟨acc, e4 _ _ hA, ?_, ?_⟩⟩
  · have hz' : a.length + 1 ≤ sizeLine := hz
    rw [rA.length]; omega
  · refine k _ ((But.same e4).trans .upd) ⟨acc ++ [v], upd_same, ?_⟩
    have up : vis B0.F O (upd H4 D0 (.lst (acc ++ [v]))) = vis B0.F O H4 := by
      funext b
      by_cases q : b = D0
      · subst q; unfold vis; rw [hd.F]; simp
      · unfold vis; rw [upd_ne q]
    rw [up]
    exact (rA.mono (vis_same e4)).append (.cons r4 .nil)
theorem lcn2 {α β : Type} {xs : List α} {h : α → D} {pr : α → Bool} {ys : α → List β} {h2 : α → β → D} {pr2 : α → β → Bool} {el : α → β → D} (own own2 : List (Str × Nat)) {wi : TI} {G : Om → Prop} {g g2 : TG} {sl sl2 : List Nat} {f f2}
    (hc : X.calm = true) (hN : X.N.Nodup) (hi : EI X B ρ O tg iter wi G (xs.map h)) (hG : G O) (ok : BlkOk X.N X.env.scope scope own)
    (hg : ∀ X', Blk X scope X' → EB X' tg g sl f) (hsl : ∀ j ∈ sl, j ∈ own.map (·.2)) (hg2 : ∀ X', Blk X scope X' → EB X' tg2 g2 sl2 f2) (hsl2 : ∀ j ∈ sl2, j ∈ own2.map (·.2)) (hv : ∀ i ∈ own2.map (·.2), i ∈ own.map (·.2))
    (hb : ∀ x ∈ xs, ∃ ρ', f (h x) (wipeD ρ (own.map (·.2))) = some ρ' ∧ (∀ X' B', B'.L = B.L → Blk X scope X' → ETs X' B' ρ' O ifs (pr x)) ∧ (pr x = true → (∀ X' B', B'.L = B.L → Blk X scope X' → ∃ wi G, EI X' B' ρ' O tg2 it2 wi G ((ys x).map (h2 x)) ∧ G O) ∧
      ∀ y ∈ ys x, ∃ ρ2, f2 (h2 x y) (wipeD ρ' (own2.map (·.2))) = some ρ2 ∧ (∀ X' B', B'.L = B.L → Blk X scope X' → ETs X' B' ρ2 O ifs2 (pr2 x y)) ∧ (pr2 x y = true → ∀ X' B', B'.L = B.L → Blk X scope X' → EV X' B' ρ2 O elt (el x y))))
    (hz : ((xs.filter pr).flatMap fun x => ((ys x).filter (pr2 x)).map (el x)).length ≤ sizeLine) (hs : ∀ x, foldedSetIterable iter X.env x = pure x := by intro _; rfl) (hs2 : ∀ env x, foldedSetIterable it2 env x = pure x := by intro _ _; rfl) :
    LcRun X elt [⟨tg, iter, ifs, 0⟩, ⟨tg2, it2, ifs2, 0⟩] iter scope pos (tN X.K B ρ O ((xs.filter pr).flatMap fun x => ((ys x).filter (pr2 x)).map (el x))) := by
  refine LcRun.imp (lc_run (elt := elt) (pos := pos) (c := ⟨wi, g, tAnyTs (Blk X scope) ifs, own.map (·.2)⟩) (cs := [⟨tAnyI (Blk X scope) tg2 it2, g2, tAnyTs (Blk X scope) ifs2, own2.map (·.2)⟩]) (sub := own2.map (·.2)) (te := teL X scope elt)
    (body := fun acc env => bodyC (.ListComp elt [⟨tg, iter, ifs, 0⟩, ⟨tg2, it2, ifs2, 0⟩] scope pos) 1 it2 acc env) hc hN hi.pi ok rfl hv (fun it D env => by rfl) (fun s H C cl fp => (hg _ ⟨s, H, C, cl, fp, rfl⟩).pg) (fun s H C cl fp => anyTs_ok ⟨s, H, C, cl, fp, rfl⟩)
    (fun s H C cl fp D => body_clause (X := X.blk s H scope (compEnvC scope cl C X.env) fp) (sub := []) (e := (.ListComp elt [⟨tg, iter, ifs, 0⟩, ⟨tg2, it2, ifs2, 0⟩] scope pos)) (d := 1) (acc := .ref D) (c := ⟨tAnyI (Blk X scope) tg2 it2, g2, tAnyTs (Blk X scope) ifs2, own2.map (·.2)⟩) (cs := []) (te := teL X scope elt D) (body := bodyE (do let _ ← call (.builtin "list.append") [.ref D, ← eval elt (compEnvC scope cl C X.env)])) rfl (.inl ⟨_, _, _, _, rfl⟩) hc rfl (fun it => by rfl) hs2 (anyI_ok ⟨s, H, C, cl, fp, rfl⟩) (hg2 _ ⟨s, H, C, cl, fp, rfl⟩).pg (anyTs_ok ⟨s, H, C, cl, fp, rfl⟩) (fun _ h => by cases h) (body_list (elt := elt) rfl (anyE_ok ⟨s, H, C, cl, fp, rfl⟩))) hs) fun σ H Q ⟨st, k⟩ => ?_
  refine cnW_imp (pr := pr) (AC := accL X.K) (a0 := []) (out := fun x => ((ys x).filter (pr2 x)).map (el x)) hi hG hg hsl (fun D0 x hx => ?_) (fun D Hv H _ => ⟨[], upd_same, .nil⟩) (by simpa [accL] using hz) st fun p H' hp e ⟨acc, hv, r⟩ => k p H' acc hp e hv ?_
  · obtain ⟨ρ', b1, b2, b3⟩ := hb x hx
    refine ⟨ρ', b1, b2, fun hp => ?_⟩
    have e : ((ys x).filter (pr2 x)).map (el x) = ((ys x).filter (pr2 x)).flatMap fun y => [el x y] := by rw [List.map_eq_flatMap]
    show TailOk X B.L O _ D0 _ _ ρ' (((ys x).filter (pr2 x)).map (el x))
    rw [e]
    refine tail_clause (b3 hp).1 hg2 hsl2 fun y hy => ?_
    obtain ⟨ρ2, c1, c2, c3⟩ := (b3 hp).2 y hy
    exact ⟨ρ2, c1, c2, fun hp2 => tail_elt (c3 hp2)⟩
  · have q : ∀ m, vis B.F ((p, m) :: O) H' = vis B.F ((p, .lst []) :: O) H' := fun m => vis_keys rfl
    rw [q]
    have e := foldl_snoc ((xs.filter pr).flatMap fun x => ((ys x).filter (pr2 x)).map (el x)) []
    rw [List.nil_append] at e
    rw [← e]; exact r
theorem lcn3 {α β γ : Type} {xs : List α} {h : α → D} {pr : α → Bool} {ys : α → List β} {h2 : α → β → D} {pr2 : α → β → Bool} {zs : α → β → List γ} {h3 : α → β → γ → D} {pr3 : α → β → γ → Bool} {el : α → β → γ → D} (own own2 own3 : List (Str × Nat)) {wi : TI} {G : Om → Prop} {g g2 g3 : TG} {sl sl2 sl3 : List Nat} {f f2 f3}
    (hc : X.calm = true) (hN : X.N.Nodup) (hi : EI X B ρ O tg iter wi G (xs.map h)) (hG : G O) (ok : BlkOk X.N X.env.scope scope own)
    (hg : ∀ X', Blk X scope X' → EB X' tg g sl f) (hsl : ∀ j ∈ sl, j ∈ own.map (·.2)) (hg2 : ∀ X', Blk X scope X' → EB X' tg2 g2 sl2 f2) (hsl2 : ∀ j ∈ sl2, j ∈ own2.map (·.2)) (hg3 : ∀ X', Blk X scope X' → EB X' tg3 g3 sl3 f3) (hsl3 : ∀ j ∈ sl3, j ∈ own3.map (·.2)) (hv : ∀ i ∈ own2.map (·.2), i ∈ own.map (·.2)) (hv3 : ∀ i ∈ own3.map (·.2), i ∈ own2.map (·.2))
    (hb : ∀ x ∈ xs, ∃ ρ', f (h x) (wipeD ρ (own.map (·.2))) = some ρ' ∧ (∀ X' B', B'.L = B.L → Blk X scope X' → ETs X' B' ρ' O ifs (pr x)) ∧ (pr x = true → (∀ X' B', B'.L = B.L → Blk X scope X' → ∃ wi G, EI X' B' ρ' O tg2 it2 wi G ((ys x).map (h2 x)) ∧ G O) ∧
      ∀ y ∈ ys x, ∃ ρ2, f2 (h2 x y) (wipeD ρ' (own2.map (·.2))) = some ρ2 ∧ (∀ X' B', B'.L = B.L → Blk X scope X' → ETs X' B' ρ2 O ifs2 (pr2 x y)) ∧ (pr2 x y = true → (∀ X' B', B'.L = B.L → Blk X scope X' → ∃ wi G, EI X' B' ρ2 O tg3 it3 wi G ((zs x y).map (h3 x y)) ∧ G O) ∧
        ∀ z ∈ zs x y, ∃ ρ3, f3 (h3 x y z) (wipeD ρ2 (own3.map (·.2))) = some ρ3 ∧ (∀ X' B', B'.L = B.L → Blk X scope X' → ETs X' B' ρ3 O ifs3 (pr3 x y z)) ∧ (pr3 x y z = true → ∀ X' B', B'.L = B.L → Blk X scope X' → EV X' B' ρ3 O elt (el x y z)))))
    (hz : ((xs.filter pr).flatMap fun x => ((ys x).filter (pr2 x)).flatMap fun y => ((zs x y).filter (pr3 x y)).map (el x y)).length ≤ sizeLine) (hs : ∀ x, foldedSetIterable iter X.env x = pure x := by intro _; rfl) (hs2 : ∀ env x, foldedSetIterable it2 env x = pure x := by intro _ _; rfl) (hs3 : ∀ env x, foldedSetIterable it3 env x = pure x := by intro _ _; rfl) :
    LcRun X elt [⟨tg, iter, ifs, 0⟩, ⟨tg2, it2, ifs2, 0⟩, ⟨tg3, it3, ifs3, 0⟩] iter scope pos (tN X.K B ρ O ((xs.filter pr).flatMap fun x => ((ys x).filter (pr2 x)).flatMap fun y => ((zs x y).filter (pr3 x y)).map (el x y))) := by
  refine LcRun.imp (lc_run (elt := elt) (pos := pos) (c := ⟨wi, g, tAnyTs (Blk X scope) ifs, own.map (·.2)⟩) (cs := [⟨tAnyI (Blk X scope) tg2 it2, g2, tAnyTs (Blk X scope) ifs2, own2.map (·.2)⟩, ⟨tAnyI (Blk X scope) tg3 it3, g3, tAnyTs (Blk X scope) ifs3, own3.map (·.2)⟩]) (sub := own2.map (·.2)) (te := teL X scope elt)
    (body := fun acc env => bodyC (.ListComp elt [⟨tg, iter, ifs, 0⟩, ⟨tg2, it2, ifs2, 0⟩, ⟨tg3, it3, ifs3, 0⟩] scope pos) 1 it2 acc env) hc hN hi.pi ok rfl hv (fun it D env => by rfl) (fun s H C cl fp => (hg _ ⟨s, H, C, cl, fp, rfl⟩).pg) (fun s H C cl fp => anyTs_ok ⟨s, H, C, cl, fp, rfl⟩)
    (fun s H C cl fp D => body_clause (X := X.blk s H scope (compEnvC scope cl C X.env) fp) (sub := own3.map (·.2)) (e := (.ListComp elt [⟨tg, iter, ifs, 0⟩, ⟨tg2, it2, ifs2, 0⟩, ⟨tg3, it3, ifs3, 0⟩] scope pos)) (d := 1) (acc := .ref D) (c := ⟨tAnyI (Blk X scope) tg2 it2, g2, tAnyTs (Blk X scope) ifs2, own2.map (·.2)⟩) (cs := [⟨tAnyI (Blk X scope) tg3 it3, g3, tAnyTs (Blk X scope) ifs3, own3.map (·.2)⟩]) (te := teL X scope elt D) (body := bodyC (.ListComp elt [⟨tg, iter, ifs, 0⟩, ⟨tg2, it2, ifs2, 0⟩, ⟨tg3, it3, ifs3, 0⟩] scope pos) 2 it3 (.ref D) (compEnvC scope cl C X.env)) rfl (.inl ⟨_, _, _, _, rfl⟩) hc rfl (fun it => by rfl) hs2 (anyI_ok ⟨s, H, C, cl, fp, rfl⟩) (hg2 _ ⟨s, H, C, cl, fp, rfl⟩).pg (anyTs_ok ⟨s, H, C, cl, fp, rfl⟩) hv3
      (body_clause (X := X.blk s H scope (compEnvC scope cl C X.env) fp) (sub := []) (e := (.ListComp elt [⟨tg, iter, ifs, 0⟩, ⟨tg2, it2, ifs2, 0⟩, ⟨tg3, it3, ifs3, 0⟩] scope pos)) (d := 2) (acc := .ref D) (c := ⟨tAnyI (Blk X scope) tg3 it3, g3, tAnyTs (Blk X scope) ifs3, own3.map (·.2)⟩) (cs := []) (te := teL X scope elt D) (body := bodyE (do let _ ← call (.builtin "list.append") [.ref D, ← eval elt (compEnvC scope cl C X.env)])) rfl (.inl ⟨_, _, _, _, rfl⟩) hc rfl (fun it => by rfl) hs3 (anyI_ok ⟨s, H, C, cl, fp, rfl⟩) (hg3 _ ⟨s, H, C, cl, fp, rfl⟩).pg (anyTs_ok ⟨s, H, C, cl, fp, rfl⟩) (fun _ h => by cases h) (body_list (elt := elt) rfl (anyE_ok ⟨s, H, C, cl, fp, rfl⟩)))) hs) fun σ H Q ⟨st, k⟩ => ?_
  refine cnW_imp (pr := pr) (AC := accL X.K) (a0 := []) (out := fun x => ((ys x).filter (pr2 x)).flatMap fun y => ((zs x y).filter (pr3 x y)).map (el x y)) hi hG hg hsl (fun D0 x hx => ?_) (fun D Hv H _ => ⟨[], upd_same, .nil⟩) (by simpa [accL] using hz) st fun p H' hp e ⟨acc, hv, r⟩ => k p H' acc hp e hv ?_
  · obtain ⟨ρ', b1, b2, b3⟩ := hb x hx
    refine ⟨ρ', b1, b2, fun hp => ?_⟩
    refine tail_clause (b3 hp).1 hg2 hsl2 fun y hy => ?_
    obtain ⟨ρ2, c1, c2, c3⟩ := (b3 hp).2 y hy
    refine ⟨ρ2, c1, c2, fun hp2 => ?_⟩
    have e : ((zs x y).filter (pr3 x y)).map (el x y) = ((zs x y).filter (pr3 x y)).flatMap fun z => [el x y z] := by rw [List.map_eq_flatMap]
    show TailOk X B.L O _ D0 _ _ ρ2 (((zs x y).filter (pr3 x y)).map (el x y))
    rw [e]
    refine tail_clause (c3 hp2).1 hg3 hsl3 fun z hz => ?_
    obtain ⟨ρ3, d1, d2, d3⟩ := (c3 hp2).2 z hz
    exact ⟨ρ3, d1, d2, fun hp3 => tail_elt (d3 hp3)⟩
  · have q : ∀ m, vis B.F ((p, m) :: O) H' = vis B.F ((p, .lst []) :: O) H' := fun m => vis_keys rfl
    rw [q]
    have e := foldl_snoc ((xs.filter pr).flatMap fun x => ((ys x).filter (pr2 x)).flatMap fun y => ((zs x y).filter (pr3 x y)).map (el x y)) []
    rw [List.nil_append] at e
    rw [← e]; exact r
theorem en_lcr {gs : List Comprehension} {ds : List D} (h : LcRun X elt (⟨tg, iter, ifs, 0⟩ :: gs) iter scope pos (tN X.K B ρ O ds)) : EN X B ρ O (.ListComp elt (⟨tg, iter, ifs, 0⟩ :: gs) scope pos) ds := pe_lcr h
theorem j_setLcr {A : AE} {gs : List Comprehension} {ds : List D} {i : Nat} {y : Str} {py spos : Pos} (h : LcRun X elt (⟨tg, iter, ifs, 0⟩ :: gs) iter scope pos (tN X.K B ρ O ds)) (hN : X.N.Nodup) (hy : X.N[i]? = some y) (hyl : X.env.scope.names.lookup y = some .local)
    (hsw : swapsWith (.ListComp elt (⟨tg, iter, ifs, 0⟩ :: gs) scope pos) (some (.Name y py)) spos.line X.env = pure true) (hnx : A.nx (ρ.set i (some (.lst ds))) O) : J1 X B (.Assign [.Name y py] (.ListComp elt (⟨tg, iter, ifs, 0⟩ :: gs) scope pos) spos) ρ O A :=
  ps_imp (ps_setLcr h hN hy hyl hsw) fun Dn σ H ⟨st, p⟩ => ⟨st, fun q H1 vs hp e1 hv r => by
    have fp := st.m.newF hp
    have op := st.m.newO hp
    have r' : Rp X.K (vis B.F O H1) (.ref q) (.lst ds) := .lst (vis_some.mpr ⟨fp, op, hv⟩) (r.mono fun a o h => by
      obtain ⟨h1, h2, h3⟩ := vis_some.mp h
      rw [has_cons, Bool.or_eq_false_iff] at h2
      exact vis_some.mpr ⟨h1, h2.2, h3⟩)
    exact p.nx _ O _ H1 hnx ((st.same e1).set r') (vis_same e1)⟩
theorem jc_setLcr {α β : Type} {A : α → AE} {gs : List Comprehension} {es : List β} {F : β → D} {m : List β → Cmp α} {rest : List Stmt} (i : Nat) {y : Str} {py spos : Pos} (h : LcRun X elt (⟨tg, iter, ifs, 0⟩ :: gs) iter scope pos (tN X.K B ρ O (es.map F))) (hN : X.N.Nodup) (hy : X.N[i]? = some y) (hyl : X.env.scope.names.lookup y = some .local)
    (hsw : swapsWith (.ListComp elt (⟨tg, iter, ifs, 0⟩ :: gs) scope pos) (some (.Name y py)) spos.line X.env = pure true) (hr : ∀ es, JC X B rest (ρ.set i (some (.lst (es.map F)))) O A (m es)) :
    JC X B (.Assign [.Name y py] (.ListComp elt (⟨tg, iter, ifs, 0⟩ :: gs) scope pos) spos :: rest) ρ O A (.bnd es m) := fun ok => j_cons (j_setLcr h hN hy hyl hsw (hr _ ok))
theorem lcr_conv {gs : List Comprehension} {ds ds' : List D} (h : LcRun X elt gs iter scope pos (tN X.K B ρ O ds)) (e : ds = ds') : LcRun X elt gs iter scope pos (tN X.K B ρ O ds') := e ▸ h
theorem lcn2T {α β : Type} {xs : List α} {h : α → D} {pr : α → Bool} {ys : α → List β} {h2 : α → β → D} {pr2 : α → β → Bool} {δ : Type} {el : α → β → δ} {F : δ → D} (own own2 : List (Str × Nat)) {wi : TI} {G : Om → Prop} {g g2 : TG} {sl sl2 : List Nat} {f f2}
    (hc : X.calm = true) (hN : X.N.Nodup) (hi : EI X B ρ O tg iter wi G (xs.map h)) (hG : G O) (ok : BlkOk X.N X.env.scope scope own)
    (hg : ∀ X', Blk X scope X' → EB X' tg g sl f) (hsl : ∀ j ∈ sl, j ∈ own.map (·.2)) (hg2 : ∀ X', Blk X scope X' → EB X' tg2 g2 sl2 f2) (hsl2 : ∀ j ∈ sl2, j ∈ own2.map (·.2)) (hv : ∀ i ∈ own2.map (·.2), i ∈ own.map (·.2))
    (hb : ∀ x ∈ xs, ∃ ρ', f (h x) (wipeD ρ (own.map (·.2))) = some ρ' ∧ (∀ X' B', B'.L = B.L → Blk X scope X' → ETs X' B' ρ' O ifs (pr x)) ∧ (pr x = true → (∀ X' B', B'.L = B.L → Blk X scope X' → ∃ wi G, EI X' B' ρ' O tg2 it2 wi G ((ys x).map (h2 x)) ∧ G O) ∧
      ∀ y ∈ ys x, ∃ ρ2, f2 (h2 x y) (wipeD ρ' (own2.map (·.2))) = some ρ2 ∧ (∀ X' B', B'.L = B.L → Blk X scope X' → ETs X' B' ρ2 O ifs2 (pr2 x y)) ∧ (pr2 x y = true → ∀ X' B', B'.L = B.L → Blk X scope X' → EV X' B' ρ2 O elt (F (el x y)))))
    (hz : ((xs.filter pr).flatMap fun x => ((ys x).filter (pr2 x)).map (el x)).length ≤ sizeLine) (hs : ∀ x, foldedSetIterable iter X.env x = pure x := by intro _; rfl) (hs2 : ∀ env x, foldedSetIterable it2 env x = pure x := by intro _ _; rfl) :
    LcRun X elt [⟨tg, iter, ifs, 0⟩, ⟨tg2, it2, ifs2, 0⟩] iter scope pos (tN X.K B ρ O (((xs.filter pr).flatMap fun x => ((ys x).filter (pr2 x)).map (el x)).map F)) := by
  refine lcr_conv (lcn2 (el := fun x y => F (el x y)) (pos := pos) own own2 hc hN hi hG ok hg hsl hg2 hsl2 hv hb ?_ hs hs2) ?_
  · have q := hz
    rw [← List.length_map (f := F)] at q
    simp only [List.map_flatMap, List.map_map, Function.comp_def] at q
    exact q
  · simp only [List.map_flatMap, List.map_map, Function.comp_def]
theorem lcn3T {α β γ : Type} {xs : List α} {h : α → D} {pr : α → Bool} {ys : α → List β} {h2 : α → β → D} {pr2 : α → β → Bool} {zs : α → β → List γ} {h3 : α → β → γ → D} {pr3 : α → β → γ → Bool} {δ : Type} {el : α → β → γ → δ} {F : δ → D} (own own2 own3 : List (Str × Nat)) {wi : TI} {G : Om → Prop} {g g2 g3 : TG} {sl sl2 sl3 : List Nat} {f f2 f3}
    (hc : X.calm = true) (hN : X.N.Nodup) (hi : EI X B ρ O tg iter wi G (xs.map h)) (hG : G O) (ok : BlkOk X.N X.env.scope scope own)
    (hg : ∀ X', Blk X scope X' → EB X' tg g sl f) (hsl : ∀ j ∈ sl, j ∈ own.map (·.2)) (hg2 : ∀ X', Blk X scope X' → EB X' tg2 g2 sl2 f2) (hsl2 : ∀ j ∈ sl2, j ∈ own2.map (·.2)) (hg3 : ∀ X', Blk X scope X' → EB X' tg3 g3 sl3 f3) (hsl3 : ∀ j ∈ sl3, j ∈ own3.map (·.2)) (hv : ∀ i ∈ own2.map (·.2), i ∈ own.map (·.2)) (hv3 : ∀ i ∈ own3.map (·.2), i ∈ own2.map (·.2))
    (hb : ∀ x ∈ xs, ∃ ρ', f (h x) (wipeD ρ (own.map (·.2))) = some ρ' ∧ (∀ X' B', B'.L = B.L → Blk X scope X' → ETs X' B' ρ' O ifs (pr x)) ∧ (pr x = true → (∀ X' B', B'.L = B.L → Blk X scope X' → ∃ wi G, EI X' B' ρ' O tg2 it2 wi G ((ys x).map (h2 x)) ∧ G O) ∧
      ∀ y ∈ ys x, ∃ ρ2, f2 (h2 x y) (wipeD ρ' (own2.map (·.2))) = some ρ2 ∧ (∀ X' B', B'.L = B.L → Blk X scope X' → ETs X' B' ρ2 O ifs2 (pr2 x y)) ∧ (pr2 x y = true → (∀ X' B', B'.L = B.L → Blk X scope X' → ∃ wi G, EI X' B' ρ2 O tg3 it3 wi G ((zs x y).map (h3 x y)) ∧ G O) ∧
        ∀ z ∈ zs x y, ∃ ρ3, f3 (h3 x y z) (wipeD ρ2 (own3.map (·.2))) = some ρ3 ∧ (∀ X' B', B'.L = B.L → Blk X scope X' → ETs X' B' ρ3 O ifs3 (pr3 x y z)) ∧ (pr3 x y z = true → ∀ X' B', B'.L = B.L → Blk X scope X' → EV X' B' ρ3 O elt (F (el x y z))))))
    (hz : ((xs.filter pr).flatMap fun x => ((ys x).filter (pr2 x)).flatMap fun y => ((zs x y).filter (pr3 x y)).map (el x y)).length ≤ sizeLine) (hs : ∀ x, foldedSetIterable iter X.env x = pure x := by intro _; rfl) (hs2 : ∀ env x, foldedSetIterable it2 env x = pure x := by intro _ _; rfl) (hs3 : ∀ env x, foldedSetIterable it3 env x = pure x := by intro _ _; rfl) :
    LcRun X elt [⟨tg, iter, ifs, 0⟩, ⟨tg2, it2, ifs2, 0⟩, ⟨tg3, it3, ifs3, 0⟩] iter scope pos (tN X.K B ρ O (((xs.filter pr).flatMap fun x => ((ys x).filter (pr2 x)).flatMap fun y => ((zs x y).filter (pr3 x y)).map (el x y)).map F)) := by
  refine lcr_conv (lcn3 (el := fun x y z => F (el x y z)) (pos := pos) own own2 own3 hc hN hi hG ok hg hsl hg2 hsl2 hg3 hsl3 hv hv3 hb ?_ hs hs2 hs3) ?_
  · have q := hz
    rw [← List.length_map (f := F)] at q
    simp only [List.map_flatMap, List.map_map, Function.comp_def] at q
    exact q
  · simp only [List.map_flatMap, List.map_map, Function.comp_def]
end
end DL

set_option Elab.async false
set_option linter.all false
set_option maxRecDepth 100000
set_option maxHeartbeats 4000000
namespace DL
open PySem PySem.Spec PyProof.Rows L2
section
variable {X : Cx} {pins : List (Addr × Obj)} {σ : L2.St} {H : Hp} {s : Shared}
mutual
theorem rp_key (I : Inv X pins σ H s) : ∀ (k : NestedKey) (v : V) (u : Value), numK k = true → Rp X.K H v (dOf k) → RelV v u → NestedIs s.heap k u
  | .none, _, _, hn, _, _ => by cases hn
  | .num i, v, u, _, r, rv => by
    cases r
    obtain ⟨t, rfl⟩ := rv
    exact .int i t
  | .text x, _, _, hn, _, _ => by cases hn
  | .tup ks, v, u, hn, r, rv => by
    cases r with
    | @tup a vs _ hq rl =>
      have hu : u = .ref a := rv
      subst hu
      obtain ⟨its, rr, p, hz⟩ := I.tuple hq
      obtain ⟨o, ho, hc, n, hd⟩ := p
      exact .tup ho hc hd (by simpa using rp_keys I ks vs its hn rl rr)
theorem rp_keys (I : Inv X pins σ H s) : ∀ (ks : List NestedKey) (vs : List V) (us : List Value), numKs ks = true → RpL X.K H vs (dOfs ks) → Vals vs us → NestedAll s.heap ks us
  | [], _, _, _, r, rv => by cases r; cases rv; exact .nil
  | k :: ks, _, _, hn, r, rv => by
    rw [numKs, Bool.and_eq_true] at hn
    cases r with
    | cons h r =>
      cases rv with
      | cons hv rv => exact .cons (rp_key I k _ _ hn.1 h hv) (rp_keys I ks _ _ hn.2 r rv)
end
end
theorem dOfs_eq (ks : List NestedKey) : dOfs ks = ks.map dOf := by
  induction ks with
  | nil => rfl
  | cons k ks ih => rw [dOfs, ih]; rfl
mutual
theorem hash_num (w w' : World) : ∀ k : NestedKey, numK k = true → k.hash w = k.hash w'
  | .none, h => by cases h
  | .num i, _ => rfl
  | .text x, h => by cases h
  | .tup ks, h => by rw [NestedKey.hash, NestedKey.hash, hashes_num w w' ks h]
theorem hashes_num (w w' : World) : ∀ ks : List NestedKey, numKs ks = true → NestedKey.hashes w ks = NestedKey.hashes w' ks
  | [], _ => rfl
  | k :: ks, h => by
    rw [numKs, Bool.and_eq_true] at h
    rw [NestedKey.hashes, NestedKey.hashes, hash_num w w' k h.1, hashes_num w w' ks h.2]
end
abbrev entsK (ks : List NestedKey) (as : List Addr) : List (NestedKey × Addr × Value) := (ks.zip as).map fun p => (p.1, p.2, Value.bool true)
theorem ents_keys {ks : List NestedKey} {as : List Addr} (h : as.length = ks.length) : (entsK ks as).map (·.1) = ks := by
  rw [List.map_map]
  show (ks.zip as).map (fun p => p.1) = ks
  rw [List.map_fst_zip (by omega)]
theorem dct_of {X : Cx} {pins : List (Addr × Obj)} {σ : L2.St} {H : Hp} {s : Shared} {a : Addr} {es : Array DictEntry} {ep : Nat} {bs : List V} {ks : List NestedKey} {as : List Addr} (I : Inv X pins σ H s) (h : H a = some (.ext fun h => h.DictRaw a es ep)) (k : DctOk es bs ks as) (r : RpL X.K H bs (dOfs ks)) :
    s.heap.DictOfH (nestedKind X.prog X.w) a (entsK ks as) := by
  obtain ⟨⟨o, ho, hc, hd⟩, _, _⟩ := I.hok a _ h
  refine ⟨o, es, ep, ho, hc, hd, ?_, fun x hx => ?_, by rw [ents_keys k.len]; exact k.nd⟩
  · rw [k.es X.w, List.map_map]; rfl
  · obtain ⟨p, hp, rfl⟩ := List.mem_map.mp hx
    obtain ⟨kk, b⟩ := p
    obtain ⟨i, hi⟩ := List.mem_iff_getElem?.mp hp
    rw [List.getElem?_zip_eq_some] at hi
    have hm := List.mem_of_getElem? hi.1
    have hb : bs[i]? = some (V.ref b) := by rw [k.bs, List.getElem?_map, hi.2]; rfl
    obtain ⟨d, hd', rv⟩ := r.get' hb
    rw [dOfs_eq, List.getElem?_map, hi.1] at hd'
    cases hd'
    exact ⟨rp_key I kk _ _ (k.num _ hm).1 rv rfl, (k.num _ hm).2⟩
theorem atKey_ents {ks : List NestedKey} {as : List Addr} (h : as.length = ks.length) (k : NestedKey) : (atKey (entsK ks as) k).isSome = decide (k ∈ ks) := by
  unfold atKey
  rw [Option.isSome_map]
  refine Bool.eq_iff_iff.mpr ⟨fun q => ?_, fun q => ?_⟩
  · obtain ⟨x, hx, e⟩ := List.find?_isSome.mp q
    have := List.mem_map_of_mem (f := (·.1)) hx
    rw [ents_keys h, of_decide_eq_true e] at this
    exact decide_eq_true this
  · have hm : k ∈ (entsK ks as).map (·.1) := by rw [ents_keys h]; exact of_decide_eq_true q
    obtain ⟨x, hx, e⟩ := List.mem_map.mp hm
    exact List.find?_isSome.mpr ⟨x, hx, decide_eq_true e⟩
def rInK (K : PySem.W.Frag) (neg : Bool) : R2 := fun x y H Q => ∃ k ks, numK k = true ∧ k.depth ≤ 8 ∧ (∃ l, k = .tup l) ∧ Rp K H x (dOf k) ∧ Rp K H y (.dct ks) ∧ Q (.bl (neg != decide (k ∈ ks))) H
theorem op_inK {X : Cx} (hu : X.A.units + 65 < cLine) : OpR X (compareOp .In) (rInK X.K false) := fun pins s σ H x y v u Q I rx ry ⟨k, ks, h1, h2, ⟨l, hl⟩, r1, r2, q⟩ => by
  subst hl
  cases r1 with
  | @tup b vs _ hq rl =>
    have hv : v = .ref b := rx
    subst hv
    cases r2 with
    | @dct a es ep bs _ as ha lo hk rk =>
      have hu' : u = .ref a := ry
      subst hu'
      have hd := dct_of I ha hk rk
      refine in_keyed (knd := nestedKind X.prog X.w) (k := .tup l) (kvs := pairsH (entsK ks as)) (show X.A.in1.units + 8 < cLine by show X.A.units + 1 + 8 < cLine; omega) ⟨rp_key I (.tup l) _ _ h1 (.tup hq rl) rfl, h2⟩ lo ⟨_, hd, rfl⟩ ?_
      rw [valueAt_pairsH, Option.isSome_map, atKey_ents hk.len]
      exact ⟨.bl (decide (NestedKey.tup l ∈ ks)), H, I.tok _, rfl, by simpa using q⟩
structure KeyOk {α : Type} (E : α → D) (f : α → NestedKey) : Prop where
  eq : ∀ a, dOf (f a) = E a
  inj : ∀ a b, f a = f b → a = b
  num : ∀ a, numK (f a) = true
  dep : ∀ a, (f a).depth ≤ 8
  tup : ∀ a, ∃ l, f a = .tup l
section
variable {K : PySem.W.Frag} {B : Gd} {O : Om} {α : Type} {E : α → D} {f : α → NestedKey} [DecidableEq α]
theorem mem_key (hk : KeyOk E f) (x : α) (xs : List α) : decide (f x ∈ xs.map f) = decide (x ∈ xs) := by
  by_cases h : x ∈ xs
  · rw [decide_eq_true h, decide_eq_true (List.mem_map_of_mem h)]
  · rw [decide_eq_false h, decide_eq_false]
    intro q
    obtain ⟨y, hy, e⟩ := List.mem_map.mp q
    rw [hk.inj _ _ e] at hy
    exact h hy
theorem rd_inKD (hk : KeyOk E f) {x : α} {xs : List α} : RD K B O (rInK K false) (E x) (.dct (xs.map f)) (.bl (decide (x ∈ xs))) := fun v y H Q m r1 r2 k => by
  refine ⟨f x, xs.map f, hk.num x, hk.dep x, hk.tup x, by rw [hk.eq]; exact r1.mono vis_le, r2.mono vis_le, ?_⟩
  rw [mem_key hk]
  cases h : decide (x ∈ xs) <;> exact k _ H (Same.refl H) (by rw [h]; exact .bl _)
end
def stepK (ks : List NestedKey) (k : NestedKey) : List NestedKey := if k ∈ ks then ks else ks ++ [k]
def accK (K : PySem.W.Frag) : AccK (List NestedKey) NestedKey where
  P := fun D Hv H ks => ∃ es ep bs as, H D = some (.ext fun h => h.DictRaw D es ep) ∧ (D == sysModules) = false ∧ DctOk es bs ks as ∧ RpL K Hv bs (dOfs ks)
  size := List.length
  step := stepK
  mono := fun ⟨es, ep, bs, as, h, l, k, r⟩ e eh => ⟨es, ep, bs, as, eh.trans h, l, k, r.mono e⟩
  there := fun ⟨es, ep, bs, as, h, _⟩ => ⟨_, h⟩
  grow := fun a x => by unfold stepK; split <;> simp
theorem dict_ext_ok {X : Cx} {H : Hp} {h : Heap} {a : Addr} {es : Array DictEntry} {ep : Nat} (x : h.DictRaw a es ep) : ObjOk X.prog X.w H h a (.ext fun h => h.DictRaw a es ep) :=
  ⟨x, let ⟨o, ho, _⟩ := x; ⟨o, ho⟩, fun h1 h2 p e => p.at e⟩
theorem d_setK {X : Cx} {pins : List (Addr × Obj)} {σ : L2.St} {H : Hp} {s : Shared} {E : Value → Shared → Prop} {D : Addr} {y : V} {u : Value} {k : NestedKey} {ks : List NestedKey} {Q : Unit → Shared → Prop} (hu : X.A.units + 65 < cLine) (I : Inv X pins σ H s)
    {es : Array DictEntry} {ep : Nat} {bs : List V} {as : List Addr} (hD : H D = some (.ext fun h => h.DictRaw D es ep)) (dk : DctOk es bs ks as) (rl : RpL X.K H bs (dOfs ks)) (hn : numK k = true) (hd : k.depth ≤ 8) (ht : ∃ l, k = .tup l) (rk : Rp X.K H y (dOf k)) (rv : RelV y u) (hz : ks.length < sizeLine)
    (q : ∀ s' es' ep' bs' as', Inv X pins σ (upd H D (.ext fun h => h.DictRaw D es' ep')) s' → DctOk es' bs' (stepK ks k) as' → (∀ Hv, RpL X.K Hv bs (dOfs ks) → Rp X.K Hv y (dOf k) → RpL X.K Hv bs' (dOfs (stepK ks k))) → Q () s') :
    wpAny (model X.prog X.w) X.A (dictSet D u (.bool true)) Q E s := by
  obtain ⟨l, hl⟩ := ht
  have hy : ∃ b, y = .ref b := by
    subst hl
    cases rk with
    | tup _ _ => exact ⟨_, rfl⟩
  obtain ⟨b, rfl⟩ := hy
  have hu' : u = .ref b := rv
  subst hu'
  have dm := dct_of I hD dk rl
  have hlen : (entsK ks as).length = ks.length := by rw [← List.length_map (f := (·.1)), ents_keys dk.len]
  have hi : (nestedKind X.prog X.w).is s.heap k b := ⟨rp_key I k _ _ hn rk rfl, hd⟩
  refine wpAny_dictSet_heap (hsz := by rw [hlen]; omega) (knd := nestedKind X.prog X.w) (show X.A.units + 8 < cLine by omega) hi dm fun h' hm' hs => ?_
  have old : ∀ xs : List (NestedKey × Addr × Value), (∀ x ∈ xs, x.2.2 = .bool true) → xs.map (putAt k (.bool true)) = xs := fun xs hx => by
    refine (List.map_congr_left fun x hm => ?_).trans (List.map_id xs)
    unfold putAt
    split
    · have := hx x hm
      obtain ⟨a, c, v⟩ := x
      simp only at this
      subst this; rfl
    · rfl
  have est : storedH (entsK ks as) k b (.bool true) = if k ∈ ks then entsK ks as else entsK (ks ++ [k]) (as ++ [b]) := by
    unfold storedH
    rw [atKey_ents dk.len]
    by_cases hm : k ∈ ks
    · rw [decide_eq_true hm, if_pos rfl, if_pos hm]
      exact old _ fun x hx => by obtain ⟨p, _, rfl⟩ := List.mem_map.mp hx; rfl
    · rw [decide_eq_false hm, if_neg (by decide), if_neg hm]
      rw [entsK, entsK, List.zip_append dk.len.symm]
      simp
  obtain ⟨o, es', ep', ho, hc, hdat, he, _, hnd⟩ := hm'
  have raw : h'.DictRaw D es' ep' := ⟨o, ho, hc, hdat⟩
  have I' : Inv X pins σ (upd H D (.ext fun h => h.DictRaw D es' ep')) { s with heap := h', toks := s.toks + (nestedKind X.prog X.w).draws k } :=
    d_write I (by rw [hD]; exact True.intro) hs ⟨o, ho⟩ (dict_ext_ok raw)
  rw [est] at he
  by_cases hm : k ∈ ks
  · rw [if_pos hm] at he
    refine q _ es' ep' bs as I' ?_ fun Hv r _ => ?_
    · unfold stepK; rw [if_pos hm]
      refine ⟨dk.nd, dk.num, dk.bs, dk.len, fun w => ?_, dk.lim⟩
      rw [he, List.map_map]
      refine List.map_congr_left fun p hp => ?_
      have hmem := (List.of_mem_zip hp).1
      show (⟨p.1.hash X.w, _, _⟩ : DictEntry) = _
      rw [hash_num X.w w p.1 (dk.num _ hmem).1]
    · unfold stepK; rw [if_pos hm]; exact r
  · rw [if_neg hm] at he
    refine q _ es' ep' (bs ++ [.ref b]) (as ++ [b]) I' ?_ fun Hv r r1 => ?_
    · unfold stepK; rw [if_neg hm]
      refine ⟨?_, fun k' hk' => ?_, by rw [dk.bs]; simp, by simp [dk.len], fun w => ?_, by simp; omega⟩
      · rw [List.nodup_append]
        exact ⟨dk.nd, by simp, fun a ha b' hb' e => hm (by rw [List.mem_singleton] at hb'; rw [← hb', ← e]; exact ha)⟩
      · rcases List.mem_append.mp hk' with hk' | hk'
        · exact dk.num _ hk'
        · rw [List.mem_singleton.mp hk']; exact ⟨hn, hd⟩
      · rw [he, List.map_map]
        refine List.map_congr_left fun p hp => ?_
        have hmem := (List.of_mem_zip hp).1
        have hnum : numK p.1 = true := by
          rcases List.mem_append.mp hmem with h | h
          · exact (dk.num _ h).1
          · rw [List.mem_singleton.mp h]; exact hn
        show (⟨p.1.hash X.w, _, _⟩ : DictEntry) = _
        rw [hash_num X.w w p.1 hnum]
    · unfold stepK
      rw [if_neg hm]
      rw [dOfs_eq] at r ⊢
      rw [List.map_append]
      exact r.append (.cons r1 .nil)
abbrev emitD (kx vx : Expr) (D : Addr) (env : Env) : Sem Unit := do
  let kv ← eval kx env
  let vv ← holding [kv] (eval vx env)
  standAt { kx.pos with endLine := vx.pos.endLine, endCol := vx.pos.endCol }
  holding [kv, vv] (dictSet D kv vv)
abbrev teK (X : Cx) (scope : Scope) (kx vx : Expr) (D0 : Addr) : TB := fun σ H Nx => tAnyE (Blk X scope) kx σ H fun y H7 => tAnyE (Blk X scope) vx σ H7 fun z H8 => z = .bl true ∧ ∃ es ep bs as ks k, H8 D0 = some (.ext fun h => h.DictRaw D0 es ep) ∧ DctOk es bs ks as ∧ RpL X.K H8 bs (dOfs ks) ∧
  numK k = true ∧ k.depth ≤ 8 ∧ (∃ l, k = .tup l) ∧ Rp X.K H8 y (dOf k) ∧ ks.length < sizeLine ∧ ∀ es' ep' bs' as', DctOk es' bs' (stepK ks k) as' → (∀ Hv, RpL X.K Hv bs (dOfs ks) → Rp X.K Hv y (dOf k) → RpL X.K Hv bs' (dOfs (stepK ks k))) → Nx (upd H8 D0 (.ext fun h => h.DictRaw D0 es' ep'))
theorem body_dict {X Y : Cx} {scope : Scope} {kx vx : Expr} {D : Addr} (hY : Blk X scope Y) (hu : X.A.units + 65 < cLine) : BodyOk Y [] (bodyE (emitD kx vx D Y.env)) (teK X scope kx vx D) := ⟨fun pins s σ H Nx I q k R E hk => by
  have hxe : Y.xe = fun _ _ => False := by obtain ⟨_, _, _, _, _, rfl⟩ := hY; rfl
  have hK : Y.K = X.K := by obtain ⟨_, _, _, _, _, rfl⟩ := hY; rfl
  have hA : Y.A = X.A := by obtain ⟨_, _, _, _, _, rfl⟩ := hY; rfl
  have re := (anyE_ok hY).run _ s σ H _ I q
  rw [hxe] at re
  unfold bodyE emitD
  refine wpAny_bind (wpAny_bind (thnF re fun kv s1 ⟨y, H1, I1, r1, q1⟩ => ?_))
  have re2 := (anyE_ok hY).run _ s1 σ H1 _ I1 q1
  rw [hxe] at re2
  refine wpAny_bind (wpAny_holding (thnF re2 fun vv s2 ⟨z, H2, I2, r2, hz, es, ep, bs, as, ks, kk, hD, dk, rl, hn, hd, ht, rk, hlt, nx⟩ => ?_))
  subst hz
  have hv : vv = .bool true := r2
  subst hv
  refine wpAny_bind (wpAny_standAt (wpAny_holding ?_))
  refine d_setK (by rw [hA]; exact hu) I2 hD dk (by rw [hK]; exact rl) hn hd ht (by rw [hK]; exact rk) r1 hlt fun s' es' ep' bs' as' I' dk' tr => hk _ _ _ I' .refl (nx es' ep' bs' as' dk' (by rw [← hK]; exact tr))⟩
section
variable {X : Cx} {B : Gd} {ρ ρ' : List (Option D)} {O : Om} {scope : Scope} {kx vx iter tg it2 tg2 : Expr} {ifs ifs2 : List Expr} {pos : Pos} {D0 : Addr} {k : NestedKey} {d : D}
theorem tail_key (he : ∀ X' B', B'.L = B.L → Blk X scope X' → EV X' B' ρ O kx d) (hv : ∀ X' B', B'.L = B.L → Blk X scope X' → EV X' B' ρ O vx (.bl true)) (ek : dOf k = d) (hn : numK k = true) (hd : k.depth ≤ 8) (ht : ∃ l, k = .tup l) :
    TailOk X B.L O (accK X.K) D0 [] (teK X scope kx vx D0) ρ [k] := fun B0 σ H ks Nx eL hdd st ⟨es, ep, bs, as, hD, lo, dk, rl⟩ hz nx => by
  have hK : ∀ X', Blk X scope X' → X'.K = X.K := fun X' ⟨s, H, C, cl, fp, e⟩ => by rw [e]
  refine ⟨X.K, B0, ρ, O, d, fun X' hX' => ⟨hK X' hX', he X' B0 eL hX'⟩, st, fun y H4 e4 r4 => ⟨X.K, B0, ρ, O, .bl true, fun X' hX' => ⟨hK X' hX', hv X' B0 eL hX'⟩, st.same e4, fun z H5 e5 r5 => ?_⟩⟩
  cases r5
  have hD5 := e5 _ _ (e4 _ _ hD)
  refine ⟨rfl, es, ep, bs, as, ks, k, hD5, dk, (rl.mono (vis_same (e4.trans e5))).mono vis_le, hn, hd, ht, by rw [ek]; exact (r4.mono (vis_same e5)).mono vis_le, ?_, fun es' ep' bs' as' dk' tr => ?_⟩
  · have hz' : ks.length + 1 ≤ sizeLine := hz
    omega
  · have up : vis B0.F O (upd H5 D0 (.ext fun h => h.DictRaw D0 es' ep')) = vis B0.F O H5 := by
      funext b
      by_cases q : b = D0
      · subst q; unfold vis; rw [hdd.F]; simp
      · unfold vis; rw [upd_ne q]
    refine nx _ (((But.same e4).trans (.same e5)).trans .upd) ⟨es', ep', bs', as', upd_same, lo, dk', ?_⟩
    rw [up]
    exact tr _ (rl.mono (vis_same (e4.trans e5))) (by rw [ek]; exact r4.mono (vis_same e5))
theorem dct_rp {K : PySem.W.Frag} {B : Gd} {O : Om} {H H0 : Hp} {p : Addr} {ks : List NestedKey} {m : M} (st : MOk K B O H0) (hp : H0 p = none) (h : (accK K).P p (vis B.F ((p, m) :: O) H) H ks) : Rp K (vis B.F O H) (.ref p) (.dct ks) := by
  obtain ⟨es, ep, bs, as, hD, lo, dk, rl⟩ := h
  refine .dct (vis_some.mpr ⟨st.newF hp, st.newO hp, hD⟩) lo dk (rl.mono fun a o h => ?_)
  obtain ⟨h1, h2, h3⟩ := vis_some.mp h
  rw [has_cons, Bool.or_eq_false_iff] at h2
  exact vis_some.mpr ⟨h1, h2.2, h3⟩
theorem pe_dcn {sub : List Nat} {c : Clz} {cs : List Clz} {gs : List Comprehension} {own : List (Str × Nat)} {body : Value → Env → Sem PySem.Fin → Sem PySem.Fin} {te : Addr → TB} (hc : X.calm = true) (hN : X.N.Nodup) (hi : PI X tg iter c.wi) (ok : BlkOk X.N X.env.scope scope own) (hown : c.vs = own.map (·.2)) (hv : ∀ i ∈ sub, i ∈ c.vs)
    (ht : ∀ it D env, compTurn (.DictComp kx vx (⟨tg, iter, ifs, 0⟩ :: gs) scope pos) 0 it (.ref D) env = turnS (.DictComp kx vx (⟨tg, iter, ifs, 0⟩ :: gs) scope pos) 0 tg iter ifs (body (.ref D) env) it (.ref D) env)
    (hg : ∀ (s : Shared) (H : Hp) (C : Addr) (cl : List (Str × Addr)) (fp : List Addr), PG (X.blk s H scope (compEnvC scope cl C X.env) fp) tg c.g) (hts : ∀ (s : Shared) (H : Hp) (C : Addr) (cl : List (Str × Addr)) (fp : List Addr), PTs (X.blk s H scope (compEnvC scope cl C X.env) fp) ifs c.tt)
    (hb : ∀ (s : Shared) (H : Hp) (C : Addr) (cl : List (Str × Addr)) (fp : List Addr) (D : Addr), BodyOk (X.blk s H scope (compEnvC scope cl C X.env) fp) sub (body (.ref D) (compEnvC scope cl C X.env)) (tCl cs (te D))) (hs : ∀ x, foldedSetIterable iter X.env x = pure x) :
    PE X (.DictComp kx vx (⟨tg, iter, ifs, 0⟩ :: gs) scope pos) (tCn c cs te fun D => .ext fun h => h.DictRaw D #[] 0) := by
  refine ⟨fun pins s σ H Q I h => ?_⟩
  rw [arm_eval_DictComp]
  refine cn_core (ho := fun D => .ext fun h => h.DictRaw D #[] 0) (ob := { cls := .type "dict", data := .dict #[] }) (.inr ⟨_, _, _, _, _, rfl⟩) hc hN I rfl hi ok hown hv (fun {A E Q s} q => wpAny_newObj_type q) (fun H h _ => dict_ext_ok ⟨_, Heap.get?_push_size _ rfl, ⟨rfl, rfl, rfl⟩, rfl⟩) ht hg hts hb hs h fun D C s' m H' I' q hn f => ⟨m, hn, fun h'' sb => ?_⟩
  obtain ⟨f0, f1, f2, f3, f4, f5⟩ := f
  exact ⟨.ref D, H', I'.turned (t' := s'.toks) (fun b o hb e => (sb.2 b hb).trans e) f0 f1 f3 f4 f5, rfl, q⟩
theorem dct_nil : DctOk #[] [] [] [] := ⟨List.nodup_nil, fun _ h => (by cases h), rfl, rfl, fun _ => rfl, Nat.zero_le _⟩
theorem ev_dc1 {α : Type} {xs : List α} {h : α → D} {pr : α → Bool} {ke : α → D} {kk : α → NestedKey} (own : List (Str × Nat)) {wi : TI} {G : Om → Prop} {g : TG} {sl : List Nat} {f}
    (hu : X.A.units + 65 < cLine) (hc : X.calm = true) (hN : X.N.Nodup) (hi : EI X B ρ O tg iter wi G (xs.map h)) (hG : G O) (ok : BlkOk X.N X.env.scope scope own)
    (hg : ∀ X', Blk X scope X' → EB X' tg g sl f) (hsl : ∀ j ∈ sl, j ∈ own.map (·.2))
    (hk : ∀ x, dOf (kk x) = ke x ∧ numK (kk x) = true ∧ (kk x).depth ≤ 8 ∧ ∃ l, kk x = .tup l)
    (hb : ∀ x ∈ xs, ∃ ρ', f (h x) (wipeD ρ (own.map (·.2))) = some ρ' ∧ (∀ X' B', B'.L = B.L → Blk X scope X' → ETs X' B' ρ' O ifs (pr x)) ∧ (pr x = true → (∀ X' B', B'.L = B.L → Blk X scope X' → EV X' B' ρ' O kx (ke x)) ∧ ∀ X' B', B'.L = B.L → Blk X scope X' → EV X' B' ρ' O vx (.bl true)))
    (hz : (xs.filter pr).length ≤ sizeLine) (hs : ∀ x, foldedSetIterable iter X.env x = pure x := by intro _; rfl) :
    EV X B ρ O (.DictComp kx vx [⟨tg, iter, ifs, 0⟩] scope pos) (.dct (((xs.filter pr).map kk).foldl stepK [])) := by
  have ef : (xs.filter pr).flatMap (fun x => [kk x]) = (xs.filter pr).map kk := by rw [List.map_eq_flatMap]
  refine pe_imp (pe_dcn (c := ⟨wi, g, tAnyTs (Blk X scope) ifs, own.map (·.2)⟩) (cs := []) (sub := []) (te := teK X scope kx vx) (body := fun acc env => match acc with | .ref D => bodyE (emitD kx vx D env) | _ => id) hc hN hi.pi ok rfl (fun _ h => by cases h) (fun it D env => by rfl)
    (fun s H C cl fp => (hg _ ⟨s, H, C, cl, fp, rfl⟩).pg) (fun s H C cl fp => anyTs_ok ⟨s, H, C, cl, fp, rfl⟩) (fun s H C cl fp D => body_dict ⟨s, H, C, cl, fp, rfl⟩ hu) hs) fun σ H Q ⟨st, k⟩ => ?_
  refine cnW_imp (pr := pr) (AC := accK X.K) (a0 := []) (out := fun x => [kk x]) hi hG hg hsl (fun D0 x hx => ?_) (fun D Hv H lo => ⟨#[], 0, [], [], upd_same, lo, dct_nil, .nil⟩) (by rw [ef]; simpa [accK] using hz) st fun p H' hp e hP => k _ H' e ?_
  · obtain ⟨ρ', b1, b2, b3⟩ := hb x hx
    exact ⟨ρ', b1, b2, fun hp => tail_key (b3 hp).1 (b3 hp).2 (hk x).1 (hk x).2.1 (hk x).2.2.1 (hk x).2.2.2⟩
  · rw [ef] at hP
    exact dct_rp st.m hp hP
end
def stepT {α : Type} [DecidableEq α] (xs : List α) (x : α) : List α := if x ∈ xs then xs else xs ++ [x]
def onceL {α : Type} [DecidableEq α] (xs : List α) : List α := xs.foldl stepT []
theorem once_map {α : Type} [DecidableEq α] {E : α → D} {f : α → NestedKey} (hk : KeyOk E f) (xs : List α) : (xs.map f).foldl stepK [] = (onceL xs).map f := by
  have : ∀ (xs acc : List α), (xs.map f).foldl stepK (acc.map f) = (xs.foldl stepT acc).map f := by
    intro xs
    induction xs with
    | nil => intro acc; rfl
    | cons x xs ih =>
      intro acc
      rw [List.map_cons, List.foldl_cons, List.foldl_cons]
      have e : stepK (acc.map f) (f x) = (stepT acc x).map f := by
        unfold stepK stepT
        have := mem_key hk x acc
        by_cases h : x ∈ acc
        · rw [if_pos h, if_pos (List.mem_map_of_mem h)]
        · rw [if_neg h, if_neg]
          · simp
          · intro q
            rw [decide_eq_true q, decide_eq_false h] at this
            cases this
      rw [e]; exact ih _
  exact this xs []
end DL

set_option Elab.async false
set_option linter.all false
set_option maxRecDepth 100000
set_option maxHeartbeats 4000000
namespace DL
open PySem PySem.Spec PyProof.Rows L2
def kRow (r : Row) : NestedKey := .tup [.num r.1, .num r.2.1, .num r.2.2]
def kRR (p : Row × Row) : NestedKey := .tup [kRow p.1, kRow p.2]
def kUI (xs : List Int) : NestedKey := .tup (xs.map .num)
theorem numKs_map (xs : List Int) : numKs (xs.map .num) = true := by
  induction xs with
  | nil => rfl
  | cons x xs ih => rw [List.map_cons, numKs, ih]; rfl
theorem depthAll_map (xs : List Int) : NestedKey.depthAll (xs.map .num) = 0 := by
  induction xs with
  | nil => rfl
  | cons x xs ih => rw [List.map_cons, NestedKey.depthAll, ih]; rfl
theorem key_ui : KeyOk (dU D.int) kUI where
  eq := fun xs => by
    show D.tup (dOfs _) = D.tup _
    rw [dOfs_eq, List.map_map]; rfl
  inj := fun a b h => by
    unfold kUI at h
    injection h with h
    have : ∀ a b : List Int, a.map NestedKey.num = b.map NestedKey.num → a = b := fun a => by
      induction a with
      | nil => intro b h; cases b with
        | nil => rfl
        | cons _ _ => cases h
      | cons x a ih => intro b h; cases b with
        | nil => cases h
        | cons y b =>
          rw [List.map_cons, List.map_cons] at h
          injection h with h1 h2
          injection h1 with h1
          rw [h1, ih b h2]
    exact this a b h
  num := numKs_map
  dep := fun xs => by show NestedKey.depthAll (xs.map .num) + 1 ≤ 8; rw [depthAll_map]; decide
  tup := fun _ => ⟨_, rfl⟩
abbrev dK {α : Type} (f : α → NestedKey) (xs : List α) : D := .dct (xs.map f)
section
variable {X : Cx} {B : Gd} {ρ ρ' : List (Option D)} {O : Om} {A : AE} {e : Expr} {es : List Expr} {pos : Pos}
def bLst (g : List D → List (Option D) → Option (List (Option D))) : D → List (Option D) → Option (List (Option D)) := fun d ρ => match d with | .lst ds => g ds ρ | _ => none
theorem eb_lst {k : Nat} {t : TGs} {f} {n : Nat} {sl : List Nat} (hc : X.calm = true) (h : EBs X es t sl f) (hl : ∀ ds ρ ρ', f ds ρ = some ρ' → ds.length = n) (hn : (assignEach es X.env).length = n := by rfl) (hst : (assignEach es X.env).findIdx? (·.1) = none := by rfl) :
    EB X (.Tuple es k pos) (gUnl X.K n t) sl (bLst f) :=
  ⟨pg_unl hc h.pg hn hst, fun B O d ρ ρ' v σ H Q e s r k => by
    cases d with
    | lst ds =>
      cases r with
      | lst hq r => exact ⟨_, _, rfl, .inl (.inl (vis_le _ _ hq)), by rw [r.length]; exact hl _ _ _ e, h.is B O ds ρ ρ' _ σ H Q e s r k⟩
    | _ => cases e⟩
abbrev dL3 {α : Type} (F : α → D) (p : α × α × α) : D := .lst [F p.1, F p.2.1, F p.2.2]
theorem lst3 {α : Type} [Inhabited α] {xs : List α} (h : xs.length = 3) : xs = [ixL xs 0, ixL xs 1, ixL xs 2] := by
  match xs, h with
  | [a, b, c], _ => rfl
theorem ev_lst3 {α : Type} [Inhabited α] {F : α → D} {xs : List α} (he : EV X B ρ O e (dL F xs)) (h : xs.length = 3) : EV X B ρ O e (dL3 F (ixL xs 0, ixL xs 1, ixL xs 2)) := ev_conv he (by
  have := congrArg (fun l => D.lst (l.map F)) (lst3 h)
  exact this)
theorem en_range1 {n : Int} {na : Expr} {p p1 pos2 : Pos} (hc : X.calm = true) (hg : Gl X "list") (hm : X.mg "list" = none) (hgr : Gl X "range") (hmr : X.mg "range" = none) (ha : EV X B ρ O na (.int n)) (hn : 0 ≤ n ∧ n ≤ 1000000)
    (h1 : starEach [na] X.env = (false, eval na X.env) :: starEach [] X.env := by rfl) (h2 : starEach [.Call (.Name "range" p1) [na] [] pos2] X.env = (false, eval (.Call (.Name "range" p1) [na] [] pos2) X.env) :: starEach [] X.env := by rfl) :
    EN X B ρ O (.Call (.Name "list" p) [.Call (.Name "range" p1) [na] [] pos2] [] pos) ((rangeL 0 n).map D.int) :=
  pe_imp (pe_listRg hc hg hm (prg_1 hgr hmr ha h1) h2) fun σ H Q ⟨st, k⟩ => ⟨st, fun v H1 e1 r1 => by
    cases r1
    refine ⟨n, rfl, ⟨by omega, by omega, by omega, by omega, by omega⟩, ?_⟩
    refine new_same (st.m.same e1) ?_ (fun p2 H' vs hp2 e2 hv2 r2 => k p2 H' vs (e1.free hp2) (e1.trans e2) hv2 r2)
    have e : rgV 0 n = (rangeL 0 n).map V.int := by unfold rgV rangeL; rw [List.map_map]; rfl
    rw [e]
    exact RpL.ofInts _⟩
variable {scope : Scope} {kx vx iter tg it2 tg2 : Expr} {ifs ifs2 : List Expr}
theorem ev_dc1T {α : Type} {xs : List α} {h : α → D} {pr : α → Bool} {δ : Type} [DecidableEq δ] {F : δ → D} {kf : δ → NestedKey} {el : α → δ} (own : List (Str × Nat)) {wi : TI} {G : Om → Prop} {g : TG} {sl : List Nat} {f}
    (hu : X.A.units + 65 < cLine) (hc : X.calm = true) (hN : X.N.Nodup) (hi : EI X B ρ O tg iter wi G (xs.map h)) (hG : G O) (ok : BlkOk X.N X.env.scope scope own)
    (hg : ∀ X', Blk X scope X' → EB X' tg g sl f) (hsl : ∀ j ∈ sl, j ∈ own.map (·.2))
    (hk : KeyOk F kf)
    (hb : ∀ x ∈ xs, ∃ ρ', f (h x) (wipeD ρ (own.map (·.2))) = some ρ' ∧ (∀ X' B', B'.L = B.L → Blk X scope X' → ETs X' B' ρ' O ifs (pr x)) ∧ (pr x = true → (∀ X' B', B'.L = B.L → Blk X scope X' → EV X' B' ρ' O kx (F (el x))) ∧ ∀ X' B', B'.L = B.L → Blk X scope X' → EV X' B' ρ' O vx (.bl true)))
    (hz : (xs.filter pr).length ≤ sizeLine) (hs : ∀ x, foldedSetIterable iter X.env x = pure x := by intro _; rfl) :
    EV X B ρ O (.DictComp kx vx [⟨tg, iter, ifs, 0⟩] scope pos) (dK kf (onceL ((xs.filter pr).map el))) :=
  ev_conv (ev_dc1 (ke := fun x => F (el x)) (kk := fun x => kf (el x)) own hu hc hN hi hG ok hg hsl (fun x => ⟨hk.eq _, hk.num _, hk.dep _, hk.tup _⟩) hb hz hs) (congrArg D.dct (by rw [← once_map hk, List.map_map]; rfl))
theorem ets_cons {c c2 : Expr} {cs : List Expr} {b1 b2 : Bool} (h : ET X B ρ O c b1) (h2 : b1 = true → ETs X B ρ O (c2 :: cs) b2) : ETs X B ρ O (c :: c2 :: cs) (b1 && b2) := ⟨fun pins s σ H Q I ⟨st, k⟩ => by
  rw [List.forIn_cons]
  simp only [if_true]
  refine wpAny_bind (wpAny_bind (thn (h.run pins s σ H (fun b H' => b = b1 ∧ Same H H') I ⟨st, fun H' e => ⟨rfl, e⟩⟩) fun b s1 ⟨H1, I1, hb, e1⟩ => ?_))
  subst hb
  refine wpAny_pure ?_
  cases b with
  | true => exact (h2 rfl).run pins s1 σ H1 Q I1 ⟨st.same e1, fun H' e => k H' (e1.trans e)⟩
  | false =>
    have skip : ∀ (l : List Expr) (s : Shared), Inv X pins σ H1 s → wpAny (model X.prog X.w) X.A (forIn l false fun c r => if r = true then do let ok ← isTrue c X.env (eval c X.env); pure (ForInStep.yield ok) else pure (ForInStep.yield r)) (TP X pins σ Q) X.xe s := by
      intro l
      induction l with
      | nil => intro s I; exact wpAny_pure ⟨H1, I, k H1 e1⟩
      | cons c l ih =>
        intro s I
        rw [List.forIn_cons]
        simp only [Bool.false_eq_true, if_false]
        exact wpAny_bind (wpAny_pure (ih s I))
    exact skip _ s1 I1⟩
end
end DL

set_option Elab.async false
set_option linter.all false
set_option maxRecDepth 100000
set_option maxHeartbeats 4000000
namespace DL
open PySem PySem.Spec PyProof.Rows L2 TL
section
variable {X : Cx} {B : Gd} {ρ : List (Option D)} {O : Om} {d : D} {C f : Addr} {ds ds' : List D} {k : Nat} {a b : Expr} {pos : Pos}
theorem ev_globI {x : Str} {n : Int} (hg : Gl X x) (hm : ∃ tk, X.mg x = some (.int n tk)) (hd : (x == ("__debug__" : Str)) = false := by decide) : EV X B ρ O (.Name x pos) (.int n) := by
  obtain ⟨_, hm⟩ := hm
  exact ev_glob (v := .int n) hg hm ⟨_, rfl⟩ (fun _ => .int _) hd
theorem et_lstT {α : Type} {E : α → D} {xs : List α} {e : Expr} (h : EV X B ρ O e d) (w : Vw (B.L ++ O) d (xs.map E)) (he : ∀ whole, isTrue e X.env whole = (do let v ← whole; standAt e.pos; holding [v] (truthy v)) := by intro _; rfl) : ET X B ρ O e (!xs.isEmpty) :=
  et_conv (et_lst h w he) (by rw [List.isEmpty_map])
end
end DL

set_option Elab.async false
set_option linter.all false
set_option maxRecDepth 100000
set_option maxHeartbeats 4000000
namespace DL
open PySem PySem.Spec PyProof.Rows L2
section
variable {X : Cx} {B : Gd} {A : AE} {ρ ρ' : List (Option D)} {O O' : Om} {rest ss : List Stmt} {o c e : Expr} {x : Str} {pos pos' pos2 : Pos}
end
section
variable {K : PySem.W.Frag} {B : Gd} {O : Om} {α : Type} {E : α → D} {f : α → NestedKey} [DecidableEq α]
theorem rd_inKE {x : α} {xs : List α} {inst : Decidable (x ∈ xs)} (hk : KeyOk E f) : RD K B O (rInK K false) (E x) (dK f xs) (.bl (@decide (x ∈ xs) inst)) := by
  have e : inst = List.instDecidableMemOfLawfulBEq x xs := Subsingleton.elim _ _
  rw [e]; exact rd_inKD hk
end
end DL

set_option Elab.async false
set_option linter.all false
set_option maxRecDepth 100000
set_option maxHeartbeats 4000000
namespace DL
open PySem PySem.Spec PyProof.Rows L2
section
variable {X : Cx} {B : Gd} {ρ ρ' : List (Option D)} {O O' : Om} {a b c e o : Expr} {es : List Expr} {d : D} {ds : List D} {pos pos' p : Pos} {rest : List Stmt} {x : Str} {k : Nat} {α β : Type} {A : α → AE}
def Cmp.bndO {β α : Type} (v : Option β) (m0 : Unit → Cmp α) (m1 : β → Cmp α) : Cmp α := match v with
  | none => m0 ()
  | some x => m1 x
end
instance {S L R : Type} [Inhabited S] : Inhabited (Ctl S L R) := ⟨.nx default⟩
section
variable {Q : α → Prop}
end
end DL

set_option Elab.async false
set_option linter.all false
set_option maxRecDepth 100000
set_option maxHeartbeats 4000000
namespace DL
open PySem PySem.Spec PyProof.Rows L2
structure NoD (K : PySem.W.Frag) : Prop where
  no : PySem.W.nsIn K cStatics "sys.int_max_str_digits" = some none
theorem NoD.heap {X : Cx} {pins : List (Addr × Obj)} {σ : L2.St} {H : Hp} {s : Shared} (d : NoD X.K) (I : Inv X pins σ H s) : s.heap.NoDigits :=
  let ⟨mc, hns, _⟩ := I.nolimit; ⟨mc, hns, PySem.W.ns_none_of I.kIn hns d.no⟩
section
open PySem.Builtin PySem.Builtin.Str PySem.Builtin.Int
variable {prog : Program} {w : World} {A : Around} {E : Value → Shared → Prop} {s : Shared} {a : Int} {t : Tok}
end
section
variable {X : Cx} {B : Gd} {ρ : List (Option D)} {O : Om} {e sp : Expr} {es : List Expr} {d : D} {pos p : Pos} {x y z : Str}
end
section
open PySem.W
end
end DL

set_option Elab.async false
set_option linter.all false
set_option maxRecDepth 100000
set_option maxHeartbeats 4000000
namespace DL
open PySem PySem.Spec PyProof.Rows L2
section
variable {P : Program} {w : World} {K : PySem.W.Frag} {mg : Str → Option Value} {base : Heap}
end
section
variable {X : Cx} {B : Gd} {ρ : List (Option D)} {O : Om} {d : D} {C C0 f : Addr} {ds fs : List D} {k : Nat} {n x : Str} {e : Expr} {es : List Expr} {ns : List Str} {pos p : Pos}
end
section
variable {X : Cx} {B : Gd} {ρ : List (Option D)} {O : Om} {rest : List Stmt}
end
end DL

set_option Elab.async false
set_option linter.all false
set_option maxRecDepth 100000
set_option maxHeartbeats 4000000
namespace DL
open PySem PySem.Spec PyProof.Rows L2
end DL
namespace DL
open PySem PySem.Spec PyProof.Rows L2 PySem.W PySem.Calls
end DL

set_option Elab.async false
set_option linter.all false
set_option maxRecDepth 100000
set_option maxHeartbeats 4000000
namespace DL
open PySem PySem.Spec PyProof.Rows L2
section
variable {X : Cx} {B : Gd} {ρ ρ' : List (Option D)} {O O' O1 : Om} {a b c e o e1 e2 : Expr} {es : List Expr} {d d1 d2 d3 : D} {ds : List D} {pos pos' p apos : Pos} {st : Stmt} {ss rest : List Stmt} {x : Str}
variable {α β : Type} {E : β → D} {A : α → AE}
end
end DL

set_option Elab.async false
set_option linter.all false
set_option maxRecDepth 100000
set_option maxHeartbeats 4000000
namespace L2
open PySem PySem.Spec PyProof.Rows StX
end L2
namespace DL
open PySem PySem.Spec PyProof.Rows L2
theorem Fok.mono {P : Program} {w : World} {K : PySem.W.Frag} {mg : Str → Option Value} {base : Heap} {CX : CXT} {j k : Nat} {f : Addr} {sp : Sp} (F : Fok P w K mg base CX j f sp) (h : j ≤ k) : Fok P w K mg base CX k f sp := by
  obtain ⟨fd, ps, G, b⟩ := F.ex
  exact ⟨⟨fd, ps, G.mono h, b⟩, F.kp⟩
section
variable {X : Cx} {B : Gd} {ρ ρ' : List (Option D)} {O O' O1 : Om} {a b c e o e1 e2 : Expr} {es : List Expr} {d d1 d2 d3 : D} {ds : List D} {pos pos' p apos spos : Pos} {st h₀ : Stmt} {ss rest body : List Stmt} {x : Str} {k : Nat} {C : Addr} {b1 : Bool}
variable {α β : Type} {E : β → D} {A : α → AE}
end
end DL

set_option Elab.async false
set_option linter.all false
set_option maxRecDepth 100000
set_option maxHeartbeats 4000000
namespace L2
open PySem PySem.Spec PyProof.Rows
end L2
namespace DL
open PySem PySem.Spec PyProof.Rows L2
section
variable {X : Cx} {B : Gd} {ρ ρ' : List (Option D)} {O O' O1 O1' R O'' : Om} {a b c e o e1 e2 : Expr} {es : List Expr} {d d0 d1 d2 d3 : D} {ds : List D} {pos pos' p apos spos : Pos} {st h₀ : Stmt} {ss rest body s1 s2 : List Stmt} {x : Str} {k : Nat} {C : Addr} {b1 b2 : Bool}
end
end DL

set_option Elab.async false
set_option linter.all false
set_option maxRecDepth 100000
set_option maxHeartbeats 4000000
namespace L2
open PySem PySem.Spec PyProof.Rows
end L2
namespace DL
open PySem PySem.Spec PyProof.Rows L2
theorem Put.split {p : Addr} {m m' : M} : ∀ {O O' : Om}, Put O p m m' O' → ∃ R, O.Perm ([(p, m)] ++ R) ∧ ([(p, m')] ++ R).Perm O'
  | _, _, .head (O := O) => ⟨O, .refl _, .refl _⟩
  | _, _, .tail (q := q) h => by
    obtain ⟨R, h1, h2⟩ := h.split
    exact ⟨q :: R, (h1.cons q).trans (.swap _ _ _), (List.Perm.swap _ _ _).trans (h2.cons q)⟩
section
variable {X : Cx} {B : Gd} {ρ ρ' : List (Option D)} {O O' O1 O1' R O'' : Om} {a b c e o e1 e2 : Expr} {es : List Expr} {d d0 d1 d2 d3 : D} {ds : List D} {pos pos' p apos spos : Pos} {st0 h₀ : Stmt} {ss rest body s1 s2 : List Stmt} {x : Str} {k : Nat} {C : Addr} {b1 b2 : Bool}
variable {α β γ S : Type} {E : β → D} {A : α → AE} {st : S → Om}
structure KwInit (P : Program) (w : World) (K : PySem.W.Frag) (mg : Str → Option Value) (base : Heap) (k : Nat) (f : Addr) (n : Nat) (ks : List Str) (sp : Sp) : Prop where
  ex : ∃ fd ps, FnOk P w K mg base CX0 k f fd ps sp ∧ KBn K fd ps (n + 1) ks (fun a b => a ++ b) (fun a b => a ++ b)
end
end DL

set_option Elab.async false
set_option linter.all false
set_option maxRecDepth 100000
set_option maxHeartbeats 4000000
namespace L2
open PySem PySem.Spec PyProof.Rows ItX
open Sem (wp)
section
variable {X : Cx} {C f p : Addr} {fl : Str} {k n : Nat} {pins : List (Addr × Obj)} {σ : L2.St} {H : Hp} {s : Shared}
end
end L2
namespace PySem
open PySem.Spec PyProof.Rows
end PySem

set_option Elab.async false
set_option linter.all false
set_option maxRecDepth 100000
set_option maxHeartbeats 4000000
namespace L2
open PySem PySem.Spec PyProof.Rows ItX
section
variable {X : Cx} {C f p : Addr} {fl : Str} {k n : Nat} {pins : List (Addr × Obj)} {σ : L2.St} {H : Hp} {s : Shared} {e e2 tg : Expr} {te : TE} {ta : TA}
end
end L2
namespace DL
open PySem PySem.Spec PyProof.Rows L2
section
variable {X : Cx} {B : Gd} {ρ : List (Option D)} {O : Om} {a b c e o : Expr} {es : List Expr} {d d1 d2 d3 : D} {ds : List D} {pos pos' p apos : Pos} {C f : Addr} {k : Nat} {ns : List Str} {fl : Str} {fs : List D} {i : Nat}
end
end DL
namespace DL
open PySem PySem.Spec PyProof.Rows L2 ItX
section
variable {P : Program} {w : World} {K : PySem.W.Frag} {mg : Str → Option Value} {base : Heap} {k : Nat}
end
end DL

set_option Elab.async false
set_option linter.all false
set_option maxRecDepth 100000
set_option maxHeartbeats 4000000
namespace DL
open PySem PySem.Spec PyProof.Rows L2
section
variable {P : Program} {w : World} {K : PySem.W.Frag} {mg : Str → Option Value} {base : Heap}
end
section
variable {X : Cx} {B : Gd} {ρ : List (Option D)} {O : Om} {a b c e o : Expr} {es : List Expr} {d d1 d2 d3 : D} {ds fs : List D} {pos pos' p apos : Pos} {C f : Addr} {k n : Nat} {x kw : Str}
end
end DL

set_option Elab.async false
set_option linter.all false
set_option maxRecDepth 100000
set_option maxHeartbeats 4000000
namespace DL
open PySem PySem.Spec PyProof.Rows L2
section
variable {K : PySem.W.Frag} {H H' : Hp}
end
def M.isIns : M → Bool
  | .ins _ _ _ => true
  | _ => false
abbrev noIns (O : Om) : Om := O.filter fun p => !p.2.isIns
theorem noIns_sub {O : Om} : ∀ q ∈ noIns O, q ∈ O := fun q h => (List.mem_filter.mp h).1
inductive BoL (O : Om) : List D → List D → Prop
  | nil : BoL O [] []
  | cons {d : D} {ds ds' : List D} : BoL O ds ds' → BoL O (d :: ds) (d :: ds')
  | bor {q C : Addr} {ns : List Str} {fs : List D} {ds ds' : List D} : (q, M.ins C ns fs) ∈ O → BoL O ds ds' → BoL O (.rf q :: ds) (.obj C ns fs :: ds')
section
variable {X : Cx} {B : Gd} {ρ ρ' : List (Option D)} {O O' O1 O1' R O'' : Om} {a b c e o : Expr} {es : List Expr} {d d1 d2 d3 d' : D} {ds ds' fs : List D} {pos pos' p apos : Pos} {C f : Addr} {k n : Nat} {x kw : Str} {ns : List Str}
theorem noIns_has (nd : (O.map (·.1)).Nodup) {q C : Addr} {fs : List D} (h : (q, M.ins C ns fs) ∈ O) : has (noIns O) q = false := by
  cases e : has (noIns O) q with
  | false => rfl
  | true =>
    obtain ⟨m, hm⟩ := has_mem.mp e
    obtain ⟨h1, h2⟩ := List.mem_filter.mp hm
    have : m = .ins C ns fs := by
      have key : ∀ (L : Om), (L.map (·.1)).Nodup → (q, m) ∈ L → (q, M.ins C ns fs) ∈ L → m = .ins C ns fs := by
        intro L
        induction L with
        | nil => intro _ z; cases z
        | cons u L ih =>
          intro nd a1 a2
          rw [List.map_cons, List.nodup_cons] at nd
          rcases List.mem_cons.mp a1 with a1 | a1
          · rcases List.mem_cons.mp a2 with a2 | a2
            · rw [← a1] at a2; exact (Prod.mk.inj a2).2.symm
            · exact absurd (List.mem_map_of_mem (f := (·.1)) a2) (by rw [← a1] at nd; exact nd.1)
          · rcases List.mem_cons.mp a2 with a2 | a2
            · exact absurd (List.mem_map_of_mem (f := (·.1)) a1) (by rw [← a2] at nd; exact nd.1)
            · exact ih nd.2 a1 a2
      exact key O nd h1 h
    rw [this] at h2
    cases h2
theorem BoL.rp {K : PySem.W.Frag} {H : Hp} (m : MOk K B O H) : ∀ {vs : List V} {ds ds' : List D}, BoL O ds ds' → RpL K (vis B.F O H) vs ds → RpL K (vis B.F (noIns O) H) vs ds'
  | _, _, _, .nil, .nil => .nil
  | _, _, _, .cons h, .cons r1 r => .cons (r1.mono (vis_sub noIns_sub)) (h.rp m r)
  | _, _, _, .bor (q := q) hq h, .cons r1 r => by
    cases r1
    obtain ⟨dx, fv, g1, g2, g3⟩ := m.mem _ _ hq
    obtain ⟨fq, _, _⟩ := vis_some.mp (m.visM (has_mem.mpr ⟨_, hq⟩) g1)
    exact .cons (.obj (vis_some.mpr ⟨fq, noIns_has m.nd hq, g1⟩) g2 (g3.mono (vis_sub noIns_sub))) (h.rp m r)
theorem MOk.noIns {K : PySem.W.Frag} {H : Hp} (m : MOk K B O H) : MOk K B (noIns O) H :=
  ⟨fun a o q => ⟨(m.base a o q).1, has_sub noIns_sub (m.base a o q).2⟩, fun a mm q => (m.mem a mm (noIns_sub _ q)).mono (vis_sub noIns_sub) (fun _ q => q), m.nd.sublist ((List.filter_sublist).map _), fun a mm q => (m.lent a mm q).mono (vis_sub noIns_sub) (fun _ q => q)⟩
end
end DL

set_option Elab.async false
set_option linter.all false
set_option maxRecDepth 100000
set_option maxHeartbeats 4000000
namespace DL
open PySem PySem.Spec PyProof.Rows L2
section
variable {P : Program} {w : World} {K : PySem.W.Frag} {mg : Str → Option Value} {base : Heap}
end
section
variable {X : Cx} {B : Gd} {ρ ρ' : List (Option D)} {O O' O1 O1' R O'' : Om} {a b c e o : Expr} {es : List Expr} {d d0 d1 d2 d3 d' : D} {ds ds' fs : List D} {pos pos' p apos spos : Pos} {C f : Addr} {k n : Nat} {x kw : Str} {ns : List Str} {st0 h₀ : Stmt} {ss rest body s1 s2 : List Stmt}
variable {α β γ S : Type} {E : β → D} {A : α → AE}
end
end DL

set_option Elab.async false
set_option linter.all false
set_option maxRecDepth 100000
set_option maxHeartbeats 4000000
namespace DL
open PySem PySem.Spec PyProof.Rows L2 TL
section
variable {X : Cx} {B : Gd} {ρ ρ' : List (Option D)} {O O' : Om} {a b c e o : Expr} {pos : Pos} {rest s1 s2 : List Stmt} {α : Type} {A : α → AE}
end
end DL

set_option Elab.async false
set_option linter.all false
set_option maxRecDepth 100000
set_option maxHeartbeats 4000000
namespace DL
open PySem PySem.Spec PyProof.Rows L2
section
variable {P : Program} {w : World} {K : PySem.W.Frag} {mg : Str → Option Value} {base : Heap}
end
end DL

set_option Elab.async false
set_option linter.all false
set_option maxRecDepth 100000
set_option maxHeartbeats 4000000
namespace DL
open PySem PySem.Spec PyProof.Rows L2 GenW
abbrev TF := (L2.St → Hp → Prop) → (V → Hp → Prop) → L2.St → Hp → Prop
structure FCtx (X : Cx) (A : Around) (c : Code) (fs : List Frame) (gd : Bool → Bool) : Prop where
  over : A.over c fs = X.A
  split : splitAtGen fs = none
  guard : fs.any Frame.guarded = false
  gd : gd false = false
  xe : ∀ e s, ¬ X.xe e s
structure FK (X : Cx) (A : Around) (R : GenEnd) (Y : Protocol) (s₀ : Shared) (c : Code) (fs : List Frame) (K : Flow → Sem PySem.Fin) (pins : List (Addr × Obj)) (nx : L2.St → Hp → Prop) (yl : V → Hp → Prop) : Prop where
  ok : ∀ σ H s, Inv X pins σ H s → nx σ H → Seg (model X.prog X.w) A R Y 1 s₀ c (K .next) fs s
  yl : ∀ σ H s x v, Inv X pins σ H s → RelV x v → yl x H → ∀ kap, Y 0 s₀ v s kap
structure FSs (X : Cx) (st : List Stmt) (t : TF) : Prop where
  run : ∀ (A : Around) (R : GenEnd) (Y : Protocol) (s₀ : Shared) (c : Code) (fs : List Frame) (K : Flow → Sem PySem.Fin) (J : Value → Sem PySem.Fin) (gd : Bool → Bool) (lv : List Value → List Value) (pins : List (Addr × Obj)) (s : Shared) (σ : L2.St) (H : Hp) (nx : L2.St → Hp → Prop) (yl : V → Hp → Prop),
    FCtx X A c fs gd → FK X A R Y s₀ c fs K pins nx yl → Inv X pins σ H s → t nx yl σ H → Seg (model X.prog X.w) A R Y 1 s₀ c ((execs st X.env).wrap K J gd lv) fs s
structure FS1 (X : Cx) (st : Stmt) (t : TF) : Prop where
  run : ∀ (A : Around) (R : GenEnd) (Y : Protocol) (s₀ : Shared) (c : Code) (fs : List Frame) (K : Flow → Sem PySem.Fin) (J : Value → Sem PySem.Fin) (gd : Bool → Bool) (lv : List Value → List Value) (pins : List (Addr × Obj)) (s : Shared) (σ : L2.St) (H : Hp) (nx : L2.St → Hp → Prop) (yl : V → Hp → Prop),
    FCtx X A c fs gd → FK X A R Y s₀ c fs K pins nx yl → Inv X pins σ H s → t nx yl σ H → Seg (model X.prog X.w) A R Y 1 s₀ c ((exec st X.env).wrap K J gd lv) fs s
section
variable {X : Cx} {st : Stmt} {rest : List Stmt}
theorem fss_imp {t u : TF} (h : FSs X rest t) (k : ∀ nx yl σ H, u nx yl σ H → t nx yl σ H) : FSs X rest u := ⟨fun A R Y s₀ c fs K J gd lv pins s σ H nx yl g kk I q => h.run A R Y s₀ c fs K J gd lv pins s σ H nx yl g kk I (k _ _ _ _ q)⟩
theorem fs1_imp {t u : TF} (h : FS1 X st t) (k : ∀ nx yl σ H, u nx yl σ H → t nx yl σ H) : FS1 X st u := ⟨fun A R Y s₀ c fs K J gd lv pins s σ H nx yl g kk I q => h.run A R Y s₀ c fs K J gd lv pins s σ H nx yl g kk I (k _ _ _ _ q)⟩
theorem fss_nil : FSs X [] (fun nx _ σ H => nx σ H) := ⟨fun A R Y s₀ c fs K J gd lv pins s σ H nx yl g k I q => seg_execs_nil (k.ok σ H s I q)⟩
theorem fss_cons {t u : TF} (h : FS1 X st t) (r : FSs X rest u) : FSs X (st :: rest) (fun nx yl σ H => t (fun σ H => u nx yl σ H) yl σ H) := by
  refine ⟨fun A R Y s₀ c fs K J gd lv pins s σ H nx yl g k I q => seg_execs_cons ?_⟩
  exact h.run A R Y s₀ c fs _ J gd lv pins s σ H _ yl g ⟨fun σ' H' s' I' q' => r.run A R Y s₀ c fs K J gd lv pins s' σ' H' nx yl g k I' q', k.yl⟩ I q
theorem fs1_yield {e : Expr} {yp pos : Pos} {te : TE} (he : PE X e te) (hco : X.env.scope.isCoroutine = false := by rfl) (hi : interactive X.env = false := by rfl) : FS1 X (.Expr (.Yield (some e) yp) pos) (fun _ yl σ H => te σ H fun x H1 => yl x H1) := by
  refine ⟨fun A R Y s₀ c fs K J gd lv pins s σ H nx yl g k I q => ?_⟩
  refine seg_Expr_Yield (n := 0) g.split g.gd g.guard ?_ hco hi
  rw [g.over]
  refine wpAny_mono (he.run pins s σ H _ I q) (fun v s' hs => ?_) fun e s' z => (g.xe e s' z).elim
  obtain ⟨x, H1, I1, rv, q1⟩ := hs
  exact fun kap _ => k.yl σ H1 s' x v I1 rv q1 kap
theorem seg_For {M : Model} {A : Around} {R : GenEnd} {Y : Protocol} {n : Nat} {s₀ : Shared} {c : Code} {fs : List Frame} {s : Shared} {env : Env} {K : Flow → Sem PySem.Fin} {J : Value → Sem PySem.Fin} {gd : Bool → Bool} {lv : List Value → List Value} {tg iter : Expr} {body orelse : List Stmt} {pos : Pos}
    (h : wpAny M (A.over c fs) (eval iter env) (fun x s1 => wpAny M (A.over c fs) (pyIter x) (fun it s2 => ∀ p, Seg M A R Y n s₀ (.forLoop tg it body orelse env) (M.den (.forLoop tg it body orelse env))
      (.ret (fun r => ((match r with | .ok f => (.pure f : Sem Flow) | .error e => .raise e).onRaise (cameBack env)).wrap K J gd lv) none (gd false) (lv []) c p [] :: fs) s2) (fun x s' => Seg M A R Y n s₀ c (J x) fs s') s1) (fun x s' => Seg M A R Y n s₀ c (J x) fs s') s)
    (hs : ∀ x, foldedSetIterable iter env x = pure x := by intro _; rfl) : Seg M A R Y n s₀ c ((exec (.For tg iter body orelse pos) env).wrap K J gd lv) fs s := by
  rw [exec_For]
  refine seg_at ?_
  show Seg _ _ _ _ _ _ _ ((eval iter env >>= fun y => foldedSetIterable iter env y >>= fun x => standAt iter.pos >>= fun _ => holding [x] (pyIter x) >>= fun it => runOwn (.forLoop tg it body orelse env) env).wrap K J gd lv) fs s
  refine seg_bind_wrap ?_
  refine wpAny_mono h (fun x s1 h1 => ?_) fun _ _ z => z
  rw [hs x]
  show Seg _ _ _ _ _ _ _ ((standAt iter.pos >>= fun _ => holding [x] (pyIter x) >>= fun it => runOwn (.forLoop tg it body orelse env) env).wrap K J gd lv) fs s1
  refine seg_at ?_
  show Seg _ _ _ _ _ _ _ ((holding [x] (pyIter x) >>= fun it => runOwn (.forLoop tg it body orelse env) env).wrap K J gd lv) fs s1
  refine seg_bind_wrap (wpAny_holding ?_)
  refine wpAny_mono h1 (fun it s2 h2 => ?_) fun _ _ z => z
  exact seg_call h2
abbrev noteS (env : Env) (e : Value) : Sem PySem.Fin := (do noteFrame e env; theTreesLotGoes e : Sem Unit).wrap (fun _ => .raise e) .raise id id
theorem seg_forLoop {prog : Program} {w : World} {A : Around} {R : GenEnd} {Y : Protocol} {n : Nat} {s₀ : Shared} {fs : List Frame} {s : Shared} {env : Env} {tg : Expr} {it : Value} {body orelse : List Stmt}
    (h : wpAny (model prog w) (A.over (.forLoop tg it body orelse env) fs) (pyNext it) (fun r s1 => match r with
      | none => Seg (model prog w) A R Y n s₀ (.forLoop tg it body orelse env) (.pure (.again (.block orelse env))) fs s1
      | some v => wpAny (model prog w) (A.over (.forLoop tg it body orelse env) fs) (letOwnedTupleGo tg it v) (fun _ s2 => wpAny (model prog w) (A.over (.forLoop tg it body orelse env) fs) (assign tg env v) (fun _ s3 =>
          Seg (model prog w) A R Y n s₀ (.forLoop tg it body orelse env) ((execs body env).wrap (fun f => match f with
            | .next | .cont => .pure (.again (.forLoop tg it body orelse env))
            | .brk => .pure (.done .next)
            | .ret v => .pure (.done (.ret v))) (noteS env) id id) fs s3) (fun _ _ => False) s2) (fun _ _ => False) s1) (fun _ _ => False) s) :
    Seg (model prog w) A R Y n s₀ (.forLoop tg it body orelse env) ((model prog w).den (.forLoop tg it body orelse env)) fs s := by
  show Seg _ A R Y n s₀ _ ((forTurn tg it body orelse env).onRaise (fun x => do noteFrame x env; theTreesLotGoes x)) fs s
  have hB : ∀ e, (do noteFrame e env; theTreesLotGoes e : Sem Unit).bind (fun _ => .raise e) = noteS env e := fun e => Sem.bind_eq_wrap _ _
  rw [Sem.onRaise_eq_wrap]
  unfold forTurn
  refine seg_at ?_
  show Seg _ _ _ _ _ _ _ ((((pyNext it).onRaise (fun _ => standAt { tg.pos with line := 0 })) >>= _).wrap _ _ _ _) fs s
  refine seg_bind_wrap (wpAny_onRaise (wpAny_mono h (fun r s1 h1 => ?_) fun _ _ z => z.elim))
  cases r with
  | none => exact h1
  | some v =>
    show Seg _ _ _ _ _ _ _ ((letOwnedTupleGo tg it v >>= _).wrap _ _ _ _) fs s1
    refine seg_bind_wrap (wpAny_mono h1 (fun _ s2 h2 => ?_) fun _ _ z => z.elim)
    show Seg _ _ _ _ _ _ _ ((assign tg env v >>= _).wrap _ _ _ _) fs s2
    refine seg_bind_wrap (wpAny_mono h2 (fun _ s3 h3 => ?_) fun _ _ z => z.elim)
    show Seg _ _ _ _ _ _ _ ((execs body env >>= _).wrap _ _ _ _) fs s3
    rw [Sem.bind_eq_wrap', Sem.wrap_wrap]
    rw [Sem.wrap_congr (execs body env) _ _ (K' := fun f => match f with
            | .next | .cont => .pure (.again (.forLoop tg it body orelse env))
            | .brk => .pure (.done .next)
            | .ret v => .pure (.done (.ret v))) (H' := noteS env)
        (fun f => by cases f <;> rfl) (fun e => by exact hB e)]
    exact h3
theorem fctx_loop {A : Around} {c c' : Code} {fs : List Frame} {gd : Bool → Bool} {k : Result → Sem PySem.Fin} {l kp : List Value} {p : Pos} (g : FCtx X A c fs gd) (hw : c'.weight = 0) (hu : c'.cUnits = 0) : FCtx X A c' (.ret k none (gd false) l c p kp :: fs) id where
  over := (over_loop hw hu).trans g.over
  split := by
    show (splitAtGen fs).map _ = none
    rw [g.split]; rfl
  guard := by
    show (gd false || fs.any Frame.guarded) = false
    rw [g.gd, g.guard]; rfl
  gd := rfl
  xe := g.xe
def tForF (wi : TI) (g : TG) (tb : TF) : TF := fun nx yl σ H => wi σ H fun J H1 => ∃ W : Nat → Nat → L2.St → Hp → Prop, (∃ m, W 0 m σ H1) ∧ ∀ i m σ H, W i m σ H →
  (J.stop i H ∧ nx σ H) ∨ (J.go i H ∧ ∃ N : L2.St → Hp → Prop, (∀ σ' H', N σ' H' → ∃ m', m' < m ∧ W (i + 1) m' σ' H') ∧ ∀ x H', J.yld i H x H' → g x σ H' fun σ2 H2 => tb N yl σ2 H2)
theorem fs1_for {iter tg : Expr} {body : List Stmt} {wi : TI} {g : TG} {tb : TF} {pos : Pos} (hc : X.calm = true) (hi : PI X tg iter wi) (hg : PG X tg g) (hb : FSs X body tb)
    (hs : ∀ x, foldedSetIterable iter X.env x = pure x := by intro _; rfl) : FS1 X (.For tg iter body [] pos) (tForF wi g tb) := by
  refine ⟨fun A R Y s₀ c fs K J gd lv pins s σ H nx yl cx k I h => seg_For ?_ hs⟩
  rw [cx.over]
  have no : ∀ {α : Type} {t : Sem α} {Q : α → Shared → Prop} {E : Value → Shared → Prop} {s : Shared}, wpAny (model X.prog X.w) X.A t Q X.xe s → wpAny (model X.prog X.w) X.A t Q E s := fun h => wpAny_mono h (fun _ _ z => z) fun e s z => (cx.xe e s z).elim
  refine no (thn (hi.run pins s σ H _ I h) fun v s1 h1 => no (thn h1 fun itv s2 h2 => ?_))
  obtain ⟨it, fp, tn, Jt, H2, e, I2, T, st2, f2, W, ⟨m0, w0⟩, turn⟩ := h2
  subst e
  intro p
  have gl := fctx_loop (k := (fun r => ((match r with | .ok f => (.pure f : Sem Flow) | .error e => .raise e).onRaise (cameBack X.env)).wrap K J gd lv)) (c' := .forLoop tg (.ref it) body [] X.env) (l := lv []) (kp := []) (p := p) cx rfl rfl
  have stat : ∀ {H' : Hp}, (∀ b ∈ fp, H' b = none) → ∀ b ∈ fp, FpOk X pins H' b := fun hn b hb => ⟨hn b hb, (f2 b hb).2⟩
  have loop : ∀ (m i : Nat) (s3 : Shared) (σ3 : L2.St) (H3 : Hp), Inv X pins σ3 H3 s3 → tn i s3.heap → (∀ b ∈ fp, H3 b = none) → W i m σ3 H3 →
      Seg (model X.prog X.w) A R Y 1 s₀ (.forLoop tg (.ref it) body [] X.env) ((model X.prog X.w).den (.forLoop tg (.ref it) body [] X.env))
        (.ret (fun r => ((match r with | .ok f => (.pure f : Sem Flow) | .error e => .raise e).onRaise (cameBack X.env)).wrap K J gd lv) none (gd false) (lv []) c p [] :: fs) s3 := by
    intro m
    induction m using Nat.strongRecOn with
    | ind m ih =>
      intro i s3 σ3 H3 I3 st3 fr3 w3
      refine seg_forLoop ?_
      rw [gl.over]
      rcases turn i m σ3 H3 w3 with ⟨stop, qn⟩ | ⟨go, N, hN, step⟩
      · refine no (thn (T.done X rfl rfl rfl hc i pins s3 σ3 H3 X.xe I3 (stat fr3) st3 stop) fun r s4 ⟨hr, I4⟩ => ?_)
        subst hr
        refine seg_again rfl ?_
        show Seg _ _ _ _ _ _ _ ((execs [] X.env).onRaise _ >>= _) _ s4
        exact seg_leaf (.ok .next) (k.ok σ3 H3 s4 I4 qn)
      · refine no (thn (T.item X rfl rfl rfl hc i pins s3 σ3 H3 X.xe I3 (stat fr3) st3 go) fun r s4 ⟨u, hr, h4⟩ => ?_)
        subst hr
        refine no (thn h4 fun _ s5 ⟨x, H5, I5, r5, y5, st5, fr5⟩ => ?_)
        have I5' := I5.pinned (stat fr5) (T.obj _ _ st5)
        refine no (thn (hg.run _ s5 σ3 H5 x u _ I5' r5 (step x H5 y5)) fun _ s6 ⟨σ6, H6, I6, q6⟩ => ?_)
        refine hb.run A R Y s₀ _ _ _ _ id id _ s6 σ6 H6 N yl gl ⟨fun σ7 H7 s7 I7 n7 => ?_, fun σ7 H7 s7 x v I7 rv q7 kap => k.yl σ7 H7 s7 x v I7.unpinned rv q7 kap⟩ I6 q6
        obtain ⟨m', hm, w7⟩ := hN σ7 H7 n7
        exact seg_again rfl (ih m' hm (i + 1) s7 σ7 H7 I7.unpinned (T.keep _ _ _ st5 fun b hb o e => (I7.pin (b, o) (List.mem_append_right _ (List.mem_append_right _ (mem_pinsAt hb e)))).1) (fun b hb => by
          obtain ⟨o, e, d⟩ := T.obj _ _ st5 b hb
          exact (I7.pin (b, o) (List.mem_append_right _ (List.mem_append_right _ (mem_pinsAt hb e)))).2.1) w7)
  exact loop m0 0 s2 σ H2 I2 st2 (fun b hb => (f2 b hb).1) w0
end
end DL

set_option Elab.async false
set_option linter.all false
set_option maxRecDepth 100000
set_option maxHeartbeats 4000000
namespace DL
open PySem PySem.Spec PyProof.Rows L2 GenW
abbrev SpF := List V → Hp → (Option V → Hp → Prop) → Prop
structure LeftY (P : Program) (w : World) (outer : List Env) (H H' : Hp) (s s' : Shared) : Prop where
  os : s'.os = s.os
  bare : AllBare s'.gens
  un : Un (frs outer) [] H H' s.heap s'.heap
  hok : HOk P w H' s'.heap
def FItem (P : Program) (w : World) (outer : List Env) (H : Hp) (s : Shared) (Q : Option V → Hp → Prop) : Protocol := fun _ _ v s1 _ => ∃ H' x, LeftY P w outer H H' s s1 ∧ RelV x v ∧ Q (some x) H'
section
variable {X : Cx} {k : Nat} {f : Addr} {fd : FuncData} {ps : List Str} {sp : SpF} {dvs : List V} {ds : List Value} {x : Str} {p pos pos' : Pos} {e : Expr} {es : List Expr}
end
end DL

set_option Elab.async false
set_option linter.all false
set_option maxRecDepth 100000
set_option maxHeartbeats 4000000
namespace DL
open PySem PySem.Spec PyProof.Rows L2 GenW
abbrev PNx := List (Option D) → Om → Prop
abbrev PYl := D → Om → Prop
def tWF (K : PySem.W.Frag) (B : Gd) (ρ : List (Option D)) (O : Om) (nxp : PNx) (ylp : PYl) : TF := fun nx yl σ H => StOk K B ρ O σ H ∧ (∀ ρ' O' σ' H', nxp ρ' O' → StOk K B ρ' O' σ' H' → Same (vis B.F O H) (vis B.F O' H') → nx σ' H') ∧ ∀ d O' v H', ylp d O' → MOk K B O' H' → Rp K (vis B.F O' H') v d → yl v H'
abbrev FJ (X : Cx) (B : Gd) (ss : List Stmt) (ρ : List (Option D)) (O : Om) (nxp : PNx) (ylp : PYl) : Prop := FSs X ss (tWF X.K B ρ O nxp ylp)
abbrev FJ1 (X : Cx) (B : Gd) (st : Stmt) (ρ : List (Option D)) (O : Om) (nxp : PNx) (ylp : PYl) : Prop := FS1 X st (tWF X.K B ρ O nxp ylp)
section
variable {X : Cx} {B : Gd} {ρ : List (Option D)} {O : Om} {nxp : PNx} {ylp : PYl} {st : Stmt} {rest s1 s2 : List Stmt} {c e : Expr} {d : D} {b1 : Bool} {pos yp : Pos}
theorem fj_nil (h : nxp ρ O) : FJ X B [] ρ O nxp ylp := fss_imp fss_nil fun nx yl σ H ⟨st, n, y⟩ => n ρ O σ H h st (Same.refl _)
theorem fj_imp {nxp' : PNx} {ylp' : PYl} (h : FJ X B rest ρ O nxp ylp) (hn : ∀ ρ O, nxp ρ O → nxp' ρ O) (hy : ∀ d O, ylp d O → ylp' d O) : FJ X B rest ρ O nxp' ylp' := fss_imp h fun nx yl σ H ⟨st, n, y⟩ => ⟨st, fun ρ' O' σ' H' q => n ρ' O' σ' H' (hn _ _ q), fun d O' v H' q => y d O' v H' (hy _ _ q)⟩
theorem fj_any (B : Gd) (rest : List Stmt) (nxp : PNx) (ylp : PYl) : FSs X rest (fun nx yl σ H => ∃ ρ' O', FJ X B rest ρ' O' nxp ylp ∧ tWF X.K B ρ' O' nxp ylp nx yl σ H) :=
  ⟨fun A R Y s₀ c fs K J gd lv pins s σ H nx yl g k I ⟨ρ', O', q, s'⟩ => q.run A R Y s₀ c fs K J gd lv pins s σ H nx yl g k I s'⟩
theorem fj_cons (h : FJ1 X B st ρ O (fun ρ' O' => FJ X B rest ρ' O' nxp ylp) ylp) : FJ X B (st :: rest) ρ O nxp ylp :=
  fss_imp (fss_cons h (fj_any B rest nxp ylp)) fun nx yl σ H ⟨s, n, y⟩ => ⟨s, fun ρ' O' σ' H' q s' e => ⟨ρ', O', q, s', fun ρ2 O2 σ2 H2 a b c => n ρ2 O2 σ2 H2 a b (e.trans c), y⟩, y⟩
theorem fj_yield (he : EV X B ρ O e d) (h : ylp d O) (hco : X.env.scope.isCoroutine = false := by rfl) (hi : interactive X.env = false := by rfl) : FJ1 X B (.Expr (.Yield (some e) yp) pos) ρ O nxp ylp :=
  fs1_imp (fs1_yield he hco hi) fun nx yl σ H ⟨st, n, y⟩ => ⟨st, fun v H1 e1 r1 => y d O v H1 h (st.same e1).m r1⟩
theorem fj_for {ds : List D} {iter tg : Expr} {body : List Stmt} {wi : TI} {sl : List Nat} {f} {g : TG} {G : Om → Prop} (R : Nat → List (Option D) → Om → Prop)
    (hc : X.calm = true) (hi : EI X B ρ O tg iter wi G ds) (hg : EB X tg g sl f) (hv : ∀ i ρ O, R i ρ O → G O) (h0 : ∃ ρ0, Wk ρ0 ρ ∧ R 0 ρ0 O)
    (hs : ∀ i d ρ O, ds[i]? = some d → R i ρ O → ∃ ρ', f d ρ = some ρ' ∧ FJ X B body ρ' O (fun ρ2 O2 => ∃ ρ3, Wk ρ3 ρ2 ∧ R (i + 1) ρ3 O2) ylp)
    (hd : ∀ ρ O, R ds.length ρ O → nxp ρ O)
    (hfs : ∀ x, foldedSetIterable iter X.env x = pure x := by intro _; rfl) : FJ1 X B (.For tg iter body [] pos) ρ O nxp ylp := by
  have any_ : FSs X body (fun nx yl σ H => ∃ ρ' O' np, FJ X B body ρ' O' np ylp ∧ tWF X.K B ρ' O' np ylp nx yl σ H) := ⟨fun A R Y s₀ c fs K J gd lv pins s σ H nx yl g k I ⟨ρ', O', np, q, s'⟩ => q.run A R Y s₀ c fs K J gd lv pins s σ H nx yl g k I s'⟩
  refine fs1_imp (fs1_for hc hi.pi hg.pg any_ hfs) fun nx yl σ H ⟨st, n, y⟩ => hi.is σ H _ st fun J H1 e1 S => ?_
  obtain ⟨ρ0, w0, h0⟩ := h0
  have s1 := (st.same e1).weak w0
  refine ⟨fun i m σ' H' => m = ds.length - i ∧ i ≤ ds.length ∧ ∃ ρ' O', R i ρ' O' ∧ StOk X.K B ρ' O' σ' H' ∧ Same (vis B.F O H1) (vis B.F O' H'), ⟨ds.length, by simp, Nat.zero_le _, ρ0, O, h0, s1, Same.refl _⟩, ?_⟩
  rintro i m σ' H' ⟨rfl, hi', ρ', O', hr, s', e'⟩
  by_cases hlt : i < ds.length
  · refine .inr ⟨S.goes i B O' H' rfl hlt s'.m e' (hv _ _ _ hr), fun σ2 H2 => ∃ ρ2 O2, R (i + 1) ρ2 O2 ∧ StOk X.K B ρ2 O2 σ2 H2 ∧ Same (vis B.F O H1) (vis B.F O2 H2), fun σ2 H2 ⟨ρ2, O2, h2, s2, e2⟩ => ⟨ds.length - (i + 1), by omega, rfl, hlt, ρ2, O2, h2, s2, e2⟩, fun x H2 yy => ?_⟩
    obtain ⟨e2, d, hd', rv⟩ := S.yields i B O' H' x H2 rfl hlt s'.m e' (hv _ _ _ hr) yy
    obtain ⟨ρ1, hf, j⟩ := hs i d ρ' O' hd' hr
    refine hg.is B O' d ρ' ρ1 x σ' H2 _ hf (s'.same e2) rv fun σ2 s2 _ => ⟨ρ1, O', _, j, s2, ?_, y⟩
    have e'' := e'.trans (vis_same (F := B.F) (O := O') e2)
    exact fun ρ3 O3 σ3 H3 ⟨ρ4, w, h4⟩ s3 e3 => ⟨ρ4, O3, h4, s3.weak w, e''.trans e3⟩
  · have e : i = ds.length := by omega
    subst e
    exact .inl ⟨S.stops B O' H' rfl s'.m e' (hv _ _ _ hr), n ρ' O' σ' H' (hd ρ' O' hr) s' ((vis_same e1).trans e')⟩
end
abbrev FJC {α : Type} (X : Cx) (B : Gd) (ss : List Stmt) (ρ : List (Option D)) (O : Om) (nxp : α → PNx) (ylp : α → PYl) (m : Cmp α) : Prop := m.ok → FJ X B ss ρ O (nxp m.val) (ylp m.val)
abbrev FJC1 {α : Type} (X : Cx) (B : Gd) (s : Stmt) (ρ : List (Option D)) (O : Om) (nxp : α → PNx) (ylp : α → PYl) (m : Cmp α) : Prop := m.ok → FJ1 X B s ρ O (nxp m.val) (ylp m.val)
def nxO {α : Type} (v : Option α) : PNx := fun _ _ => v = none
def ylO {α : Type} (E : α → D) (v : Option α) : PYl := fun d O => ∃ y, v = some y ∧ Frz O d (E y)
def nxF {S L R : Type} (st : S → List (Option D) → Om → Prop) : Ctl S L R → PNx
  | .nx s => fun ρ O => ∃ ρ', Wk ρ' ρ ∧ st s ρ' O
  | _ => fun _ _ => False
def ylF {S L α : Type} (E : α → D) : Ctl S L (Option α) → PYl
  | .rt r => ylO E r
  | _ => fun _ _ => False
section
variable {X : Cx} {B : Gd} {ρ : List (Option D)} {O : Om} {st : Stmt} {rest s1 s2 body : List Stmt} {c e : Expr} {d : D} {b1 : Bool} {pos yp : Pos} {α β S L : Type} {nxp : α → PNx} {ylp : α → PYl} {E : α → D}
theorem fjc_nil {v : α} (h : nxp v ρ O) : FJC X B [] ρ O nxp ylp (.ret v) := fun _ => fj_nil h
theorem fjc_yield {v : α} (he : EV X B ρ O e d) (h : ylp v d O) (hco : X.env.scope.isCoroutine = false := by rfl) (hi : interactive X.env = false := by rfl) : FJC X B [.Expr (.Yield (some e) yp) pos] ρ O nxp ylp (.ret v) := fun _ =>
  fj_cons (fs1_imp (fj_yield he h hco hi) fun nx yl σ H ⟨st, n, y⟩ => ⟨st, fun _ _ _ _ (z : False) => z.elim, y⟩)
theorem fjc_for {γ : Type} {xs : List γ} {E' : γ → D} {iter tg : Expr} {wi : TI} {sl : List Nat} {bf} {g : TG} {G : Om → Prop} {f : γ → S → Cmp (Ctl S S (Option α))} {s0 : S} {st : S → List (Option D) → Om → Prop}
    (hc : X.calm = true) (hi : EI X B ρ O tg iter wi G (xs.map E')) (hg : EB X tg g sl bf) (hv : ∀ s ρ O, st s ρ O → G O) (h0 : ∃ ρ0, Wk ρ0 ρ ∧ st s0 ρ0 O)
    (hb : ∀ y s ρ O, st s ρ O → ∃ ρ', bf (E' y) ρ = some ρ' ∧ FJC X B body ρ' O (nxF st) (ylF E) (f y s))
    (hfs : ∀ x, foldedSetIterable iter X.env x = pure x := by intro _; rfl) : FJC1 X B (.For tg iter body [] pos) ρ O (nxF (L := L) st) (ylF E) (forC f xs s0) := fun ok => by
  refine fj_for (fun i ρ' O' => ∃ s, st s ρ' O' ∧ (forC (L := L) f (xs.drop i) s).ok ∧ (forC (L := L) f (xs.drop i) s).val = (forC f xs s0).val) hc hi hg (fun i ρ O ⟨s, q, _⟩ => hv s ρ O q) (by
    obtain ⟨ρ0, w, q⟩ := h0
    exact ⟨ρ0, w, s0, q, ok, rfl⟩) (fun i d ρ' O' hd ⟨s, q, k1, k2⟩ => ?_) (fun ρ' O' ⟨s, q, k1, k2⟩ => ?_) hfs
  · obtain ⟨y, hy, rfl⟩ := map_item hd
    obtain ⟨hl, ey⟩ := List.getElem?_eq_some_iff.mp hy
    have e1 : xs.drop i = y :: xs.drop (i + 1) := by rw [List.drop_eq_getElem_cons hl, ey]
    rw [e1] at k1 k2
    obtain ⟨ρ2, f1, j⟩ := hb y s ρ' O' q
    obtain ⟨ok1, ok2⟩ := k1
    have k2' : ((f y s).val.goOn (forC (L := L) f (xs.drop (i + 1)))).val = (forC f xs s0).val := k2
    have j' := j ok1
    refine ⟨ρ2, f1, ?_⟩
    cases hv' : (f y s).val with
    | nx s' =>
      rw [hv'] at ok2 k2' j'
      exact fj_imp j' (fun ρ3 O3 ⟨ρ4, w, q4⟩ => ⟨ρ4, w, _, q4, ok2, k2'⟩) (fun _ _ z => z.elim)
    | ct s' =>
      rw [hv'] at j'
      exact fj_imp j' (fun _ _ z => z.elim) (fun _ _ z => z.elim)
    | bk s' =>
      rw [hv'] at j'
      exact fj_imp j' (fun _ _ z => z.elim) (fun _ _ z => z.elim)
    | rt r =>
      rw [hv'] at ok2 k2' j'
      rw [← k2']
      exact fj_imp j' (fun _ _ z => z.elim) (fun _ _ z => z)
    | ex r =>
      rw [hv'] at j'
      exact fj_imp j' (fun _ _ z => z.elim) (fun _ _ z => z.elim)
  · have e1 : xs.drop (xs.map E').length = [] := by rw [List.length_map]; exact List.drop_length
    rw [e1] at k2
    rw [← k2]
    exact ⟨ρ', wk_refl, q⟩
theorem fjc_seqR {st1 : S → List (Option D) → Om → Prop} {m1 : Cmp (Ctl S L (Option α))} {m2 : S → Cmp (Option α)} (h1 : FJC1 X B st ρ O (nxF st1) (ylF E) m1) (h2 : ∀ s ρ' O', st1 s ρ' O' → FJC X B rest ρ' O' nxO (ylO E) (m2 s)) :
    FJC X B (st :: rest) ρ O nxO (ylO E) (m1.bindR m2) := fun ok => by
  obtain ⟨q, v⟩ := m1
  obtain ⟨ok1, ok2⟩ := ok
  have h := h1 ok1
  refine fj_cons ?_
  cases v with
  | nx s => exact fs1_imp h fun nx yl σ H ⟨w, n, y⟩ => ⟨w, fun ρ' O' σ' H' ⟨ρ2, wk, q⟩ s' e => n ρ' O' σ' H' (fss_imp (h2 _ _ _ q ok2) fun nx yl σ H ⟨s, p⟩ => ⟨s.weak wk, p⟩) s' e, fun _ _ _ _ z => z.elim⟩
  | rt r => exact fs1_imp h fun nx yl σ H ⟨w, n, y⟩ => ⟨w, fun _ _ _ _ z => z.elim, y⟩
  | bk r => exact False.elim ok2
  | ct r => exact False.elim ok2
  | ex r => exact False.elim ok2
end
section
variable {P : Program} {w : World} {K : PySem.W.Frag} {mg : Str → Option Value} {base : Heap}
end
section
variable {X : Cx} {B : Gd} {ρ : List (Option D)} {O : Om} {body rest : List Stmt} {e iter : Expr} {es : List Expr} {ds : List D} {pos pos' p p1 : Pos} {x y : Str} {k i : Nat} {α β : Type}
end
end DL

set_option Elab.async false
set_option linter.all false
set_option maxRecDepth 100000
set_option maxHeartbeats 4000000
namespace L2
open PySem PySem.Spec PyProof.Rows
end L2
namespace DL
open PySem PySem.Spec PyProof.Rows L2 TL
section
variable {P : Program} {w : World} {K : PySem.W.Frag} {mg : Str → Option Value} {base : Heap}
end
section
variable {X : Cx} {B : Gd} {ρ ρ' : List (Option D)} {O O' O1 O1' R O'' : Om} {a b c e o e1 e2 : Expr} {es : List Expr} {d d0 d1 d2 d3 : D} {ds : List D} {pos pos' p apos spos : Pos} {rest body s1 s2 : List Stmt} {x n : Str} {k : Nat} {C C0 : Addr} {b1 b2 : Bool}
end
end DL

set_option Elab.async false
set_option linter.all false
set_option maxRecDepth 100000
set_option maxHeartbeats 4000000
namespace DL
open PySem PySem.Spec PyProof.Rows L2 TL
section
variable {X : Cx} {B : Gd} {ρ ρ' : List (Option D)} {O O' O1 O1' R O'' : Om} {a b c e o e1 e2 : Expr} {es : List Expr} {d d0 d1 d2 d3 : D} {ds : List D} {pos pos' p apos spos : Pos} {ss rest body s1 s2 : List Stmt} {x n : Str} {k : Nat} {C C0 : Addr} {b1 b2 : Bool}
variable {α β γ S : Type} {E : β → D} {st : S → Om}
end
end DL

set_option Elab.async false
set_option linter.all false
set_option maxRecDepth 100000
set_option maxHeartbeats 4000000
namespace DL
open PySem PySem.Spec PyProof.Rows L2 TL
section
variable {X : Cx} {B : Gd} {ρ ρ' : List (Option D)} {O O0 : Om} {ss : List Stmt} {ce : ErrTab} {R S L : Type} {E : R → D} {o : S → Om}
end
section
variable {P : Program} {w : World} {K : PySem.W.Frag} {mg : Str → Option Value} {base : Heap} {k : Nat} {f : Addr} {C : Addr} {n : Str}
end
section
variable {X : Cx} {B : Gd} {ρ ρ' : List (Option D)} {O O' O1 O1' R0 O'' : Om} {a b c e o e1 e2 : Expr} {es : List Expr} {d d0 d1 d2 d3 : D} {ds : List D} {pos pos' p apos spos : Pos} {ss rest body s1 s2 : List Stmt} {x n : Str} {k : Nat} {C C0 : Addr} {ce : ErrTab}
variable {α β γ S S' L R : Type} {E : β → D} {st : S' → Om}
end
end DL

set_option Elab.async false
set_option linter.all false
set_option maxRecDepth 100000
set_option maxHeartbeats 4000000
namespace L2
open PySem PySem.Spec PyProof.Rows
section
variable {X : Cx} {CX : CXT} {k n : Nat} {f C : Addr} {fd : FuncData} {ps ks : List Str} {sp : Sp} {x : Str} {p pos : Pos} {e : Expr} {es : List Expr} {kws : List Keyword} {t tk : TA} {g : List Value → List Value → List Value} {gV : List V → List V → List V}
end
end L2
namespace DL
open PySem PySem.Spec PyProof.Rows L2 TL
structure KwInitX (P : Program) (w : World) (K : PySem.W.Frag) (mg : Str → Option Value) (base : Heap) (k : Nat) (f : Addr) (n : Nat) (ks : List Str) (sp : Sp) : Prop where
  ex : ∃ fd ps, FnOk P w K mg base (L2.CX P w) k f fd ps sp ∧ KBn K fd ps (n + 1) ks (fun a b => a ++ b) (fun a b => a ++ b)
theorem KwInitX.calm {P : Program} {w : World} {K : PySem.W.Frag} {mg : Str → Option Value} {base : Heap} {k n : Nat} {f C : Addr} {ks : List Str} {Ar : Om → List D → OutI → Prop} (h : KwInitX P w K mg base k f n ks (spXI K C Ar)) : KwInit P w K mg base k f n ks (spI K C fun L ds ns fs => Ar L ds (.val ns fs)) := by
  obtain ⟨fd, ps, F, b⟩ := h.ex
  exact ⟨fd, ps, fn_calmI F fun _ _ _ _ z => z, b⟩
section
variable {X : Cx} {B : Gd} {ρ ρ' : List (Option D)} {O O' : Om} {a b c e o : Expr} {es : List Expr} {d : D} {ds : List D} {pos p : Pos} {x n : Str} {k : Nat} {C C0 : Addr}
end
end DL

set_option Elab.async false
set_option linter.all false
set_option maxRecDepth 100000
set_option maxHeartbeats 4000000
namespace DL
open PySem PySem.Spec PyProof.Rows L2 TL
section
variable {X : Cx} {B : Gd} {ρ ρ' : List (Option D)} {O O' : Om} {a b c e o : Expr} {es : List Expr} {d : D} {ds : List D} {pos p : Pos} {x n : Str} {k : Nat} {C C0 : Addr}
end
section
variable {X : Cx} {B : Gd} {ρ ρ' : List (Option D)} {O O' : Om} {a b c e o : Expr} {es : List Expr} {d d0 : D} {ds : List D} {pos pos' p : Pos} {x n : Str} {k : Nat} {C C0 : Addr} {ce : ErrTab} {rest s1 s2 : List Stmt}
variable {β γ S S' L R : Type} {E : β → D} {st : S' → Om}
end
end DL

set_option Elab.async false
set_option linter.all false
set_option maxRecDepth 100000
set_option maxHeartbeats 4000000
namespace DL
open PySem PySem.Spec PyProof.Rows L2 TL
inductive LenE (O : Om) : List (Option D) → List (Option D) → Prop
  | nil : LenE O [] []
  | none {ρ ρ' : List (Option D)} : LenE O ρ ρ' → LenE O (Option.none :: ρ) (Option.none :: ρ')
  | some {d : D} {ρ ρ' : List (Option D)} : LenE O ρ ρ' → LenE O (Option.some d :: ρ) (Option.some d :: ρ')
  | bor {q C : Addr} {ns : List Str} {fs : List D} {ρ ρ' : List (Option D)} : (q, M.ins C ns fs) ∈ O → LenE O ρ ρ' → LenE O (Option.some (.rf q) :: ρ) (Option.some (.obj C ns fs) :: ρ')
theorem LenE.len {O : Om} : ∀ {ρ ρ' : List (Option D)}, LenE O ρ ρ' → ρ.length = ρ'.length
  | _, _, .nil => rfl
  | _, _, .none h => by rw [List.length_cons, List.length_cons, h.len]
  | _, _, .some h => by rw [List.length_cons, List.length_cons, h.len]
  | _, _, .bor _ h => by rw [List.length_cons, List.length_cons, h.len]
theorem LenE.get {O : Om} : ∀ {ρ ρ' : List (Option D)} {i : Nat} {d : D}, LenE O ρ ρ' → ρ'[i]? = Option.some (Option.some d) → ρ[i]? = Option.some (Option.some d) ∨ ∃ q C ns fs, (q, M.ins C ns fs) ∈ O ∧ d = .obj C ns fs ∧ ρ[i]? = Option.some (Option.some (.rf q))
  | _, _, _, _, .nil, e => by simp at e
  | _, _, 0, _, .none h, e => by simp at e
  | _, _, 0, _, .some h, e => .inl e
  | _, _, 0, _, .bor hq h, e => by
    have e' := Option.some.inj e
    exact .inr ⟨_, _, _, _, hq, (Option.some.inj e').symm, rfl⟩
  | _, _, i + 1, _, .none h, e => by simpa using h.get (i := i) (by simpa using e)
  | _, _, i + 1, _, .some h, e => by simpa using h.get (i := i) (by simpa using e)
  | _, _, i + 1, _, .bor hq h, e => by simpa using h.get (i := i) (by simpa using e)
section
variable {X : Cx} {B : Gd} {ρ ρ' : List (Option D)} {O O2 : Om} {e : Expr} {d : D} {ds : List D} {b1 : Bool}
end
section
variable {X : Cx} {B : Gd} {ρ : List (Option D)} {O : Om} {e : Expr} {pos p : Pos}
end
end DL

set_option Elab.async false
set_option linter.all false
set_option maxRecDepth 100000
set_option maxHeartbeats 4000000
namespace DL
open PySem PySem.Spec PyProof.Rows L2 TL
section
variable {α β : Type}
end
section
variable {X : Cx} {B : Gd} {ρ : List (Option D)} {O : Om} {d : D} {C C0 f : Addr} {ds fs es' : List D} {k : Nat} {n x : Str} {o a b e : Expr} {es : List Expr} {pos pos2 p apos : Pos} {rest : List Stmt}
end
section
variable {P : Program} {w : World} {K : PySem.W.Frag} {mg : Str → Option Value} {base : Heap}
end
end DL

set_option Elab.async false
set_option linter.all false
set_option maxRecDepth 100000
set_option maxHeartbeats 4000000
namespace DL
open PySem PySem.Spec PyProof.Rows L2
section
variable {P : Program} {w : World} {K : PySem.W.Frag} {mg : Str → Option Value} {base : Heap}
end
section
variable {X : Cx} {B : Gd} {ρ ρ' : List (Option D)} {O O' : Om} {a b c e o : Expr} {es : List Expr} {d d1 d2 d3 : D} {ds fs es' : List D} {pos p apos : Pos} {C C0 f : Addr} {k n : Nat} {x kw : Str} {ns ns0 : List Str} {ss : List Stmt} {α : Type} {A : α → AE}
end
end DL

set_option Elab.async false
set_option linter.all false
set_option maxRecDepth 100000
set_option maxHeartbeats 4000000
namespace L2
open PySem PySem.Spec PyProof.Rows
open Sem (wp)
end L2
namespace DL
open PySem PySem.Spec PyProof.Rows L2
section
variable {X : Cx} {B : Gd} {ρ : List (Option D)} {O : Om} {e : Expr} {pos p : Pos} {C f : Addr} {k : Nat} {ns : List Str} {ds : List D} {n : Int}
end
end DL

set_option Elab.async false
set_option linter.all false
set_option maxRecDepth 100000
set_option maxHeartbeats 4000000
namespace DL
open PySem PySem.Spec PyProof.Rows L2
section
variable {X : Cx} {B : Gd} {ρ ρ' : List (Option D)} {O O' O1 O1' R O'' : Om} {a b c e o e1 e2 : Expr} {es : List Expr} {d d0 d1 d2 d3 : D} {ds : List D} {pos pos' p apos spos pos2 : Pos} {st h₀ : Stmt} {ss rest body s1 s2 : List Stmt} {x : Str} {k : Nat} {C : Addr} {b1 b2 : Bool} {α β γ : Type} {A : α → AE} {E : β → D}
end
section
variable {X : Cx} {B : Gd} {ρ : List (Option D)} {O : Om} {a b e : Expr} {pos : Pos} {α β : Type} {E : α → D} {F : β → D} {v : α × β}
end
end DL

set_option Elab.async false
set_option linter.all false
set_option maxRecDepth 100000
set_option maxHeartbeats 4000000
namespace DL
open PySem PySem.Spec PyProof.Rows L2 GenW
structure FSsX (X : Cx) (st : List Stmt) (t : TF) : Prop where
  run : ∀ (A : Around) (R : GenEnd) (Y : Protocol) (s₀ : Shared) (c : Code) (fs : List Frame) (K : Flow → Sem PySem.Fin) (J : Value → Sem PySem.Fin) (gd : Bool → Bool) (lv : List Value → List Value) (pins : List (Addr × Obj)) (s : Shared) (σ : L2.St) (H : Hp) (nx : L2.St → Hp → Prop) (yl : V → Hp → Prop),
    FCtx X.nox A c fs gd → FK X.nox A R Y s₀ c fs K pins nx yl → (∀ e s', X.xe e s' → Seg (model X.prog X.w) A R Y 1 s₀ c (J e) fs s') → Inv X pins σ H s → t nx yl σ H → Seg (model X.prog X.w) A R Y 1 s₀ c ((execs st X.env).wrap K J gd lv) fs s
theorem fssX_pre {X : Cx} {st : Stmt} {rest : List Stmt} {t : TS} {u : TF} (h : PS X st t) (r : FSs X.nox rest u) : FSsX X (st :: rest) (fun nx yl σ H => t { nx := fun σ H => u nx yl σ H, rt := fun _ _ => False } σ H) := by
  refine ⟨fun A R Y s₀ c fs K J gd lv pins s σ H nx yl g k ex I q => seg_execs_cons (seg_wrap ?_)⟩
  have ov : A.over c fs = X.A := g.over
  rw [ov]
  refine wpAny_mono (h.run pins s σ H _ I q) (fun f s' hs => ?_) fun e s' z => ex e s' z
  cases f with
  | next => obtain ⟨σ', H', I', q'⟩ := hs; exact r.run A R Y s₀ c fs K J gd lv pins s' σ' H' nx yl g k (I'.wish _) q'
  | brk => obtain ⟨_, _, _, z⟩ := hs; exact z.elim
  | cont => obtain ⟨_, _, _, z⟩ := hs; exact z.elim
  | ret v => obtain ⟨_, _, _, _, _, z⟩ := hs; exact z.elim
theorem fssX_of {X : Cx} {st : List Stmt} {t u : TF} (h : FSsX X st t) (k : ∀ nx yl σ H, u nx yl σ H → t nx yl σ H) : FSsX X st u := ⟨fun A R Y s₀ c fs K J gd lv pins s σ H nx yl g kk ex I q => h.run A R Y s₀ c fs K J gd lv pins s σ H nx yl g kk ex I (k _ _ _ _ q)⟩
abbrev SpFX := List V → Hp → (Option V → Hp → Prop) → XK → Prop
def FEndX (P : Program) (w : World) (outer : List Env) (H : Hp) (s : Shared) (a : Addr) (g : Nat) (Q : Option V → Hp → Prop) (E : XK) : GenEnd := fun _ _ r s1 => ((r = .ok (.ret .none) ∨ r = .ok .next) ∧ ∃ H', LeftY P w outer H H' s s1 ∧ Q none H') ∨ ∃ e, r = .error e ∧ L2.CX P w outer H s E e s1 ∧ s1.heap.IsGen a g
def FMadeX (P : Program) (w : World) (k : Nat) (outer : List Env) (H : Hp) (s : Shared) (Q : Option V → Hp → Prop) (E : XK) (u : Value) (s' : Shared) : Prop :=
  ∃ (a : Addr) (g : Nat) (c : Code), u = .ref a ∧ s.heap.objs.size ≤ a ∧ a < s'.heap.objs.size ∧ s'.heap.IsGen a g ∧ s'.gens[g]? = some (.fresh c) ∧ s'.os = s.os ∧ AllBare s'.gens ∧ s'.heap.NoLimit ∧ (∀ b o, s.heap.get? b = some o → s'.heap.get? b = some o) ∧
    ∀ (A : Around) (s2 : Shared), Room k A → A.frames = some outer → (∀ b o, s'.heap.get? b = some o → s2.heap.get? b = some o) → s2.os = s.os → AllBare s2.gens →
      Seg (model P w) A (FEndX P w outer H s a g Q E) (FItem P w outer H s Q) 1 s2 c ((model P w).den c) [] s2
structure FFnX (P : Program) (w : World) (K : PySem.W.Frag) (mg : Str → Option Value) (base : Heap) (k : Nat) (f : Addr) (fd : FuncData) (ps : List Str) (sp : SpFX) : Prop where
  len : ∀ vs H Q E, sp vs H Q E → vs.length = ps.length
  run : ∀ (A : Around) (outer : List Env) (s : Shared) (H : Hp) (args : Args) (us : List Value) (vs : List V) (Q : Option V → Hp → Prop) (E : XK), Room k A → Env0 P w K mg base A outer s H → BindsTo s fd args (ps.zip us) → Vals vs us → sp vs H Q E →
    codeAny (model P w) A (.call (.ref f) args) (fun r s' => match r with | .ok (.ret u) => FMadeX P w k outer H s Q E u s' | _ => False) s
theorem ffn_ofX {P : Program} {w : World} {K : PySem.W.Frag} {mg : Str → Option Value} {base : Heap} {k : Nat} {f : Addr} {name qual : Str} {params : Arguments} {body : List Stmt} {scope : Scope} {dV kV doc pm cdv ct oc : Value} {an od : Option Addr}
    {osl : Array (Option Value)} {N ps : List Str} {sp : SpFX} (lk : K.lookup f = some ⟨oc, od, .func (PySem.W.fnOf name qual params body scope dV kV doc pm an cdv ct), osl⟩) (hcd : PySem.W.codeIn K cdv qual = true) (S : GScope N ps scope)
    (len : ∀ vs H Q E, sp vs H Q E → vs.length = ps.length)
    (hbody : ∀ (A : Around) (outer : List Env) (s : Shared) (H : Hp) (vs : List V) (Q : Option V → Hp → Prop) (E : XK) (pn : List (Addr × Obj)), Room k (A.deeper (envOfC qual scope s.heap.objs.size f cdv)) → sp vs H Q E →
      ∃ t, FSsX (gcxOf P w K mg base N qual scope f cdv A outer s H E pn) body t ∧ t (fun _ H' => Q none H') (fun v H' => Q (some v) H') (start N vs) H) :
    FFnX P w K mg base (k + 1) f (PySem.W.fnOf name qual params body scope dV kV doc pm an cdv ct) ps sp := by
  refine ⟨len, fun A outer s H args us vs Q E hr e0 hb r hsp => ?_⟩
  have hl := len _ _ _ _ hsp
  have KX : K.In s.heap := e0.mod.kin.keeps fun b o e => (e0.bs b o e).1
  have lim : s.heap.NoLimit := e0.mod.nolimit.keeps fun b o e => (e0.bs b o e).1
  have hkind : ∀ y ∈ ps.zip us, scope.names.lookup y.1 = some .local ∨ (scope.names.lookup y.1 = some .cell ∧ ((cellsFrom (s.heap.objs.size + 1) scope.names []).lookup y.1).isSome = true) := fun ⟨n, v⟩ hy => by
    rcases S.par n (List.of_mem_zip hy).1 with q | q
    · exact .inl q
    · exact .inr ⟨q, PySem.W.cellsFrom_some _ _ _ (.inl q)⟩
  refine codeAny_call_generator hr.depth (KX _ _ lk) rfl S.co S.gen rfl (PySem.W.codeRec_of KX hcd) (hb _ _ _ _ ?_)
  refine wpAny_newFunctionEnv_cells S.kind hkind fun env he s1 x => ?_
  subst he
  have lim1 : s1.heap.NoLimit := lim.keeps x.toInCall.keep
  refine ⟨lim1, ?_⟩
  obtain ⟨h1, tk, es1, hk1⟩ := x.done
  have os1 : s1.os = s.os := by rw [es1]
  have gen1 : s1.gens = s.gens := by rw [es1]
  have lt1 : s.heap.objs.size < s1.heap.objs.size := x.toInCall.ns.lt
  have sz1 : s.heap.objs.size ≤ s1.heap.objs.size := Nat.le_of_lt lt1
  have kp1 : ∀ b o, s.heap.get? b = some o → s1.heap.get? b = some o := x.toInCall.keep
  have main : ∀ (go : Obj) (nm qn : Value) (tk2 : Nat), go.cls = .type "generator" → go.data = .fields #[.int s1.gens.size 0, nm, qn] → go.slots = #[] → (∀ h : Heap, (h.push go).get? h.objs.size = some go) →
      FMadeX P w (k + 1) outer H s Q E (.ref s1.heap.objs.size) { s1 with gens := s1.gens.push (.fresh (.func body (envOfC qual scope s.heap.objs.size f cdv))), toks := tk2, heap := s1.heap.push go } := by
    intro go nm qn tk2 hgc hgd0 hgs hgp
    have hgen : ∀ h : Heap, h.get? s1.heap.objs.size = some go → h.IsGen s1.heap.objs.size s1.gens.size := fun h e => ⟨go, nm, qn, e, hgc, hgd0, hgs⟩
    have hpushed : (s1.heap.push go).get? s1.heap.objs.size = some go := hgp _
    refine ⟨s1.heap.objs.size, s1.gens.size, _, rfl, sz1, ?_, hgen _ hpushed, Array.getElem?_push_size .., os1, ?_, lim1.keeps fun b o e => Heap.get?_push_of_some _ e, fun b o e => Heap.get?_push_of_some _ (kp1 b o e), ?_⟩
    · show _ < (s1.heap.push _).objs.size
      rw [Heap.size_push]; exact Nat.lt_succ_self _
    · exact AllBare.push (by rw [gen1]; exact e0.bare) rfl
    intro Aw s2 hrw hfr hk2 hos hba
    have e0w : Env0 P w K mg base Aw outer s H := ⟨hfr, e0.mod, e0.bs, e0.bsz, e0.funs, e0.frf, e0.hok, e0.bare⟩
    obtain ⟨t, ht, hq⟩ := hbody Aw outer s H vs Q E [(s1.heap.objs.size, go)] (hrw.deeper _) hsp
    have I1 : Inv (gcxOf P w K mg base N qual scope f cdv Aw outer s H E []) [] (start N vs) H s1 := inv_startG S hrw.hd e0w hl r x
    have kp2 : ∀ b o, s1.heap.get? b = some o → s2.heap.get? b = some o := fun b o e => hk2 b o (Heap.get?_push_of_some _ e)
    have I2 : Inv (gcxOf P w K mg base N qual scope f cdv Aw outer s H E []) [] (start N vs) H s2 :=
      I1.call' (ch := []) (hos.trans os1.symm) (Un.kept kp2) (I1.hok.kept kp2) hba fun b z => by simp at z
    have hea : s2.heap.get? s1.heap.objs.size = some go := hk2 s1.heap.objs.size go hpushed
    have hgd : ∀ v, go.data ≠ .cell v := fun v q => by rw [hgd0] at q; cases q
    have young : ∀ b, s1.heap.objs.size ≤ b → H b = none ∧ b ≠ s.heap.objs.size ∧ b ∉ frs outer := fun b hb =>
      ⟨I1.hok.fresh hb, Nat.ne_of_gt (Nat.lt_of_lt_of_le lt1 hb), I1.nofs hb⟩
    have I3 : Inv (gcxOf P w K mg base N qual scope f cdv Aw outer s H E [(s1.heap.objs.size, go)]) [] (start N vs) H s2 := Inv.pinnedG I2 fun p hp => by
      rcases List.mem_append.mp hp with z | z
      · rw [List.mem_singleton.mp z]
        obtain ⟨y1, y2, y3⟩ := young s1.heap.objs.size (Nat.le_refl _)
        exact ⟨hea, y1, y2, y3, hgd⟩
      · cases z
    have left : ∀ {pins : List (Addr × Obj)} {σ' : L2.St} {H' : Hp} {s' : Shared}, Inv (gcxOf P w K mg base N qual scope f cdv Aw outer s H E [(s1.heap.objs.size, go)]).nox pins σ' H' s' → LeftY P w outer H H' s s' := fun J => ⟨J.os, J.bare, J.base, J.hok⟩
    refine seg_func ?_
    refine ht.run Aw _ _ s2 _ [] _ _ id id [] s2 (start N vs) H _ _ ⟨over_func, rfl, rfl, rfl, fun _ _ z => z⟩ ⟨fun σ' H' s' J q => ?_, fun σ' H' s' xx v J rv q kap => ⟨H', xx, left J, rv, q⟩⟩ (fun e s' hx => ?_) I3 hq
    · exact seg_end (.ok (.ret .none)) (.inl ⟨.inl rfl, H', left J, q⟩)
    · refine seg_wrap ?_
      rw [over_func]
      exact wpAny_mono hx (fun _ s'' ⟨q1, q2⟩ => seg_end (.error e) (.inr ⟨e, rfl, q1, hgen _ (q2 (s1.heap.objs.size, go) (List.mem_singleton.mpr rfl))⟩)) fun _ _ z => z.elim
  exact main _ _ _ _ rfl rfl rfl fun h => Heap.get?_push_size _ rfl
abbrev TGfX := L2.St → Hp → (Option V → Hp → Prop) → XK → Prop
structure PGfX (X : Cx) (k : Nat) (e : Expr) (tg : TGfX) : Prop where
  run : ∀ (pins : List (Addr × Obj)) (s : Shared) (σ : L2.St) (H : Hp) (Q : Option V → Hp → Prop) (E : XK), Inv X pins σ H s → tg σ H Q E → wpAny (model X.prog X.w) X.A (eval e X.env)
    (fun u s' => ∃ H1 sc, Inv X pins σ H1 sc ∧ FMadeX X.prog X.w k X.stack H1 sc Q E u s') X.xe s
section
variable {X : Cx} {k : Nat} {f : Addr} {fd : FuncData} {ps : List Str} {sp : SpFX} {dvs : List V} {ds : List Value} {x : Str} {p pos pos' : Pos} {e : Expr} {es : List Expr}
theorem pgfX_call {t : TA} (F : FFnX X.prog X.w X.K X.mg X.base k f fd ps sp) (hr : Room k X.A) (hg : Gl X x) (hm : X.mg x = some (.ref f)) (hk : PySem.W.keepIn X.K (.ref f) = true) (hb : Binds X.K fd ps ds) (hd : Vals dvs ds)
    (ha : PA X (e :: es) t) (hdb : (x == ("__debug__" : Str)) = false := by decide) (he : starEach (e :: es) X.env = (false, eval e X.env) :: starEach es X.env := by rfl) (hpl : (backTo pos' (starEach es X.env)).any (·.1) = false := by rfl) :
    PGfX X k (.Call (.Name x p) (e :: es) [] pos') (fun σ H Q E => t σ H fun vs H1 => sp (vs ++ dvs) H1 Q E) := by
  refine ⟨fun pins s σ H Q E I h => ?_⟩
  refine wpAny_Call_Name_kw (ld_glob I hg hm ?_ hdb)
  refine PySem.W.callWith_K (h₀ := X.base) I.ok.mod.kin hk (thn (ha.run pos' pins s σ H _ I h) fun us s1 ⟨vs, H1, I1, r, q⟩ => ⟨I1.kIn, ?_⟩) he hpl
  have r2 : Vals (vs ++ dvs) (us ++ ds) := r.append hd
  have hl2 : (us ++ ds).length = ps.length := by rw [← r2.length]; exact F.len _ _ _ _ q
  refine wpAny_call (codeAny_mono (F.run X.A X.stack s1 H1 ⟨us, []⟩ (us ++ ds) (vs ++ dvs) Q E hr I1.env0 (hb s1 us I1.kIn hl2) r2 q) fun r s' hq => ?_)
  cases r with
  | error e => exact False.elim hq
  | ok fl =>
    cases fl with
    | ret u => exact ⟨H1, s1, I1, hq⟩
    | next => exact False.elim hq
    | brk => exact False.elim hq
    | cont => exact False.elim hq
def tForGX (tg : TGfX) (i : Nat) (tb : TS) (E : L2.St → XK) : TS := fun D σ H => tg σ H (fun eo H1 => match eo with
  | none => D.nx σ H1
  | some v => tb { rt := D.rt, nx := fun _ _ => False, ct := fun _ _ => False, bk := D.nx } (σ.set i (some v)) H1) (E σ)
theorem ps_forGX {tg : TGfX} {i : Nat} {E : L2.St → XK} {body : List Stmt} {tb : TS} (hp : PassesOwn (model X.prog X.w) X.A X.env X.xe) (hc : X.calm = true) (hg : PGfX X k e tg) (hxx : ∀ σ, PassesAt (L2.CX X.prog X.w) X σ (E σ)) (hns : ∀ σ, NoStop X.K (E σ)) (hr : Room (k + 3) X.A) (hN : X.N.Nodup) (hi : X.N[i]? = some x) (hx : Loc X.env.scope x) (hb : PSs X body tb)
    (hf : X.fn x = true ∨ X.env.scope.names.lookup x = some .local) (hs : ∀ x, foldedSetIterable e X.env x = pure x := by intro _; rfl) : PS X (.For (.Name x p) e body [] pos) (tForGX tg i tb E) := by
  refine ⟨fun pins s σ H D I h => ?_⟩
  refine wpAny_For (thn (hg.run pins s σ H _ _ I h) fun u s1 h1 => ?_) hs
  obtain ⟨H1, sc, I1, a, g, c, rfl, ha1, ha2, hgn, hgs, hos, hba, hlim, hkp, wake⟩ := h1
  refine wpAny_pyIter_gen hgn ?_
  refine codeAny_forLoop_any (fun n s' => n = 0 ∧ s' = s1) ?_ 0 ⟨rfl, rfl⟩
  rintro n s2 ⟨rfl, rfl⟩
  have hh : X.A.handled = none := I.ok.hd hc
  have back : ∀ {H' : Hp} {s' s'' : Shared} {x : GenState}, LeftY X.prog X.w X.stack H1 H' sc s' → x.bare = true → s''.os = s'.os → s''.gens = (s'.setGen g x).gens → (∀ b o, s'.heap.get? b = some o → s''.heap.get? b = some o) → Inv X pins σ H' s'' := fun {H' s' s'' x} l hx h1 h2 h3 =>
    I1.call' (ch := []) (h1.trans l.os) (l.un.trans (Un.kept h3)) (l.hok.kept h3) (by rw [h2]; exact allBare_setGen l.bare hx) fun b z => by simp at z
  have body' : ∀ (v : Value) (y : V) (H' : Hp) (s' : Shared), Inv X pins σ H' s' → RelV y v → tb { rt := D.rt, nx := fun _ _ => False, ct := fun _ _ => False, bk := D.nx } (σ.set i (some y)) H' → wpAny (model X.prog X.w) X.A (letOwnedTupleGo (.Name x p) (.ref a) v) (fun _ s₁' =>
          wpAny (model X.prog X.w) X.A (assign (.Name x p) X.env v) (fun _ s₂ => wpAny (model X.prog X.w) X.A (execs body X.env) (fun f s₃ => match f with
            | .next | .cont => ∃ m, m < 0 ∧ m = 0 ∧ s₃ = s2
            | .brk => SP X pins D .next s₃
            | .ret v => SP X pins D (.ret v) s₃) (notedBy (model X.prog X.w) X.A X.env fun e s' => cameBackBy (model X.prog X.w) X.A X.env X.xe e s') s₂) (notedBy (model X.prog X.w) X.A X.env fun e s' => cameBackBy (model X.prog X.w) X.A X.env X.xe e s') s₁') (notedBy (model X.prog X.w) X.A X.env fun e s' => cameBackBy (model X.prog X.w) X.A X.env X.xe e s') s' := fun v y H' s' J rv q => by
    refine wpAny_pure ?_
    refine wpAny_passesOwn hp (thn ((pg_name (pos := p) hN hi hx hf).run pins s' σ H' y v _ J rv q) fun _ s6 ⟨σ6, H6, I6, q6⟩ => ?_)
    refine wpAny_passesOwn hp (thn (hb.run _ s6 σ6 H6 _ I6 q6) fun f s7 q7 => ?_)
    cases f with
    | next => obtain ⟨_, _, _, z⟩ := q7; exact z.elim
    | cont => obtain ⟨_, _, _, z⟩ := q7; exact z.elim
    | brk => obtain ⟨σ7, H7, I7, q7⟩ := q7; exact ⟨σ7, H7, I7, q7⟩
    | ret v => exact q7
  refine next_genG (n := 1) (F := fun _ _ s1 => ∃ H', LeftY X.prog X.w X.stack H1 H' sc s1 ∧ (match (none : Option V) with | none => D.nx σ H' | some v => tb { rt := D.rt, nx := fun _ _ => False, ct := fun _ _ => False, bk := D.nx } (σ.set i (some v)) H')) (Er := fun e s1 => L2.CX X.prog X.w X.stack H1 sc (E σ) e s1 ∧ s1.heap.IsGen a g)
    (Y := FItem X.prog X.w X.stack H1 sc fun eo H1 => match eo with | none => D.nx σ H1 | some v => tb { rt := D.rt, nx := fun _ _ => False, ct := fun _ _ => False, bk := D.nx } (σ.set i (some v)) H1) hh hlim ?_ hgn hgs ⟨rfl, ?_⟩ (fun v s3 gs' hgb hv => ?_) (fun s3 hv h' hk => ?_) fun e s3 he => ?_
  · have := hr.dp; omega
  · refine seg_imp (R := FEndX X.prog X.w X.stack H1 sc a g (fun eo H1 => match eo with | none => D.nx σ H1 | some v => tb { rt := D.rt, nx := fun _ _ => False, ct := fun _ _ => False, bk := D.nx } (σ.set i (some v)) H1) (E σ)) (Y := FItem X.prog X.w X.stack H1 sc (fun eo H1 => match eo with | none => D.nx σ H1 | some v => tb { rt := D.rt, nx := fun _ _ => False, ct := fun _ _ => False, bk := D.nx } (σ.set i (some v)) H1)) (Y' := FItem X.prog X.w X.stack H1 sc (fun eo H1 => match eo with | none => D.nx σ H1 | some v => tb { rt := D.rt, nx := fun _ _ => False, ct := fun _ _ => False, bk := D.nx } (σ.set i (some v)) H1)) (fun n s₀ r s hR => hR) (fun n s₀ v s kap kap' _ hY => hY) 1 (wake X.A.in1 (s2.setGen g .running) ⟨hr.hd, ?_, ?_⟩ I.ok.frames (fun b o e => e) hos (allBare_setGen hba rfl))
    · have := hr.dp
      show X.A.in1.depth + 3 * k + 5 < _
      show X.A.depth + 3 * k + 5 < _
      omega
    · have := hr.un
      show X.A.units + 1 + 16 * k + 200 < _
      omega
  · obtain ⟨H', y, l, rv, q⟩ := hv
    exact body' v y H' _ (back l hgb rfl rfl fun _ _ e => e) rv q
  · obtain ⟨H', l, q⟩ := hv
    refine wpAny_execs_nil ⟨σ, H', back (x := .finished) l rfl rfl rfl hk, q⟩
  · obtain ⟨hc, hg3⟩ := he
    have kin : X.K.In s3.heap := by
      obtain ⟨a, B, H', cls, d, _, fl, _, ub, _⟩ := id hc
      refine I1.ok.mod.kin.keeps fun b o eb => fl.1 b o (ub.keep b o (I1.bs b o eb).1 (I1.bs b o eb).2 fun hm => ?_)
      rcases List.mem_cons.mp (I1.stkSub b hm) with z | z
      · have h1 := Heap.lt_size eb
        have h2 := Nat.le_trans I1.ok.bsz I1.ok.above
        rw [z] at h1
        exact absurd (Nat.lt_of_lt_of_le h1 h2) (Nat.lt_irrefl _)
      · exact I1.ok.nofr eb z
    refine ⟨hg3, notStop_of (hns σ) kin hc, hp e _ (hxx σ pins H1 sc e _ I1 ?_)⟩
    obtain ⟨a, B, H', cls, d, z1, fl, z2, ub, z3, z4, z5, z6⟩ := hc
    exact ⟨a, B, H', cls, d, z1, fl, z2, ub, z3, z4, allBare_setGen z5 rfl, z6⟩
end
end DL

set_option Elab.async false
set_option linter.all false
set_option maxRecDepth 100000
set_option maxHeartbeats 4000000
namespace DL
open PySem PySem.Spec PyProof.Rows L2 TL GenW
def aCN {R : Type} (E : R → D) (ce : ErrTab) : Ctl Unit Unit R → AE
  | .rt r => { nx := fun _ O => Frz O .non (E r), rt := rtP E r }
  | .ex e => { nx := fun _ _ => False, rt := fun _ _ => False, ex := exq ce e }
  | _ => { nx := fun _ _ => False, rt := fun _ _ => False }
theorem j_outXN {X : Cx} {B : Gd} {ρ : List (Option D)} {O : Om} {ss : List Stmt} {ce : ErrTab} {R : Type} {E : R → D} {c : Ctl Unit Unit R} (h : J X B ss ρ O (aCN E ce c)) : J X B ss ρ O (postX (outX ce E c)) := by
  cases c with
  | nx s => exact j_imp h (fun _ _ z => z.elim) (fun _ _ z => z.elim) (fun _ _ z => z.elim) (fun _ _ z => z.elim) (fun _ _ _ _ _ z => z.elim)
  | rt v => exact j_imp h (fun _ _ z => z) (fun _ _ z => z) (fun _ _ z => z.elim) (fun _ _ z => z.elim) (fun _ _ _ _ _ z => z.elim)
  | bk s => exact j_imp h (fun _ _ z => z.elim) (fun _ _ z => z.elim) (fun _ _ z => z.elim) (fun _ _ z => z.elim) (fun _ _ _ _ _ z => z.elim)
  | ct s => exact j_imp h (fun _ _ z => z.elim) (fun _ _ z => z.elim) (fun _ _ z => z.elim) (fun _ _ z => z.elim) (fun _ _ _ _ _ z => z.elim)
  | ex e => exact j_imp h (fun _ _ z => z.elim) (fun _ _ z => z.elim) (fun _ _ z => z.elim) (fun _ _ z => z.elim) (fun _ _ _ _ _ z => z)
section
variable {X : Cx} {B : Gd} {ρ : List (Option D)} {O : Om} {e tg : Expr} {d : D} {C : Addr} {n : Str} {pos : Pos} {rest : List Stmt} {ce : ErrTab} {α β S L R : Type} {E : β → D}
end
inductive OutF where
  | val (o : Option D)
  | exn (C : Addr) (n : Str) (d : D)
def tWFX (K : PySem.W.Frag) (B : Gd) (ρ : List (Option D)) (O : Om) (nxp : PNx) (ylp : PYl) (exp : Addr → Str → D → List (Option D) → Om → Prop) : TF := fun nx yl σ H => StOk K B ρ O σ H ∧ (∀ ρ' O' σ' H', nxp ρ' O' → StOk K B ρ' O' σ' H' → Same (vis B.F O H) (vis B.F O' H') → nx σ' H') ∧ (∀ d O' v H', ylp d O' → MOk K B O' H' → Rp K (vis B.F O' H') v d → yl v H') ∧
  ∀ C n d ρ' O' σ' H' dx v, exp C n d ρ' O' → StOk K B ρ' O' σ' H' → Same (vis B.F O H) (vis B.F O' H') → H' dx = some (.xd [(n, v)]) → has O' dx = false → Rp K (vis B.F O' H') v d → B.W (.ref C) (some dx) σ' H'
abbrev FJX (X : Cx) (B : Gd) (ss : List Stmt) (ρ : List (Option D)) (O : Om) (nxp : PNx) (ylp : PYl) (exp : Addr → Str → D → List (Option D) → Om → Prop) : Prop := FSsX X ss (tWFX X.K B ρ O nxp ylp exp)
theorem fjX_pre {X : Cx} {B : Gd} {ρ : List (Option D)} {O : Om} {nxp : PNx} {ylp : PYl} {exp : Addr → Str → D → List (Option D) → Om → Prop} {st : Stmt} {rest : List Stmt} (h : J1 X B st ρ O { nx := fun ρ' O' => FJ X.nox B rest ρ' O' nxp ylp, rt := fun _ _ => False, ex := exp }) : FJX X B (st :: rest) ρ O nxp ylp exp :=
  fssX_of (fssX_pre h (fj_any (X := X.nox) B rest nxp ylp)) fun nx yl σ H ⟨s, n, y, x⟩ => ⟨s, fun ρ' O' σ' H' q s' e => ⟨ρ', O', q, s', fun ρ2 O2 σ2 H2 a b c => n ρ2 O2 σ2 H2 a b (e.trans c), y⟩, fun _ _ _ _ z => z.elim, fun _ _ _ _ z => z.elim, fun _ _ _ _ z => z.elim, x⟩
def liftG {α : Type} (m : Cmp (Option α)) : Cmp (Ctl Unit Unit (Option α)) := m.bind fun o => .ret (.rt o)
def nxX {α : Type} : Ctl Unit Unit (Option α) → PNx
  | .rt o => nxO o
  | _ => fun _ _ => False
def ylX {α : Type} (E : α → D) : Ctl Unit Unit (Option α) → PYl
  | .rt o => ylO E o
  | _ => fun _ _ => False
def exX {α : Type} (ce : ErrTab) : Ctl Unit Unit (Option α) → Addr → Str → D → List (Option D) → Om → Prop
  | .ex er => exq ce er
  | _ => fun _ _ _ _ _ => False
abbrev FJCX {α : Type} (X : Cx) (B : Gd) (ss : List Stmt) (ρ : List (Option D)) (O : Om) (ce : ErrTab) (E : α → D) (m : Cmp (Ctl Unit Unit (Option α))) : Prop := m.ok → FJX X B ss ρ O (nxX m.val) (ylX E m.val) (exX ce m.val)
theorem bindXG {α β : Type} {mc : Cmp (Ctl Unit Unit β)} {mr : β → Cmp (Option α)} (ok : (mc.bindX fun y => liftG (mr y)).ok) : (∃ o, (mc.bindX fun y => liftG (mr y)).val = .rt o) ∨ ∃ er, (mc.bindX fun y => liftG (mr y)).val = .ex er := by
  obtain ⟨ok1, ⟨v, hm, _⟩ | ⟨er, hm⟩⟩ := bindX_ok ok
  · exact .inl ⟨_, (bindX_rt hm).2⟩
  · exact .inr ⟨_, bindX_ex hm⟩
def spFX (K : PySem.W.Frag) (Ar : Om → List D → OutF → Prop) : SpFX := fun vs H Q E => ∃ (F : Addr → Bool) (L : Om) (ds : List D) (out : OutF), Bor K F L [] H ∧ RpL K (vis F [] H) vs ds ∧ Ar L ds out ∧
  match out with
  | .val none => ∀ H', Same H H' → Q none H'
  | .val (some d) => ∀ v H', Same H H' → Rp K (vis F [] H') v d → Q (some v) H'
  | .exn C n d => ∀ dx v H', Same H H' → H' dx = some (.xd [(n, v)]) → Rp K (vis F [] H') v d → E (.ref C) (some dx) H'
def outG {α : Type} (ce : ErrTab) (E : α → D) : Ctl Unit Unit (Option α) → OutF
  | .rt o => .val (o.map E)
  | .ex er => .exn (ce er.c).1 (ce er.c).2 er.d
  | _ => .val none
structure CalGX (P : Program) (w : World) (K : PySem.W.Frag) (mg : Str → Option Value) (base : Heap) (k : Nat) (x : Str) (sp : SpFX) : Prop where
  ex : ∃ f fd ps, FFnX P w K mg base k f fd ps sp ∧ mg x = some (.ref f) ∧ PySem.W.keepIn K (.ref f) = true ∧ Binds K fd ps []
section
variable {P : Program} {w : World} {K : PySem.W.Frag} {mg : Str → Option Value} {base : Heap}
end
section
variable {X : Cx} {B : Gd} {ρ : List (Option D)} {O : Om} {body rest : List Stmt} {e iter : Expr} {es : List Expr} {ds : List D} {pos pos' p p1 : Pos} {x y : Str} {k i : Nat} {α β S L R : Type} {ce : ErrTab}
def tGFX (K : PySem.W.Frag) (B : Gd) (ρ : List (Option D)) (O : Om) (out : OutF) : TGfX := fun σ H Q E => StOk K B ρ O σ H ∧ match out with
  | .val none => ∀ H', Same H H' → Q none H'
  | .val (some d) => ∀ v H', Same H H' → Rp K (vis B.F O H') v d → Q (some v) H'
  | .exn C n d => ∀ dx v H', Same H H' → H' dx = some (.xd [(n, v)]) → Rp K (vis B.F O H') v d → E (.ref C) (some dx) H'
abbrev EGX (X : Cx) (k : Nat) (B : Gd) (ρ : List (Option D)) (O : Om) (e : Expr) (out : OutF) : Prop := PGfX X k e (tGFX X.K B ρ O out)
theorem egx_call {Ar : Om → List D → OutF → Prop} {out : OutF} (c : CalGX X.prog X.w X.K X.mg X.base k x (spFX X.K Ar)) (hr : Room k X.A) (hg : Gl X x) (ha : EA X B ρ O (e :: es) ds) (h : Ar (B.L ++ O) ds out) (hdb : (x == ("__debug__" : Str)) = false := by decide)
    (he : starEach (e :: es) X.env = (false, eval e X.env) :: starEach es X.env := by rfl) (hpl : (backTo pos' (starEach es X.env)).any (·.1) = false := by rfl) : EGX X k B ρ O (.Call (.Name x p) (e :: es) [] pos') out := by
  obtain ⟨f, fd, ps, F, hm, hk, hb⟩ := c.ex
  have z := pgfX_call (p := p) (pos' := pos') (dvs := []) F hr hg hm hk hb .nil ha hdb he hpl
  refine ⟨fun pins s σ H Q E I ⟨st, q⟩ => z.run pins s σ H Q E I ⟨st, fun vs H1 e1 r1 => ?_⟩⟩
  have m := (st.same e1).m
  show spFX X.K Ar (vs ++ []) H1 Q E
  rw [List.append_nil]
  refine ⟨frF B O, B.L ++ O, ds, out, bor_of m, by rw [vis_fr]; exact r1, h, ?_⟩
  match out, q with
  | .val none, q => exact fun H' e2 => q H' (e1.trans e2)
  | .val (some d), q => exact fun v H' e2 r' => q v H' (e1.trans e2) (by rw [vis_fr] at r'; exact r')
  | .exn C n d, q => exact fun dx v H' e2 hx r' => q dx v H' (e1.trans e2) hx (by rw [vis_fr] at r'; exact r')
theorem j_forGX {out : OutF} {A : AE} (hp : PassesOwn (model X.prog X.w) X.A X.env X.xe) (hc : X.calm = true) (tk : Takes X B.W) (hg : EGX X k B ρ O iter out) (hr : Room (k + 3) X.A) (hN : X.N.Nodup) (hi : X.N[i]? = some x) (hx : Loc X.env.scope x) (hf : X.fn x = true ∨ X.env.scope.names.lookup x = some .local)
    (hst : ∀ C n d, out = .exn C n d → PySem.W.subIn X.K (.ref C) (.type "StopIteration") = some false)
    (hn : out = .val none → A.nx ρ O) (hb : ∀ d, out = .val (some d) → J X B body (ρ.set i (some d)) O { nx := fun _ _ => False, rt := A.rt, bk := A.nx, ex := A.ex }) (he : ∀ C n d, out = .exn C n d → A.ex C n d ρ O) (hs : ∀ x, foldedSetIterable iter X.env x = pure x := by intro _; rfl) : J1 X B (.For (.Name x p) iter body [] pos) ρ O A := by
  refine ps_imp (ps_forGX (E := fun σ cls d H' => (∃ C n d0, out = .exn C n d0 ∧ cls = .ref C) ∧ B.W cls d σ H') hp hc hg (fun σ pins H s e s' I c => passAt tk σ pins H s e s' I ?_) (fun σ cls d H' h => ?_) hr hN hi hx (any_ok (B := B)) hf hs) fun Dn σ H ⟨st, q⟩ => ⟨st, ?_⟩
  · obtain ⟨a, B', H', cls, d, z1, fl, z2, ub, z3, z4, z5, z6⟩ := c
    exact ⟨a, B', H', cls, d, z1, fl, z2, ub, z3, z4, z5, z6.2⟩
  · obtain ⟨⟨C, n, d0, e1, rfl⟩, _⟩ := h
    exact hst C n d0 e1
  · match out, hn, hb, he with
    | .val none, hn, hb, he => exact fun H' e1 => q.nx ρ O σ H' (hn rfl) (st.same e1) (vis_same e1)
    | .val (some d), hn, hb, he => exact fun v H' e1 r => ⟨_, _, _, hb d rfl, (st.same e1).set r, fun _ _ _ _ z => z.elim, q.rt, fun ρ' O' σ' H2 a s' e2 => q.nx ρ' O' σ' H2 a s' ((vis_same e1).trans e2), fun _ _ _ _ z => z.elim, fun C n d ρ' O' σ' H2 dx v a s' e2 => q.ex C n d ρ' O' σ' H2 dx v a s' ((vis_same e1).trans e2)⟩
    | .exn C n d, hn, hb, he => exact fun dx v H' e1 hx r => ⟨⟨C, n, d, rfl, rfl⟩, q.ex C n d ρ O σ H' dx v (he C n d rfl) (st.same e1) (vis_same e1) hx (has_xd st.m e1 hx) r⟩
def onlyE {R' : Type} (i : Nat) (m : Cmp (Ctl Unit Unit R')) : Cmp (Ctl Unit Unit R') := m.bind fun c => match c with
  | .ex e => if e.c = i then .ret (.ex e) else ⟨False, .ex e⟩
  | c => .ret c
theorem jc_forGX {E : α → D} {m : Cmp (Ctl Unit Unit (Option α))} {A : Ctl S L R → AE} {m0 : Unit → Cmp (Ctl S L R)} {m1 : α → Cmp (Ctl S L R)} (i j : Nat) (nd : X.N.Nodup) (hp : PassesOwn (model X.prog X.w) X.A X.env X.xe) (hc : X.calm = true) (tk : Takes X B.W) (hg : m.ok → EGX X k B ρ O iter (outG ce E m.val)) (hr : Room (k + 3) X.A)
    (hst : PySem.W.subIn X.K (.ref (ce j).1) (.type "StopIteration") = some false)
    (h0 : JC X B rest ρ O A (m0 ())) (h1 : ∀ y, JC X B body (ρ.set i (some (E y))) O (fun w => { nx := fun _ _ => False, rt := (A w).rt, ex := (A w).ex }) (m1 y)) (hex : ∀ er, (A (.ex er)).ex (ce er.c).1 (ce er.c).2 er.d ρ O) (hi : X.N[i]? = some x := by rfl) (hx : Loc X.env.scope x := by first | exact .inl rfl | exact .inr rfl)
    (hf : X.fn x = true ∨ X.env.scope.names.lookup x = some .local := by first | exact .inr rfl | exact .inl rfl) (hs : ∀ x, foldedSetIterable iter X.env x = pure x := by intro _; rfl) : JC X B (.For (.Name x p) iter body [] pos :: rest) ρ O A ((onlyE j m).bindX fun o => .bndO o m0 m1) := fun ok => by
  obtain ⟨mo, mv⟩ := m
  obtain ⟨ok1, hh⟩ := bindX_ok ok
  cases mv with
  | rt o =>
    have hm : (onlyE j (⟨mo, .rt o⟩ : Cmp (Ctl Unit Unit (Option α)))).val = .rt o := rfl
    have hg' := hg ok1.1
    rw [(bindX_rt hm).2]
    have ok2 : (Cmp.bndO o m0 m1).ok := by
      rcases hh with ⟨v, e, k⟩ | ⟨er, e⟩
      · rw [hm] at e; cases e; exact k
      · rw [hm] at e; cases e
    cases o with
    | none => exact j_cons (j_forGX hp hc tk hg' hr nd hi hx hf (fun C n d z => by cases z) (fun _ => h0 ok2) (fun d z => by cases z) (fun C n d z => by cases z) hs)
    | some y => exact j_cons (j_forGX hp hc tk hg' hr nd hi hx hf (fun C n d z => by cases z) (fun z => by cases z) (fun d z => by cases z; exact j_imp (h1 y ok2) (fun _ _ z => z) (fun _ _ z => z) (fun _ _ z => z.elim) (fun _ _ z => z) (fun _ _ _ _ _ z => z)) (fun C n d z => by cases z) hs)
  | ex er =>
    have ec : er.c = j := by
      by_cases q : er.c = j
      · exact q
      · have k := ok1.2
        simp only [q, if_false] at k
    have hm : (onlyE j (⟨mo, .ex er⟩ : Cmp (Ctl Unit Unit (Option α)))).val = .ex er := by
      show (if er.c = j then (.ret (.ex er) : Cmp (Ctl Unit Unit (Option α))) else ⟨False, .ex er⟩).val = _
      rw [if_pos ec]
    have hg' := hg ok1.1
    rw [bindX_ex hm]
    exact j_cons (j_forGX hp hc tk hg' hr nd hi hx hf (fun C n d z => by cases z; rw [ec]; exact hst) (fun z => by cases z) (fun d z => by cases z) (fun C n d z => by cases z; exact hex er) hs)
  | nx s =>
    rcases hh with ⟨v, e, k⟩ | ⟨er, e⟩ <;> cases e
  | bk s =>
    rcases hh with ⟨v, e, k⟩ | ⟨er, e⟩ <;> cases e
  | ct s =>
    rcases hh with ⟨v, e, k⟩ | ⟨er, e⟩ <;> cases e
end
end DL

set_option Elab.async false
set_option linter.all false
set_option maxRecDepth 100000
set_option maxHeartbeats 4000000
namespace DL
open PySem PySem.Spec PyProof.Rows L2
section
variable {X : Cx} {B : Gd} {ρ ρ' : List (Option D)} {O O' O1 O2 : Om} {a b c e o : Expr} {d d0 : D} {pos pos' apos : Pos} {k : Nat} {t : Addr} {kvs : List (Key × D)} {z : Str}
end
section
variable {α : Type} {E : α → D}
def mkD (E : α → D) (m : List (Str × α)) : List (Key × D) := m.map fun p => (Sum.inr p.1, E p.2)
end
end DL

set_option Elab.async false
set_option linter.all false
set_option maxRecDepth 100000
set_option maxHeartbeats 4000000
namespace DL
open PySem PySem.Spec PyProof.Rows L2 TL
def rLtD (K : PySem.W.Frag) : R2 := fun x y H Q => ∃ d e, Dp K H x d ∧ Dp K H y e ∧ PySem.W.alike d e = true ∧ d ≠ .none ∧ d.depth < 64 ∧ Q (.bl (PySem.W.dataLt d e)) H
theorem op_ltD {X : Cx} (hu : X.A.units + 65 < cLine) : OpR X (compareOp .Lt) (rLtD X.K) := by
  intro pins s σ H x y v u Q I rx ry h
  obtain ⟨d, e, hd, he, ha, hn, hl, q⟩ := h
  obtain ⟨as, r1⟩ := Dp.reads I d x v hd rx
  obtain ⟨bs, r2⟩ := Dp.reads I e y u he ry
  exact PySem.W.lt_data r1 r2 ha hn (by omega) ⟨.bl _, H, I, rfl, q⟩
structure LtOk {α : Type} (f : α → D) (n : Nat) (g : α → PyData) (lt : α → α → Bool) : Prop where
  py : ∀ x, PyR (f x) (g x)
  dep : ∀ x, (g x).depth ≤ n
  al : ∀ x y, PySem.W.alike (g x) (g y) = true
  nn : ∀ x, g x ≠ .none
  lt : ∀ x y, PySem.W.dataLt (g x) (g y) = lt x y
section
variable {α : Type} {f : α → D} {n : Nat} {g : α → PyData} {lt : α → α → Bool} {B : Gd} {O : Om} {d1 d2 d : D}
theorem rd_ltD {K : PySem.W.Frag} {x y : α} (h : LtOk f n g lt) (hn : n < 64) (w1 : Vd (B.L ++ O) d1 (f x)) (w2 : Vd (B.L ++ O) d2 (f y)) : RD K B O (rLtD K) d1 d2 (.bl (lt x y)) := fun u v H Q m r1 r2 k =>
  ⟨g x, g y, w1.dp m r1 (h.py x), w2.dp m r2 (h.py y), h.al x y, h.nn x, by have := h.dep x; omega, by rw [h.lt]; exact k _ H (Same.refl H) (.bl _)⟩
theorem LtOk.lst [DecidableEq α] (h : LtOk f n g lt) (he : ∀ x y, PyData.eqv (g x) (g y) = decide (x = y)) {lts : List α → List α → Bool} (e0 : ∀ ys, lts [] ys = !ys.isEmpty) (e1 : ∀ x xs, lts (x :: xs) [] = false) (e2 : ∀ x xs y ys, lts (x :: xs) (y :: ys) = if x = y then lts xs ys else lt x y) : LtOk (fun xs : List α => D.lst (xs.map f)) (n + 1) (fun xs => PyData.list (xs.map g)) lts := by
  have pyL : ∀ xs : List α, PyRL (xs.map f) (xs.map g) := fun xs => by
    induction xs with
    | nil => exact .nil
    | cons x xs ih => exact .cons (h.py x) ih
  have depL : ∀ xs : List α, PyData.depthAll (xs.map g) ≤ n := fun xs => by
    induction xs with
    | nil => simp [PyData.depthAll]
    | cons x xs ih =>
      have h1 := h.dep x
      simp only [List.map_cons, PyData.depthAll]
      omega
  have alL : ∀ xs ys : List α, PySem.W.alikeAll (xs.map g) (ys.map g) = true := fun xs => by
    induction xs with
    | nil => intro ys; simp [PySem.W.alikeAll]
    | cons x xs ih =>
      intro ys
      cases ys with
      | nil => simp [PySem.W.alikeAll]
      | cons y ys => simp only [List.map_cons, PySem.W.alikeAll, h.al x y, ih ys, Bool.and_self]
  refine ⟨fun xs => .lst (pyL xs), fun xs => by have := depL xs; simp only [PyData.depth]; omega, fun xs ys => by simpa [PySem.W.alike] using alL xs ys, fun xs => by simp, fun xs => ?_⟩
  induction xs with
  | nil =>
    intro ys
    rw [PySem.W.dataLt_list, e0]
    cases ys with
    | nil => simp [PySem.W.keyToksAll]; exact PyProof.Rows.lex_irrefl _
    | cons y ys =>
      simp only [List.map_nil, List.map_cons, PySem.W.keyToksAll, List.isEmpty_cons, Bool.not_false]
      rw [PyProof.Rows.lex_cons]
      simp [PyProof.Rows.itemOrd, PyProof.Rows.itemLt]
  | cons x xs ih =>
    intro ys
    cases ys with
    | nil =>
      rw [PySem.W.dataLt_list, e1]
      simp only [List.map_nil, List.map_cons, PySem.W.keyToksAll]
      rw [PyProof.Rows.lex_cons]
      simp [PyProof.Rows.itemOrd, PyProof.Rows.itemLt]
    | cons y ys =>
      rw [PySem.W.dataLt_list, e2]
      simp only [List.map_cons]
      rw [PySem.W.dataLt_cons (h.al x y), he]
      by_cases q : x = y
      · rw [if_pos (by simpa using q), if_pos q]
        have := ih ys
        rw [PySem.W.dataLt_list] at this
        exact this
      · rw [if_neg (by simpa using q), if_neg q, h.lt]
end
def ltRow (p q : Row) : Bool := decide (p.1 < q.1) || (decide (p.1 = q.1) && (decide (p.2.1 < q.2.1) || (decide (p.2.1 = q.2.1) && decide (p.2.2 < q.2.2))))
def ltRows : List Row → List Row → Bool
  | [], ys => !ys.isEmpty
  | _ :: _, [] => false
  | x :: xs, y :: ys => if x = y then ltRows xs ys else ltRow x y
theorem LtOk.row : LtOk dRow 1 (fun p : Row => PyData.tuple [.int p.1, .int p.2.1, .int p.2.2]) ltRow where
  py := EqOk.row.py
  dep := EqOk.row.dep
  al := fun x y => by simp [PySem.W.alike, PySem.W.alikeAll]
  nn := fun x => by simp
  lt := fun x y => by
    rw [PySem.W.dataLt_tuple, PySem.W.dataLt_cons (by simp [PySem.W.alike])]
    unfold ltRow
    have ei : ∀ a b : Int, PyData.eqv (.int a) (.int b) = decide (a = b) := fun a b => EqOk.int.eqv a b
    have nil : ∀ l : List PyData, PyProof.Rows.lexLt PyProof.Rows.itemOrd (PySem.W.keyToksAll l) (PySem.W.keyToksAll l) = false := fun l => PyProof.Rows.lex_irrefl _
    rw [ei, PySem.W.dataLt_cons (by simp [PySem.W.alike]), ei, PySem.W.dataLt_cons (by simp [PySem.W.alike]), ei, nil, PySem.W.dataLt_int, PySem.W.dataLt_int, PySem.W.dataLt_int]
    by_cases h1 : x.1 = y.1
    · by_cases h2 : x.2.1 = y.2.1
      · by_cases h3 : x.2.2 = y.2.2
        · simp [h1, h2, h3]
        · simp [h1, h2, h3]
      · simp [h1, h2]
    · simp [h1]
theorem LtOk.rows : LtOk (dL dRow) 2 (fun xs : List Row => PyData.list (xs.map fun p : Row => PyData.tuple [.int p.1, .int p.2.1, .int p.2.2])) ltRows :=
  LtOk.row.lst EqOk.row.eqv (fun _ => rfl) (fun _ _ => rfl) (fun _ _ _ _ => rfl)
def maxL (ns : List Int) : Int := ns.foldl max (ns.headD 0)
def minL (ns : List Int) : Int := ns.foldl min (ns.headD 0)
theorem foldmax : ∀ (ns : List Int) (a : Int), (ns.foldl max a = a ∨ ns.foldl max a ∈ ns) ∧ a ≤ ns.foldl max a ∧ ∀ x ∈ ns, x ≤ ns.foldl max a
  | [], a => ⟨.inl rfl, Int.le_refl _, fun _ h => by cases h⟩
  | n :: ns, a => by
    obtain ⟨h1, h2, h3⟩ := foldmax ns (max a n)
    refine ⟨?_, by show a ≤ ns.foldl max (max a n); omega, fun x hx => ?_⟩
    · show ns.foldl max (max a n) = a ∨ ns.foldl max (max a n) ∈ n :: ns
      rcases h1 with h1 | h1
      · rw [h1]
        by_cases q : a ≤ n
        · right; rw [show max a n = n by omega]; exact List.mem_cons_self
        · left; omega
      · exact .inr (List.mem_cons_of_mem _ h1)
    · show x ≤ ns.foldl max (max a n)
      rcases List.mem_cons.mp hx with rfl | hx
      · omega
      · exact h3 x hx
theorem foldmin : ∀ (ns : List Int) (a : Int), (ns.foldl min a = a ∨ ns.foldl min a ∈ ns) ∧ ns.foldl min a ≤ a ∧ ∀ x ∈ ns, ns.foldl min a ≤ x
  | [], a => ⟨.inl rfl, Int.le_refl _, fun _ h => by cases h⟩
  | n :: ns, a => by
    obtain ⟨h1, h2, h3⟩ := foldmin ns (min a n)
    refine ⟨?_, by show ns.foldl min (min a n) ≤ a; omega, fun x hx => ?_⟩
    · show ns.foldl min (min a n) = a ∨ ns.foldl min (min a n) ∈ n :: ns
      rcases h1 with h1 | h1
      · rw [h1]
        by_cases q : a ≤ n
        · left; omega
        · right; rw [show min a n = n by omega]; exact List.mem_cons_self
      · exact .inr (List.mem_cons_of_mem _ h1)
    · show ns.foldl min (min a n) ≤ x
      rcases List.mem_cons.mp hx with rfl | hx
      · omega
      · exact h3 x hx
theorem maxL_spec {ns : List Int} (h : 0 < ns.length) : maxL ns ∈ ns ∧ ∀ x ∈ ns, x ≤ maxL ns := by
  cases ns with
  | nil => cases h
  | cons n ns =>
    obtain ⟨h1, h2, h3⟩ := foldmax (n :: ns) n
    refine ⟨?_, h3⟩
    rcases h1 with h1 | h1
    · show (n :: ns).foldl max n ∈ _
      rw [h1]; exact List.mem_cons_self
    · exact h1
theorem minL_spec {ns : List Int} (h : 0 < ns.length) : minL ns ∈ ns ∧ ∀ x ∈ ns, minL ns ≤ x := by
  cases ns with
  | nil => cases h
  | cons n ns =>
    obtain ⟨h1, h2, h3⟩ := foldmin (n :: ns) n
    refine ⟨?_, h3⟩
    rcases h1 with h1 | h1
    · show (n :: ns).foldl min n ∈ _
      rw [h1]; exact List.mem_cons_self
    · exact h1
section
variable {B : Gd} {O : Om} {d : D}
theorem rc_max {ns : List Int} {K : PySem.W.Frag} (w : Vw (B.L ++ O) d (ns.map fun x => D.int x)) (h : 0 < ns.length) : RC K B O (rMax K) [d] (.int (maxL ns)) := fun xs H Q m r k => by
  obtain ⟨a, vs, e, q, rl⟩ := vw_rp w m r
  have ev := rl.ints
  subst ev
  refine ⟨a, ns, e, q, h, fun z h1 h2 => ?_⟩
  obtain ⟨m1, m2⟩ := maxL_spec h
  have : z = maxL ns := by have := h2 _ m1; have := m2 z h1; omega
  rw [this]; exact k _ H (Same.refl H) (.int _)
theorem rc_min {ns : List Int} {K : PySem.W.Frag} (w : Vw (B.L ++ O) d (ns.map fun x => D.int x)) (h : 0 < ns.length) : RC K B O (rMin K) [d] (.int (minL ns)) := fun xs H Q m r k => by
  obtain ⟨a, vs, e, q, rl⟩ := vw_rp w m r
  have ev := rl.ints
  subst ev
  refine ⟨a, ns, e, q, h, fun z h1 h2 => ?_⟩
  obtain ⟨m1, m2⟩ := minL_spec h
  have : z = minL ns := by have := h2 _ m1; have := m2 z h1; omega
  rw [this]; exact k _ H (Same.refl H) (.int _)
end
end DL

set_option Elab.async false
set_option linter.all false
set_option maxRecDepth 100000
set_option maxHeartbeats 4000000
namespace DL
open PySem PySem.Spec PyProof.Rows L2
section
variable {X : Cx} {B : Gd} {ρ ρ' : List (Option D)} {O O' O1 O2 : Om} {a b c e o : Expr} {d d0 : D} {pos pos' apos : Pos} {k : Nat} {t : Addr} {kvs : List (Key × D)} {z : Str}
variable {α : Type} {E : α → D} {m : List (Str × α)} {ol : Obj} {kv : List (Key × V)}
end
end DL

set_option Elab.async false
set_option linter.all false
set_option maxRecDepth 100000
set_option maxHeartbeats 4000000
namespace DL
open PySem PySem.Spec PyProof.Rows L2
section
variable {X : Cx} {B : Gd} {ρ ρ' : List (Option D)} {L O O' O1 O2 : Om} {a b c e o : Expr} {d d0 : D} {ds : List D} {pos pos' apos : Pos} {k : Nat} {t : Addr} {kvs : List (Key × D)} {z : Str} {ol : Obj} {kv : List (Key × V)}
end
section
variable {P : Program} {w : World} {K : PySem.W.Frag} {mg : Str → Option Value} {base : Heap}
end
section
variable {X : Cx} {B : Gd} {ρ ρ' : List (Option D)} {L O O' O1 O2 : Om} {a b c e o : Expr} {d d0 : D} {ds : List D} {pos pos' apos : Pos} {k : Nat} {t : Addr} {kvs : List (Key × D)} {z : Str} {st : Stmt} {S : Type}
inductive PutS : Om → Addr → Addr → M → M → M → M → Om → Prop where
  | head {q t : Addr} {m1 m2 m3 m4 : M} {R : Om} : PutS ((q, m1) :: (t, m2) :: R) q t m1 m2 m3 m4 ((q, m3) :: (t, m4) :: R)
  | tail {q t : Addr} {m1 m2 m3 m4 : M} {R R' : Om} {e : Addr × M} : PutS R q t m1 m2 m3 m4 R' → PutS (e :: R) q t m1 m2 m3 m4 (e :: R')
theorem PutS.mem {q t : Addr} {m1 m2 m3 m4 : M} : ∀ {O O' : Om}, PutS O q t m1 m2 m3 m4 O' → (q, m1) ∈ O ∧ (t, m2) ∈ O
  | _, _, .head => ⟨by simp, by simp⟩
  | _, _, .tail h => ⟨List.mem_cons_of_mem _ h.mem.1, List.mem_cons_of_mem _ h.mem.2⟩
theorem PutS.split {q t : Addr} {m1 m2 : M} : ∀ {O : Om} {m3 m4 : M} {O' : Om}, PutS O q t m1 m2 m3 m4 O' → ∃ R, O.Perm ([(q, m1), (t, m2)] ++ R) ∧ ([(q, m3), (t, m4)] ++ R).Perm O'
  | _, _, _, _, .head => ⟨_, .refl _, .refl _⟩
  | _, _, _, _, .tail (e := e) h => by
    obtain ⟨R, h1, h2⟩ := h.split
    refine ⟨e :: R, (h1.cons e).trans ?_, List.Perm.trans ?_ (h2.cons e)⟩
    · exact (List.perm_middle (l₁ := [(q, m1), (t, m2)])).symm
    · exact List.perm_middle (l₁ := _)
end
end DL

set_option Elab.async false
set_option linter.all false
set_option maxRecDepth 100000
set_option maxHeartbeats 4000000
namespace DL
open PySem PySem.Spec PyProof.Rows L2
section
variable {P : Program} {w : World} {K : PySem.W.Frag} {mg : Str → Option Value} {base : Heap}
end
section
variable {X : Cx} {B : Gd} {ρ ρ' : List (Option D)} {O O' O1 O1' R O'' : Om} {a b c e o : Expr} {es : List Expr} {d d0 d1 d2 d3 d' : D} {ds ds' fs : List D} {pos pos' p apos spos : Pos} {C f : Addr} {k n : Nat} {x kw : Str} {ns : List Str} {st0 h₀ : Stmt} {ss rest body s1 s2 : List Stmt}
variable {α β γ S : Type} {E : β → D} {A : α → AE} {Z : D → Om → Prop}
end
end DL

set_option Elab.async false
set_option linter.all false
set_option maxRecDepth 100000
set_option maxHeartbeats 4000000
namespace DL
open PySem PySem.Spec PyProof.Rows L2
section
variable {X : Cx} {CX : CXT} {k : Nat} {C g : Addr} {sp : Sp} {E : XK} {o i value : Expr} {td ty tv : TE} {pos pos' : Pos}
end
section
variable {X : Cx} {B : Gd} {ρ ρ' : List (Option D)} {O O' O1 O1' R O'' : Om} {a b c e o : Expr} {es : List Expr} {d d0 d1 d2 d3 d' : D} {ds ds' fs es' : List D} {pos pos' p apos spos : Pos} {C f : Addr} {k n : Nat} {x kw : Str} {ns : List Str} {st0 h₀ : Stmt} {ss rest body s1 s2 : List Stmt}
variable {α β γ S : Type} {E : β → D} {A : α → AE} {Z : D → Om → Prop} {t q : Addr} {z : Str}
section
variable {E : β → D} {mm : List (Str × β)} {v : β}
end
end
end DL

set_option Elab.async false
set_option linter.all false
set_option maxRecDepth 100000
set_option maxHeartbeats 4000000
namespace L2
open PySem PySem.Spec PyProof.Rows ItX
open Sem (wp)
section
variable {X : Cx} {C f fi p : Addr} {fl : Str} {k ki : Nat} {pins : List (Addr × Obj)} {σ : L2.St} {H : Hp} {s : Shared}
end
end L2
namespace DL
open PySem PySem.Spec PyProof.Rows L2
section
variable {X : Cx} {B : Gd} {ρ : List (Option D)} {O : Om} {e : Expr} {d : D} {ds fs : List D} {pos p : Pos} {C f fi : Addr} {k ki i : Nat} {ns : List Str} {fl : Str} {t : Addr} {kvs : List (Key × D)}
end
end DL

set_option Elab.async false
set_option linter.all false
set_option maxRecDepth 100000
set_option maxHeartbeats 4000000
namespace DL
open PySem PySem.Spec PyProof.Rows L2
section
variable {X : Cx} {B : Gd} {ρ ρ' : List (Option D)} {O O' O1 O2 : Om} {a b c e o : Expr} {d d0 d1 : D} {ds fs : List D} {pos pos' p apos cpos : Pos} {k ki i : Nat} {t q : Addr} {z : Str} {C f fi : Addr} {ns : List Str} {fl : Str} {rest : List Stmt}
variable {α β γ : Type} {E : β → D} {A : α → AE} {mm : List (Str × β)}
end
section
variable {P : Program} {w : World} {K : PySem.W.Frag} {mg : Str → Option Value} {base : Heap}
end
end DL

set_option Elab.async false
set_option linter.all false
set_option maxRecDepth 100000
set_option maxHeartbeats 4000000
namespace L2
open PySem PySem.Spec PyProof.Rows
section
variable {X : Cx} {CX : CXT} {k : Nat} {f C g : Addr} {sp : Sp} {o i value : Expr} {td ty tv : TE} {pos pos' : Pos}
end
end L2
namespace DL
open PySem PySem.Spec PyProof.Rows L2
section
variable {X : Cx} {B : Gd} {ρ ρ' : List (Option D)} {O O' O1 O2 : Om} {t : Addr} {kvs : List (Key × D)} {st : Stmt} {S L R : Type}
end
section
variable {X : Cx} {B : Gd} {ρ ρ' : List (Option D)} {O O' O1 O1' R O'' : Om} {a b c e o : Expr} {es : List Expr} {d d0 d1 d2 d3 d' : D} {ds ds' fs es' : List D} {pos pos' p apos spos : Pos} {C C0 f : Addr} {k : Nat} {x n : Str} {ns : List Str} {rest : List Stmt}
variable {α β γ S S' L R0 : Type} {E : β → D} {q t : Addr} {ce : ErrTab} {st : S' → Om}
end
end DL

set_option Elab.async false
set_option linter.all false
set_option maxRecDepth 100000
set_option maxHeartbeats 4000000
namespace DL
open PySem PySem.Spec PyProof.Rows L2
inductive AnsV where
  | non | row (r : Row) | str (z : Str)
deriving DecidableEq, Inhabited
@[reducible] def eAns : AnsV → D
  | .non => .non
  | .row r => dRow r
  | .str z => .str z
@[reducible] def gAns : AnsV → PyData
  | .non => .none
  | .row p => .tuple [.int p.1, .int p.2.1, .int p.2.2]
  | .str z => .str z
section
variable {X : Cx} {B : Gd} {ρ ρ' : List (Option D)} {O O' O1 O1' R O'' : Om} {a b c e o : Expr} {es : List Expr} {d d0 d1 d2 d3 d' : D} {ds ds' fs es' : List D} {pos pos' p apos spos : Pos} {C C0 f : Addr} {k n : Nat} {x kw : Str} {ns : List Str} {rest : List Stmt}
end
section
variable {P : Program} {w : World} {K : PySem.W.Frag} {mg : Str → Option Value} {base : Heap}
end
end DL

set_option Elab.async false
set_option linter.all false
set_option maxRecDepth 100000
set_option maxHeartbeats 4000000
namespace DL
open PySem PySem.Spec PyProof.Rows L2
section
variable {X : Cx} {B : Gd} {ρ ρ' : List (Option D)} {O O' O1 O1' R O'' : Om} {a b c e o : Expr} {es : List Expr} {d d0 d1 d2 d3 d' : D} {pos pos' p apos spos : Pos} {C f : Addr} {k n : Nat} {x : Str} {st : S → Om} {α β γ S : Type} {E : β → D}
end
end DL

set_option Elab.async false
set_option linter.all false
set_option maxRecDepth 100000
set_option maxHeartbeats 4000000
namespace DL
open PySem PySem.Spec PyProof.Rows L2
section
variable {X : Cx} {B : Gd} {ρ ρ' : List (Option D)} {O O' O1 O1' R O'' : Om} {a b c e o : Expr} {es : List Expr} {d d0 d1 d2 d3 d' : D} {ds ds' fs fs1 fs2 : List D} {pos pos' pos2 p apos spos : Pos} {C f : Addr} {k n : Nat} {x : Str} {α β γ S : Type} {E : β → D} {rest : List Stmt} {ns : List Str}
end
end DL

set_option Elab.async false
set_option linter.all false
set_option maxRecDepth 100000
set_option maxHeartbeats 4000000
namespace DL
open PySem PySem.Spec PyProof.Rows L2
open Classical in
section
variable {K : PySem.W.Frag} {F : Addr → Bool} {H : Hp}
end
section
variable {K : PySem.W.Frag} {F F' : Addr → Bool} {H : Hp} {p : Addr} {m : M} {ws : List V} (hF : ∀ b, F' b = false → F b = false) (hp : H p = some (.lst ws))
include hF hp
end
section
variable {X : Cx} {B : Gd} {ρ ρ' : List (Option D)} {O O' : Om} {a b c e o : Expr} {es : List Expr} {d : D} {ds : List D} {pos pos' p : Pos} {rest : List Stmt} {x : Str} {k : Nat}
end
end DL

set_option Elab.async false
set_option linter.all false
set_option maxRecDepth 100000
set_option maxHeartbeats 2000000
namespace DL
open PySem PySem.Spec PyProof.Rows L2
section
variable {X : Cx} {B : Gd} {ρ : List (Option D)} {O : Om} {C : Addr} {ds ds' fs : List D} {d : D} {k : Nat} {o e : Expr} {es : List Expr} {apos pos : Pos} {σ : L2.St} {H H1 : Hp} {q dx : Addr} {fv : List (Str × V)} {ns : List Str}
end
end DL

set_option Elab.async false
set_option linter.all false
set_option maxRecDepth 100000
set_option maxHeartbeats 4000000
namespace Psn
open PySem GenW
open Sem (wp)
def psnF (F : Frame) : Frame := .ret (fun _ => .unsupported "") none false [] F.where_.1 F.where_.2 []
def psnG : GenState → GenState
  | .suspended _ l c p fs cl => .suspended (fun _ => .unsupported "") l c p (fs.map psnF) cl
  | x => x
def sleeps : GenState → Bool
  | .suspended .. => true
  | _ => false
theorem psn_seen (x : GenState) : (psnG x).seen = x.seen := by
  cases x with
  | suspended k l c p fs cl =>
    show (GenStatus.suspended, some ((c, p) :: (fs.map psnF).map Frame.where_)) = (GenStatus.suspended, some ((c, p) :: fs.map Frame.where_))
    rw [List.map_map]
    rfl
  | _ => rfl
theorem psn_sleeps (x : GenState) : sleeps (psnG x) = sleeps x := by cases x <;> rfl
theorem psn_bare (x : GenState) : (psnG x).bare = x.bare := by cases x <;> rfl
theorem psn_split (fs : List Frame) : splitAtGen (fs.map psnF) = none := by
  induction fs with
  | nil => rfl
  | cons F fs ih =>
    show (splitAtGen (fs.map psnF)).map _ = none
    rw [ih]; rfl
theorem split_app {fs gs : List Frame} (h1 : splitAtGen fs = none) (h2 : splitAtGen gs = none) : splitAtGen (fs ++ gs) = none := by
  induction fs with
  | nil => exact h2
  | cons F fs ih =>
    cases F with
    | gen => cases h1
    | ret k h g l c p kp =>
      have h1 : (splitAtGen fs).map _ = none := h1
      show (splitAtGen (fs ++ gs)).map _ = none
      rw [ih (Option.map_eq_none_iff.mp h1)]; rfl
theorem split_tail {F : Frame} {fs : List Frame} (h : splitAtGen (F :: fs) = none) : splitAtGen fs = none := by
  cases F with
  | gen => cases h
  | ret k hh g l c p kp =>
    have h : (splitAtGen fs).map _ = none := h
    exact Option.map_eq_none_iff.mp h
def GfS (x : GenState) : Prop := ∀ k l c p fs cl, x = .suspended k l c p fs cl → splitAtGen fs = none
def GfE : End → Prop
  | .ret _ => True
  | .susp _ _ _ _ _ _ fs => splitAtGen fs = none
theorem GfE.st {e : End} (h : GfE e) : GfS e.genState := by
  cases e with
  | ret r => intro k l c p fs cl q; cases q
  | susp v g l k c p fs => intro k' l' c' p' fs' cl q; cases q; exact h
structure Rel (G A B : Array GenState) : Prop where
  sz : A.size = B.size
  le : G.size ≤ B.size
  at_ : ∀ g : Nat, (∃ x, G[g]? = some x ∧ sleeps x = true ∧ A[g]? = some x ∧ B[g]? = some (psnG x)) ∨ ((∀ x, G[g]? = some x → sleeps x = false) ∧ A[g]? = B[g]?)
  gf : ∀ (g : Nat) (x : GenState), B[g]? = some x → GfS x
theorem psn_gf (x : GenState) : sleeps x = true → GfS (psnG x) := by
  intro h k l c p fs cl e
  cases x with
  | suspended k' l' c' p' fs' cl' => cases e; exact psn_split _
  | _ => cases h
theorem Rel.start (G : Array GenState) : Rel G G (G.map psnG) where
  sz := by simp
  le := by simp
  at_ := fun g => by
    rw [Array.getElem?_map]
    cases q : G[g]? with
    | none => exact .inr ⟨fun x h => (by cases h), rfl⟩
    | some x =>
      cases w : sleeps x with
      | true => exact .inl ⟨x, rfl, w, rfl, rfl⟩
      | false =>
        refine .inr ⟨fun y h => by cases h; exact w, ?_⟩
        cases x with
        | suspended => cases w
        | _ => rfl
  gf := fun g x h => by
    rw [Array.getElem?_map] at h
    cases q : G[g]? with
    | none => rw [q] at h; cases h
    | some y =>
      rw [q] at h
      obtain rfl : psnG y = x := Option.some.inj h
      cases y with
      | suspended k l c p fs cl => exact psn_gf _ rfl
      | fresh => intro k l c p fs cl e; cases e
      | running => intro k l c p fs cl e; cases e
      | finished => intro k l c p fs cl e; cases e
theorem Rel.set {G A B : Array GenState} (h : Rel G A B) {g : Nat} {x : GenState} (hn : ∀ y, G[g]? = some y → sleeps y = false) (hx : GfS x) : Rel G (A.setIfInBounds g x) (B.setIfInBounds g x) where
  sz := by simp [h.sz]
  le := by simp [h.le]
  at_ := fun i => by
    by_cases e : i = g
    · subst e
      refine .inr ⟨hn, ?_⟩
      rw [Array.getElem?_setIfInBounds, Array.getElem?_setIfInBounds, h.sz, if_pos rfl, if_pos rfl]
    · rw [Array.getElem?_setIfInBounds_ne (Ne.symm e), Array.getElem?_setIfInBounds_ne (Ne.symm e)]
      exact h.at_ i
  gf := fun i y hy => by
    by_cases e : i = g
    · subst e
      rw [Array.getElem?_setIfInBounds] at hy
      simp only [if_true] at hy
      split at hy
      · cases hy; exact hx
      · cases hy
    · rw [Array.getElem?_setIfInBounds_ne (Ne.symm e)] at hy
      exact h.gf i y hy
theorem Rel.push {G A B : Array GenState} (h : Rel G A B) {x : GenState} (hx : GfS x) : Rel G (A.push x) (B.push x) where
  sz := by simp [h.sz]
  le := by have := h.le; simp; omega
  at_ := fun i => by
    rw [Array.getElem?_push, Array.getElem?_push, h.sz]
    by_cases e : i = B.size
    · subst e
      refine .inr ⟨fun y hy => ?_, by simp⟩
      have := (Array.getElem?_eq_some_iff.mp hy).1
      have := h.le
      omega
    · simp only [if_neg e]
      exact h.at_ i
  gf := fun i y hy => by
    rw [Array.getElem?_push] at hy
    split at hy
    · cases hy; exact hx
    · exact h.gf i y hy
theorem Rel.live {G A B : Array GenState} (h : Rel G A B) {g : Nat} {x : GenState} (hg : B[g]? = some x) (hx : sleeps x = false) : (∀ y, G[g]? = some y → sleeps y = false) ∧ A[g]? = some x := by
  rcases h.at_ g with ⟨y, _, h2, _, h4⟩ | ⟨h1, h2⟩
  · rw [hg] at h4
    have : x = psnG y := Option.some.inj h4
    rw [this, psn_sleeps, h2] at hx; cases hx
  · exact ⟨h1, h2.trans hg⟩
theorem no0 {M : Model} {Γ : Ctx} {p : Pos} {w : String} {s s' : Shared} {e : End} (h : Runs M Γ p (.unsupported w) [] s e s') : False := by cases h
theorem no1 {M : Model} {Γ : Ctx} {p : Pos} {w : String} {fs : List Frame} {s s' : Shared} {e : End} (h : Runs M Γ p (.unsupported w) fs s e s') : False := by
  cases h with
  | segRet h1 _ => exact no0 h1
  | segGen h1 _ => exact no0 h1
  | segSuspOut _ h1 => exact no0 h1
  | segSuspGen _ h1 _ _ => exact no0 h1
theorem Rel.woken {M : Model} {Γ : Ctx} {G A B : Array GenState} (h : Rel G A B) {g : Nat} {r : Resume} {k l c p fs cl} {p' : Pos} {s s' : Shared} {e : End} (hg : B[g]? = some (.suspended k l c p fs cl)) (hr : Runs M Γ p' (k r) fs s e s') : (∀ y, G[g]? = some y → sleeps y = false) ∧ A[g]? = some (.suspended k l c p fs cl) := by
  rcases h.at_ g with ⟨y, _, h2, _, h4⟩ | ⟨h1, h2⟩
  · rw [hg] at h4
    have h4 : GenState.suspended k l c p fs cl = psnG y := Option.some.inj h4
    cases y with
    | suspended k' l' c' p'' fs' cl' =>
      cases h4
      exact (no1 hr).elim
    | _ => cases h4
  · exact ⟨h1, h2.trans hg⟩
theorem gfS_run : GfS .running := fun _ _ _ _ _ _ e => by cases e
theorem gfS_fin : GfS .finished := fun _ _ _ _ _ _ e => by cases e
theorem gfS_fresh (c : Code) : GfS (.fresh c) := fun _ _ _ _ _ _ e => by cases e
theorem runs_psn {G : Array GenState} {M : Model} {Γ : Ctx} {p : Pos} {t : Sem PySem.Fin} {fs : List Frame} {q q' : Shared} {e : End} (h : Runs M Γ p t fs q e q') :
    splitAtGen fs = none → ∀ A, Rel G A q.gens → ∃ A', Runs M Γ p t fs { q with gens := A } e { q' with gens := A' } ∧ Rel G A' q'.gens ∧ GfE e := by
  induction h with
  | done => intro hf A hR; exact ⟨A, .done, hR, trivial⟩
  | raise => intro hf A hR; exact ⟨A, .raise, hR, trivial⟩
  | again hq _ ih => intro hf A hR; obtain ⟨A', r, h⟩ := ih hf A hR; exact ⟨A', .again hq r, h⟩
  | rule _ ih => intro hf A hR; obtain ⟨A', r, h⟩ := ih hf A hR; exact ⟨A', .rule r, h⟩
  | «at» _ ih => intro hf A hR; obtain ⟨A', r, h⟩ := ih hf A hR; exact ⟨A', .at r, h⟩
  | load ho _ ih => intro hf A hR; obtain ⟨A', r, h⟩ := ih hf A hR; exact ⟨A', .load ho r, h⟩
  | update ho _ ih => intro hf A hR; obtain ⟨A', r, h⟩ := ih hf A hR; exact ⟨A', .update ho r, h⟩
  | loadIfAlive _ ih => intro hf A hR; obtain ⟨A', r, h⟩ := ih hf A hR; exact ⟨A', .loadIfAlive r, h⟩
  | point _ ih => intro hf A hR; obtain ⟨A', r, h⟩ := ih hf A hR; exact ⟨A', .point r, h⟩
  | alloc _ ih => intro hf A hR; obtain ⟨A', r, h⟩ := ih hf A hR; exact ⟨A', .alloc r, h⟩
  | fresh _ ih => intro hf A hR; obtain ⟨A', r, h⟩ := ih hf A hR; exact ⟨A', .fresh r, h⟩
  | ask _ ih => intro hf A hR; obtain ⟨A', r, h⟩ := ih hf A hR; exact ⟨A', .ask r, h⟩
  | choose hn _ ih => intro hf A hR; obtain ⟨A', r, h⟩ := ih hf A hR; exact ⟨A', .choose hn r, h⟩
  | os _ ih => intro hf A hR; obtain ⟨A', r, h⟩ := ih hf A hR; exact ⟨A', .os r, h⟩
  | handled _ ih => intro hf A hR; obtain ⟨A', r, h⟩ := ih hf A hR; exact ⟨A', .handled r, h⟩
  | stack _ ih => intro hf A hR; obtain ⟨A', r, h⟩ := ih hf A hR; exact ⟨A', .stack r, h⟩
  | thread _ ih => intro hf A hR; obtain ⟨A', r, h⟩ := ih hf A hR; exact ⟨A', .thread r, h⟩
  | genState hg _ ih =>
    intro hf A hR
    obtain ⟨A', r, h⟩ := ih hf A hR
    rcases hR.at_ _ with ⟨x, _, _, h3, h4⟩ | ⟨_, h2⟩
    · rw [hg] at h4
      obtain rfl := Option.some.inj h4
      rw [psn_seen] at r
      exact ⟨A', .genState h3 r, h⟩
    · exact ⟨A', .genState (h2.trans hg) r, h⟩
  | newGen _ ih =>
    intro hf A hR
    obtain ⟨A', r, h⟩ := ih hf _ (hR.push (gfS_fresh _))
    refine ⟨A', .newGen ?_, h⟩
    rw [show ({ q with gens := A } : Shared).gens.size = _ from hR.sz]
    exact r
  | call _ _ ih1 ih2 =>
    intro hf A hR
    obtain ⟨A1, r1, h1, _⟩ := ih1 rfl A hR
    obtain ⟨A2, r2, h2⟩ := ih2 hf A1 h1
    exact ⟨A2, .call r1 r2, h2⟩
  | callSusp _ ih =>
    intro hf A hR
    obtain ⟨A1, r1, h1, h2⟩ := ih rfl A hR
    exact ⟨A1, .callSusp r1, h1, split_app h2 rfl⟩
  | yield => intro hf A hR; exact ⟨A, .yield, hR, rfl⟩
  | resumeFresh hg _ hq _ ih1 ih2 =>
    intro hf A hR
    obtain ⟨hn, ha⟩ := hR.live hg rfl
    obtain ⟨A1, r1, h1, h1e⟩ := ih1 rfl _ (hR.set hn gfS_run)
    obtain ⟨A2, r2, h2⟩ := ih2 hf _ (h1.set hn h1e.st)
    exact ⟨A2, .resumeFresh ha r1 hq r2, h2⟩
  | resumeSuspended hg hr hq _ ih1 ih2 =>
    intro hf A hR
    obtain ⟨hn, ha⟩ := hR.woken hg hr
    obtain ⟨A1, r1, h1, h1e⟩ := ih1 (hR.gf _ _ hg _ _ _ _ _ _ rfl) _ (hR.set hn gfS_run)
    obtain ⟨A2, r2, h2⟩ := ih2 hf _ (h1.set hn h1e.st)
    exact ⟨A2, .resumeSuspended ha r1 hq r2, h2⟩
  | resumeJustStarted hg hv _ ih =>
    intro hf A hR
    obtain ⟨A', r, h⟩ := ih hf A hR
    exact ⟨A', .resumeJustStarted (hR.live hg rfl).2 hv r, h⟩
  | resumeThrowFresh hg _ ih =>
    intro hf A hR
    obtain ⟨hn, ha⟩ := hR.live hg rfl
    obtain ⟨A', r, h⟩ := ih hf _ (hR.set hn gfS_fin)
    exact ⟨A', .resumeThrowFresh ha r, h⟩
  | resumeRunning hg _ ih =>
    intro hf A hR
    obtain ⟨A', r, h⟩ := ih hf A hR
    exact ⟨A', .resumeRunning (hR.live hg rfl).2 r, h⟩
  | resumeFinished hg _ ih =>
    intro hf A hR
    obtain ⟨A', r, h⟩ := ih hf A hR
    exact ⟨A', .resumeFinished (hR.live hg rfl).2 r, h⟩
  | segRet _ _ ih1 ih2 =>
    intro hf A hR
    obtain ⟨A1, r1, h1, _⟩ := ih1 rfl A hR
    obtain ⟨A2, r2, h2⟩ := ih2 (split_tail hf) A1 h1
    exact ⟨A2, .segRet r1 r2, h2⟩
  | segGen => intro hf; cases hf
  | segSuspOut hs _ ih =>
    intro hf A hR
    obtain ⟨A1, r1, h1, h2⟩ := ih rfl A hR
    exact ⟨A1, .segSuspOut hs r1, h1, split_app h2 hs⟩
  | segSuspGen hs => intro hf; rw [hf] at hs; cases hs
theorem wakes_psn {G A : Array GenState} {M : Model} {Γ : Ctx} {p : Pos} {g : Nat} {r : Resume} {q q' : Shared} {res : GenResult} (h : Wakes M Γ p g r q res q') (hR : Rel G A q.gens) :
    ∃ A', Wakes M Γ p g r { q with gens := A } res { q' with gens := A' } ∧ Rel G A' q'.gens := by
  unfold Wakes at h
  split at h
  · exact h.elim
  · rename_i c hg
    obtain ⟨hn, ha⟩ := hR.live hg rfl
    have ha' : ({ q with gens := A } : Shared).gens[g]? = some (.fresh c) := ha
    split at h
    · obtain ⟨e₁, s₁, hr, hq, he, rfl⟩ := h
      obtain ⟨A1, r1, h1, h1e⟩ := runs_psn hr rfl _ (hR.set hn gfS_run)
      refine ⟨A1.setIfInBounds g e₁.genState, ?_, h1.set hn h1e.st⟩
      unfold Wakes
      rw [ha']
      exact ⟨e₁, _, r1, hq, he, rfl⟩
    · rename_i v hv
      obtain ⟨h1, rfl⟩ := h
      refine ⟨A, ?_, hR⟩
      unfold Wakes
      rw [ha']
      cases v with
      | none => exact absurd rfl hv
      | _ => exact ⟨h1, rfl⟩
    · obtain ⟨h1, rfl⟩ := h
      refine ⟨A.setIfInBounds g .finished, ?_, hR.set hn gfS_fin⟩
      unfold Wakes
      rw [ha']
      exact ⟨h1, rfl⟩
  · rename_i k l c p0 fs cl hg
    obtain ⟨e₁, s₁, hr, hq, he, rfl⟩ := h
    obtain ⟨hn, ha⟩ := hR.woken hg hr
    have ha' : ({ q with gens := A } : Shared).gens[g]? = some (.suspended k l c p0 fs cl) := ha
    obtain ⟨A1, r1, h1, h1e⟩ := runs_psn hr (hR.gf _ _ hg _ _ _ _ _ _ rfl) _ (hR.set hn gfS_run)
    refine ⟨A1.setIfInBounds g e₁.genState, ?_, h1.set hn h1e.st⟩
    unfold Wakes
    rw [ha']
    exact ⟨e₁, _, r1, hq, he, rfl⟩
  · rename_i hg
    have ha' : ({ q with gens := A } : Shared).gens[g]? = some .running := (hR.live hg rfl).2
    refine ⟨A, ?_, by rw [h.2]; exact hR⟩
    unfold Wakes
    rw [ha', h.2]
    exact ⟨h.1, rfl⟩
  · rename_i hg
    have ha' : ({ q with gens := A } : Shared).gens[g]? = some .finished := (hR.live hg rfl).2
    refine ⟨A, ?_, by rw [h.2]; exact hR⟩
    unfold Wakes
    rw [ha', h.2]
    exact ⟨h.1, rfl⟩
abbrev Un1 (G : Array GenState) (s' q' : Shared) : Prop := ∃ A', s' = { q' with gens := A' } ∧ Rel G A' q'.gens
theorem wp_psn {α : Type} (M : Model) (Γ : Ctx) (G : Array GenState) (t : Sem α) : ∀ (Q : α → Pos → Shared → Prop) (E : Value → Pos → Shared → Prop) (p : Pos) (q : Shared) (A : Array GenState), Rel G A q.gens → wp M Γ t Q E p q →
    wp M Γ t (fun a p' s' => ∃ q', Un1 G s' q' ∧ Q a p' q') (fun e p' s' => ∃ q', Un1 G s' q' ∧ E e p' q') p { q with gens := A } := by
  induction t with
  | pure a => intro Q E p q A hR h; exact ⟨q, ⟨A, rfl, hR⟩, h⟩
  | raise e => intro Q E p q A hR h; exact ⟨q, ⟨A, rfl, hR⟩, h⟩
  | unsupported _ => intro Q E p q A _ h; exact h
  | finish _ => intro Q E p q A _ h; exact h
  | rule _ k ih => intro Q E p q A hR h; exact ih () Q E p q A hR h
  | «at» p' k ih => intro Q E p q A hR h; exact ih () Q E p' q A hR h
  | load a _ k ih => intro Q E p q A hR h; obtain ⟨o, ho, h⟩ := h; exact ⟨o, ho, ih o Q E p q A hR h⟩
  | update a _ f k ih => intro Q E p q A hR h; exact ⟨h.1, ih () Q E p { q with heap := q.heap.update a f } A hR h.2⟩
  | loadIfAlive a k ih => intro Q E p q A hR h; exact ih _ Q E p q A hR h
  | point _ k ih => intro Q E p q A hR h; exact ih () Q E p q A hR h
  | register _ _ => intro Q E p q A _ h; exact h
  | alloc o k ih => intro Q E p q A hR h; exact ih q.heap.objs.size Q E p { q with heap := q.heap.push o } A hR h
  | fresh k ih => intro Q E p q A hR h; exact ih q.toks Q E p { q with toks := q.toks + 1 } A hR h
  | ask k ih => intro Q E p q A hR h; exact ih _ Q E p q A hR h
  | choose src m k ih => intro Q E p q A hR h; exact ⟨h.1, ih _ Q E p { q with drawn := q.drawn.bump src } A hR h.2⟩
  | os o _ k ih => intro Q E p q A hR h; exact ih _ Q E p { q with os := (Os.step q.os o).1 } A hR h
  | call c hd _ _ k ih =>
    intro Q E p q A hR h
    obtain ⟨r, s', hr, h⟩ := h
    obtain ⟨A1, r1, h1, _⟩ := runs_psn hr rfl A hR
    exact ⟨r, _, r1, ih r Q E p s' A1 h1 h⟩
  | handled own k ih => intro Q E p q A hR h; exact ih _ Q E p q A hR h
  | genState g k ih =>
    intro Q E p q A hR h
    obtain ⟨st, hs, h⟩ := h
    rcases hR.at_ g with ⟨x, _, _, h3, h4⟩ | ⟨_, h2⟩
    · rw [hs] at h4
      obtain rfl := Option.some.inj h4
      rw [psn_seen] at h
      exact ⟨x, h3, ih _ Q E p q A hR h⟩
    · exact ⟨st, h2.trans hs, ih _ Q E p q A hR h⟩
  | newGen c k ih =>
    intro Q E p q A hR h
    have := ih _ Q E p _ _ (hR.push (gfS_fresh c)) h
    show wp M Γ (k A.size) _ _ p _
    rw [hR.sz]
    exact this
  | resume g r _ k ih =>
    intro Q E p q A hR h
    obtain ⟨res, s', hw, h⟩ := h
    obtain ⟨A1, r1, h1⟩ := wakes_psn hw hR
    exact ⟨res, _, r1, ih res Q E p s' A1 h1 h⟩
  | yield _ _ _ _ => intro Q E p q A _ h; exact h
  | stack k ih => intro Q E p q A hR h; exact ih _ Q E p q A hR h
  | fork _ _ => intro Q E p q A _ h; exact h
  | thread k ih => intro Q E p q A hR h; exact ih _ Q E p q A hR h
  | await _ _ _ _ _ => intro Q E p q A _ h; exact h
structure Slept1 (s s' q' : Shared) : Prop where
  eq : s' = { q' with gens := s'.gens }
  sz : s.gens.size ≤ s'.gens.size
  keep : ∀ (g : Nat) (x : GenState), s.gens[g]? = some x → sleeps x = true → s'.gens[g]? = some x
  bare : PyProof.Rows.AllBare s.gens → PyProof.Rows.AllBare q'.gens → PyProof.Rows.AllBare s'.gens
theorem Rel.slept {s s' q' : Shared} (h : Un1 s.gens s' q') : Slept1 s s' q' := by
  obtain ⟨A, rfl, hR⟩ := h
  refine ⟨rfl, by show s.gens.size ≤ A.size; rw [hR.sz]; exact hR.le, fun g x hg hx => ?_, fun b1 b2 y hy => ?_⟩
  · rcases hR.at_ g with ⟨y, h1, _, h3, _⟩ | ⟨h1, _⟩
    · rw [hg] at h1; cases h1; exact h3
    · rw [h1 x hg] at hx; cases hx
  · obtain ⟨i, hi, e⟩ := Array.mem_iff_getElem.mp hy
    have e' : A[i]? = some y := by rw [Array.getElem?_eq_getElem hi, e]
    rcases hR.at_ i with ⟨z, h1, _, h3, _⟩ | ⟨_, h2⟩
    · rw [h3] at e'; cases e'; exact b1 _ (Array.mem_of_getElem? h1)
    · rw [h2] at e'; exact b2 _ (Array.mem_of_getElem? e')
theorem psn_allBare {G : Array GenState} (h : PyProof.Rows.AllBare G) : PyProof.Rows.AllBare (G.map psnG) := fun y hy => by
  obtain ⟨x, hx, rfl⟩ := Array.mem_map.mp hy
  rw [psn_bare]; exact h x hx
theorem wpAny_psn {α : Type} {M : Model} {A : Around} {s : Shared} {t : Sem α} {Q : α → Shared → Prop} {E : Value → Shared → Prop} (h : wpAny M A t Q E { s with gens := s.gens.map psnG }) :
    wpAny M A t (fun a s' => ∃ q', Slept1 s s' q' ∧ Q a q') (fun e s' => ∃ q', Slept1 s s' q' ∧ E e q') s := fun Γ p hΓ =>
  Sem.wp_mono M Γ t (fun _ _ _ ⟨q', u, x⟩ => ⟨q', Rel.slept u, x⟩) (fun _ _ _ ⟨q', u, x⟩ => ⟨q', Rel.slept u, x⟩) p s (wp_psn M Γ s.gens t _ _ p { s with gens := s.gens.map psnG } s.gens (Rel.start s.gens) (h Γ p hΓ))
end Psn

set_option Elab.async false
set_option linter.all false
set_option maxRecDepth 100000
set_option maxHeartbeats 4000000
namespace DL
open PySem PySem.Spec PyProof.Rows L2 GenW
structure Wake where
  F : Addr → Bool
  H : Hp
  s : Shared
def truncS (n : Nat) (s : Shared) : Shared := { s with heap := ⟨s.heap.objs.extract 0 n, s.heap.life⟩ }
def truncH (n : Nat) (H : Hp) : Hp := fun a => if a < n then H a else none
theorem ext_get {n : Nat} {xs : Array Obj} {a : Nat} : (xs.extract 0 n)[a]? = if a < n then xs[a]? else none := by
  rw [Array.getElem?_extract]
  by_cases h : a < n
  · rw [if_pos h]
    by_cases h2 : a < xs.size
    · rw [if_pos (by omega), Nat.zero_add]
    · rw [if_neg (by omega), Array.getElem?_eq_none (by omega)]
  · rw [if_neg h, if_neg (by omega)]
theorem trunc_get {n : Nat} {s : Shared} {a : Addr} {o : Obj} : (truncS n s).heap.get? a = some o ↔ a < n ∧ s.heap.get? a = some o := by
  have e : (truncS n s).heap.objs[a]? = if a < n then s.heap.objs[a]? else none := ext_get
  unfold Heap.get?
  rw [e]
  by_cases h : a < n
  · simp [h]
  · simp [h]
theorem trunc_size {n : Nat} {s : Shared} (h : n ≤ s.heap.objs.size) : (truncS n s).heap.objs.size = n := by
  show (s.heap.objs.extract 0 n).size = n
  rw [Array.size_extract]; omega
abbrev wkC (X : Cx) (n0 : Nat) (w : Wake) : Cx := { X with s_0 := truncS n0 w.s, H_0 := truncH n0 w.H }
abbrev NXp := Nat → Wake → L2.St → Hp → Prop
abbrev YLp := Nat → Wake → V → Hp → Prop
abbrev WKp := Nat → Wake → Hp → Wake → Prop
abbrev TN := NXp → YLp → WKp → L2.St → Hp → Prop
structure NY (X : Cx) (n0 N : Nat) (Y : Protocol) (Cs : Nat → Wake → Prop) (yl : YLp) (wk : WKp) : Prop where
  ex : X.ex = []
  lt : ∀ i w x H, yl i w x H → i < N
  sz : ∀ i w, Cs i w → n0 ≤ w.s.heap.objs.size
  yl : ∀ i w pl σ H s x v, Cs i w → (∀ p ∈ pl, n0 ≤ p.1) → Inv (wkC X n0 w) pl σ H s → RelV x v → yl i w x H → ∀ kap, (∀ w', Cs (i + 1) w' → wk i w H w' → (∀ b o, (b = X.env.locals ∨ (∃ x, X.env.cells.lookup x = some b) ∨ ∃ p ∈ X.pn ++ pl, p.1 = b) → s.heap.get? b = some o → w'.s.heap.get? b = some o ∧ w'.H b = none) → Inv (wkC X n0 w') pl σ w'.H w'.s → kap (.send .none) w'.s) → Y (N - i) w.s v s kap
structure NK (X : Cx) (n0 N : Nat) (A : Around) (R : GenEnd) (Y : Protocol) (Cs : Nat → Wake → Prop) (c : Code) (fs : List Frame) (K : Flow → Sem PySem.Fin) (pl : List (Addr × Obj)) (nx : NXp) : Prop where
  ok : ∀ i w σ H s, i ≤ N → Cs i w → Inv (wkC X n0 w) pl σ H s → nx i w σ H → Seg (model X.prog X.w) A R Y (N + 1 - i) w.s c (K .next) fs s
structure NSs (X : Cx) (n0 N : Nat) (i : Nat) (w : Wake) (st : List Stmt) (t : TN) : Prop where
  run : ∀ (A : Around) (R : GenEnd) (Y : Protocol) (Cs : Nat → Wake → Prop) (c : Code) (fs : List Frame) (K : Flow → Sem PySem.Fin) (J : Value → Sem PySem.Fin) (gd : Bool → Bool) (lv : List Value → List Value) (pl : List (Addr × Obj)) (s : Shared) (σ : L2.St) (H : Hp) (nx : NXp) (yl : YLp) (wk : WKp),
    FCtx X A c fs gd → NY X n0 N Y Cs yl wk → NK X n0 N A R Y Cs c fs K pl nx → (∀ p ∈ pl, n0 ≤ p.1) → i ≤ N → Cs i w → Inv (wkC X n0 w) pl σ H s → t nx yl wk σ H → Seg (model X.prog X.w) A R Y (N + 1 - i) w.s c ((execs st X.env).wrap K J gd lv) fs s
structure NS1 (X : Cx) (n0 N : Nat) (i : Nat) (w : Wake) (st : Stmt) (t : TN) : Prop where
  run : ∀ (A : Around) (R : GenEnd) (Y : Protocol) (Cs : Nat → Wake → Prop) (c : Code) (fs : List Frame) (K : Flow → Sem PySem.Fin) (J : Value → Sem PySem.Fin) (gd : Bool → Bool) (lv : List Value → List Value) (pl : List (Addr × Obj)) (s : Shared) (σ : L2.St) (H : Hp) (nx : NXp) (yl : YLp) (wk : WKp),
    FCtx X A c fs gd → NY X n0 N Y Cs yl wk → NK X n0 N A R Y Cs c fs K pl nx → (∀ p ∈ pl, n0 ≤ p.1) → i ≤ N → Cs i w → Inv (wkC X n0 w) pl σ H s → t nx yl wk σ H → Seg (model X.prog X.w) A R Y (N + 1 - i) w.s c ((exec st X.env).wrap K J gd lv) fs s
section
variable {X : Cx} {n0 N i0 : Nat} {w0 : Wake} {st : Stmt} {rest : List Stmt}
theorem nss_imp {t u : TN} (h : NSs X n0 N i0 w0 rest t) (k : ∀ nx yl wk σ H, u nx yl wk σ H → t nx yl wk σ H) : NSs X n0 N i0 w0 rest u := ⟨fun A R Y Cs c fs K J gd lv pl s σ H nx yl wk g y kk hp hi hc I q => h.run A R Y Cs c fs K J gd lv pl s σ H nx yl wk g y kk hp hi hc I (k _ _ _ _ _ q)⟩
theorem nss_nil : NSs X n0 N i0 w0 [] (fun nx _ _ σ H => nx i0 w0 σ H) := ⟨fun A R Y Cs c fs K J gd lv pl s σ H nx yl wk g y k hp hi hc I q => seg_execs_nil (k.ok i0 w0 σ H s hi hc I q)⟩
theorem nss_cons {t : TN} {u : Nat → Wake → TN} (h : NS1 X n0 N i0 w0 st t) (r : ∀ i w, NSs X n0 N i w rest (u i w)) : NSs X n0 N i0 w0 (st :: rest) (fun nx yl wk σ H => t (fun i w σ H => u i w nx yl wk σ H) yl wk σ H) := by
  refine ⟨fun A R Y Cs c fs K J gd lv pl s σ H nx yl wk g y k hp hi hc I q => seg_execs_cons ?_⟩
  exact h.run A R Y Cs c fs _ J gd lv pl s σ H _ yl wk g y ⟨fun i w σ' H' s' hi' hc' I' q' => (r i w).run A R Y Cs c fs K J gd lv pl s' σ' H' nx yl wk g y k hp hi' hc' I' q'⟩ hp hi hc I q
theorem ns1_yield {e : Expr} {yp pos : Pos} {te : TE} (he : PE (wkC X n0 w0) e te) (hco : X.env.scope.isCoroutine = false := by rfl) (hi : interactive X.env = false := by rfl) : NS1 X n0 N i0 w0 (.Expr (.Yield (some e) yp) pos) (fun nx yl wk σ H => i0 < N ∧ te σ H fun x H1 => yl i0 w0 x H1 ∧ ∀ w', wk i0 w0 H1 w' → nx (i0 + 1) w' σ w'.H) := by
  refine ⟨fun A R Y Cs c fs K J gd lv pl s σ H nx yl wk g y k hp hi0 hc I ⟨hlt, q⟩ => ?_⟩
  obtain ⟨m, hm⟩ : ∃ m, N + 1 - i0 = m + 1 := ⟨N - i0, by omega⟩
  rw [hm]
  refine seg_Expr_Yield (n := m) g.split g.gd g.guard ?_ hco hi
  rw [g.over]
  refine wpAny_mono (he.run pl s σ H _ I q) (fun v s' hs => ?_) fun e s' z => (g.xe e s' z).elim
  obtain ⟨x, H1, I1, rv, q1, q2⟩ := hs
  intro kap hk
  have := y.yl i0 w0 pl σ H1 s' x v hc hp I1 rv q1 kap fun w' hc' hw _ I' => hk .none w'.s (by
    have := k.ok (i0 + 1) w' σ w'.H w'.s (by omega) hc' I' (q2 w' hw)
    rw [show N + 1 - (i0 + 1) = m by omega] at this
    exact this)
  rw [show N - i0 = m by omega] at this
  exact this
def tForN (i0 : Nat) (w0 : Wake) (wi : TI) (g : Wake → TG) (tb : Nat → Wake → TN) : TN := fun nx yl wk σ H => wi σ H fun J H1 => ∃ W : Nat → Nat → Wake → Nat → L2.St → Hp → Prop, (∃ m, W 0 i0 w0 m σ H1) ∧ ∀ j i w m σ H, W j i w m σ H →
  (J.stop j H ∧ nx i w σ H) ∨ (J.go j H ∧ ∃ Nx : NXp, (∀ i' w' σ' H', Nx i' w' σ' H' → ∃ m', m' < m ∧ W (j + 1) i' w' m' σ' H') ∧ ∀ x H', J.yld j H x H' → g w x σ H' fun σ2 H2 => tb i w Nx yl wk σ2 H2)
theorem ns1_for {iter tg : Expr} {body : List Stmt} {wi : TI} {g : Wake → TG} {tb : Nat → Wake → TN} {pos : Pos} (hc : X.calm = true) (hi : PI (wkC X n0 w0) tg iter wi) (hg : ∀ w, PG (wkC X n0 w) tg (g w)) (hb : ∀ i w, NSs X n0 N i w body (tb i w))
    (hs : ∀ x, foldedSetIterable iter X.env x = pure x := by intro _; rfl) : NS1 X n0 N i0 w0 (.For tg iter body [] pos) (tForN i0 w0 wi g tb) := by
  refine ⟨fun A R Y Cs c fs K J gd lv pl s σ H nx yl wk cx y k hpl hi0 hcs I h => seg_For ?_ hs⟩
  rw [cx.over]
  have no : ∀ {α : Type} {t : Sem α} {Q : α → Shared → Prop} {E : Value → Shared → Prop} {s : Shared}, wpAny (model X.prog X.w) X.A t Q X.xe s → wpAny (model X.prog X.w) X.A t Q E s := fun h => wpAny_mono h (fun _ _ z => z) fun e s z => (cx.xe e s z).elim
  refine no (thn (hi.run pl s σ H _ I h) fun v s1 h1 => no (thn h1 fun itv s2 h2 => ?_))
  obtain ⟨it, fp, tn, Jt, H2, e, I2, T, st2, f2, W, ⟨m0, w0'⟩, turn⟩ := h2
  subst e
  intro p
  have gl := fctx_loop (k := (fun r => ((match r with | .ok f => (.pure f : Sem Flow) | .error e => .raise e).onRaise (cameBack X.env)).wrap K J gd lv)) (c' := .forLoop tg (.ref it) body [] X.env) (l := lv []) (kp := []) (p := p) cx rfl rfl
  have hge : ∀ b ∈ fp, n0 ≤ b := fun b hb => by
    rcases (f2 b hb).2.2.2.1 with z | z
    · rw [show (wkC X n0 w0).ex = [] from y.ex] at z; cases z
    · rwa [show (wkC X n0 w0).s_0.heap.objs.size = n0 from trunc_size (y.sz _ _ hcs)] at z
  have stat : ∀ {w : Wake} {i : Nat} {H' : Hp}, Cs i w → (∀ b ∈ fp, H' b = none) → ∀ b ∈ fp, FpOk (wkC X n0 w) pl H' b := fun {w i H'} hw hn b hb => by
    obtain ⟨_, q1, q2, _, q4, q5⟩ := f2 b hb
    exact ⟨hn b hb, q1, q2, .inr (by rw [show (wkC X n0 w).s_0.heap.objs.size = n0 from trunc_size (y.sz _ _ hw)]; exact hge b hb), q4, q5⟩
  have loop : ∀ (m j i : Nat) (w : Wake) (s3 : Shared) (σ3 : L2.St) (H3 : Hp), i ≤ N → Cs i w → Inv (wkC X n0 w) pl σ3 H3 s3 → tn j s3.heap → (∀ b ∈ fp, H3 b = none) → W j i w m σ3 H3 →
      Seg (model X.prog X.w) A R Y (N + 1 - i) w.s (.forLoop tg (.ref it) body [] X.env) ((model X.prog X.w).den (.forLoop tg (.ref it) body [] X.env))
        (.ret (fun r => ((match r with | .ok f => (.pure f : Sem Flow) | .error e => .raise e).onRaise (cameBack X.env)).wrap K J gd lv) none (gd false) (lv []) c p [] :: fs) s3 := by
    intro m
    induction m using Nat.strongRecOn with
    | ind m ih =>
      intro j i w s3 σ3 H3 hiN hcs3 I3 st3 fr3 w3
      refine seg_forLoop ?_
      rw [gl.over]
      rcases turn j i w m σ3 H3 w3 with ⟨stop, qn⟩ | ⟨go, Nx, hN, step⟩
      · refine no (thn (T.done (wkC X n0 w) rfl rfl rfl hc j pl s3 σ3 H3 X.xe I3 (stat hcs3 fr3) st3 stop) fun r s4 ⟨hr, I4⟩ => ?_)
        subst hr
        refine seg_again rfl ?_
        show Seg _ _ _ _ _ _ _ ((execs [] X.env).onRaise _ >>= _) _ s4
        exact seg_leaf (.ok .next) (k.ok i w σ3 H3 s4 hiN hcs3 I4 qn)
      · refine no (thn (T.item (wkC X n0 w) rfl rfl rfl hc j pl s3 σ3 H3 X.xe I3 (stat hcs3 fr3) st3 go) fun r s4 ⟨u, hr, h4⟩ => ?_)
        subst hr
        refine no (thn h4 fun _ s5 ⟨x, H5, I5, r5, y5, st5, fr5⟩ => ?_)
        have I5' := I5.pinned (stat hcs3 fr5) (T.obj _ _ st5)
        refine no (thn ((hg w).run _ s5 σ3 H5 x u _ I5' r5 (step x H5 y5)) fun _ s6 ⟨σ6, H6, I6, q6⟩ => ?_)
        refine (hb i w).run A R Y Cs _ _ _ _ id id _ s6 σ6 H6 Nx yl wk gl y ⟨fun i' w' σ7 H7 s7 hi7 hc7 I7 n7 => ?_⟩ (fun q hq => ?_) hiN hcs3 I6 q6
        · obtain ⟨m', hm, w7⟩ := hN i' w' σ7 H7 n7
          exact seg_again rfl (ih m' hm (j + 1) i' w' s7 σ7 H7 hi7 hc7 I7.unpinned (T.keep _ _ _ st5 fun b hb o e => (I7.pin (b, o) (List.mem_append_right _ (List.mem_append_right _ (mem_pinsAt hb e)))).1) (fun b hb => by
            obtain ⟨o, e, d⟩ := T.obj _ _ st5 b hb
            exact (I7.pin (b, o) (List.mem_append_right _ (List.mem_append_right _ (mem_pinsAt hb e)))).2.1) w7)
        · rcases List.mem_append.mp hq with z | z
          · exact hpl q z
          · exact hge q.1 (of_pinsAt z).1
  exact loop m0 0 i0 w0 s2 σ H2 hi0 hcs I2 st2 (fun b hb => (f2 b hb).1) w0'
end
structure LeftN (P : Program) (w : World) (outer : List Env) (n0 : Nat) (W : Wake) (H' : Hp) (s1 : Shared) : Prop where
  os : s1.os = W.s.os
  bare : AllBare s1.gens
  hok : HOk P w H' s1.heap
  ext : ∀ a u, W.H a = some u → H' a = some u
  keep : ∀ b o, b < n0 → W.s.heap.get? b = some o → W.H b = none → b ∉ frs outer → s1.heap.get? b = some o
  slot : ∀ b o, b < n0 → W.s.heap.get? b = some o → W.H b = none → b ∈ frs outer → ∃ sl, s1.heap.get? b = some { o with slots := sl }
  free : ∀ b o, b < n0 → W.s.heap.get? b = some o → W.H b = none → H' b = none
theorem truncH_lt {n : Nat} {H : Hp} {a : Addr} (h : a < n) : truncH n H a = H a := if_pos h
theorem left_of {X : Cx} {n0 : Nat} {W : Wake} {pl : List (Addr × Obj)} {σ : L2.St} {H' : Hp} {s1 : Shared} (hex : X.ex = []) (I : Inv (wkC X n0 W) pl σ H' s1) (e : ∀ a u, W.H a = some u → H' a = some u) : LeftN X.prog X.w X.outer n0 W H' s1 := by
  have nx : ∀ b : Addr, b ∉ (wkC X n0 W).ex := fun b h => by
    rw [show (wkC X n0 W).ex = [] from hex] at h; cases h
  exact ⟨I.os, I.bare, I.hok, e, fun b o hb q n hf => I.base.keep b o (trunc_get.mpr ⟨hb, q⟩) ((truncH_lt hb).trans n) hf (nx b),
    fun b o hb q n hf => I.base.slot b o (trunc_get.mpr ⟨hb, q⟩) ((truncH_lt hb).trans n) hf (nx b),
    fun b o hb q n => I.base.free b o (trunc_get.mpr ⟨hb, q⟩) ((truncH_lt hb).trans n) (nx b)⟩
theorem objOk_some {P : Program} {w : World} {H : Hp} {h : Heap} {a : Addr} {o : HO} (x : ObjOk P w H h a o) : ∃ ob, h.get? a = some ob := by
  induction o with
  | lst xs => obtain ⟨_, _, _, _, e⟩ := x; exact ⟨_, e⟩
  | tup xs => obtain ⟨_, _, _, ob, e, _⟩ := x; exact ⟨_, e⟩
  | dK kvs => obtain ⟨_, _, _, _, o, _, _, e, _⟩ := x; exact ⟨_, e⟩
  | dT kvs => obtain ⟨_, _, _, _, o, _, _, e, _⟩ := x; exact ⟨_, e⟩
  | set S n => obtain ⟨o, _, _, _, e, _⟩ := x; exact ⟨_, e⟩
  | ins C dx fs => obtain ⟨_, _, _, e, _⟩ := x; exact ⟨_, e⟩
  | own y => obtain ⟨o, e⟩ := x; exact ⟨_, e⟩
  | xd fs => obtain ⟨_, ⟨_, _, _, e, _⟩, _⟩ := x; exact ⟨_, e⟩
  | rng lo hi => obtain ⟨_, _, _, e⟩ := x; exact ⟨_, e⟩
  | frz ob u ih => exact ⟨_, x.1⟩
  | tbl ps => exact ⟨_, show h.get? a = some _ from x⟩
  | met f y => exact ⟨_, show h.get? a = some _ from x⟩
  | ext φ => exact x.2.1
theorem backN {X : Cx} {n0 : Nat} {W : Wake} {pins : List (Addr × Obj)} {σ : L2.St} {H' : Hp} {s1 : Shared} (I : Inv X pins σ W.H W.s) (L : LeftN X.prog X.w X.stack n0 W H' s1) (h0 : X.s_0.heap.objs.size ≤ n0) (hl : X.env.locals < n0)
    (hc : ∀ x c, X.env.cells.lookup x = some c → c < n0) (hp : ∀ p ∈ X.pn ++ pins, p.1 < n0) : Inv X pins σ H' s1 := by
  have low : ∀ {b : Addr} {o : Obj}, W.s.heap.get? b = some o → W.H b = none → b ∉ (List.range W.s.heap.objs.size).filter (fun b => decide (n0 ≤ b)) → b < n0 := fun {b o} e n hx => by
    refine Nat.lt_of_not_le fun h => hx (List.mem_filter.mpr ⟨List.mem_range.mpr (Heap.lt_size e), decide_eq_true h⟩)
  have un : Un (frs X.stack) ((List.range W.s.heap.objs.size).filter (fun b => decide (n0 ≤ b))) W.H H' W.s.heap s1.heap := by
    refine ⟨fun b o e n hf hx => L.keep b o (low e n hx) e n hf, fun b o e n hf hx => L.slot b o (low e n hx) e n hf, fun b o e n hx => L.free b o (low e n hx) e n, fun b o e hx => ?_, fun b xs e => L.ext _ _ e, fun b o u e => L.ext _ _ e, fun b ps e => ⟨#[], by rw [L.ext _ _ e]; simp⟩⟩
    cases q : W.H b with
    | some u => exact objOk_some (L.hok b u (L.ext _ _ q))
    | none =>
      have hb := low e q hx
      by_cases hf : b ∈ frs X.stack
      · obtain ⟨sl, e1⟩ := L.slot b o hb e q hf; exact ⟨_, e1⟩
      · exact ⟨_, L.keep b o hb e q hf⟩
  refine I.call' L.os un L.hok L.bare fun b hb => ?_
  have hn : n0 ≤ b := of_decide_eq_true (List.mem_filter.mp hb).2
  exact ⟨.inr (Nat.le_trans h0 hn), fun z => by rw [z] at hn; exact absurd (Nat.lt_of_lt_of_le hl hn) (Nat.lt_irrefl _), fun x c e z => by
    have := hc x c e
    rw [z] at this
    exact absurd (Nat.lt_of_lt_of_le this hn) (Nat.lt_irrefl _), fun p hq z => by
    have := hp p hq
    rw [z] at this
    exact absurd (Nat.lt_of_lt_of_le this hn) (Nat.lt_irrefl _)⟩
theorem wake_raw {X : Cx} {n0 : Nat} {pl : List (Addr × Obj)} {σ : L2.St} {s1 : Shared} {W : Wake} {Aw : Around} (ok : X.Ok) (hz : X.s_0.heap.objs.size = n0) (hn : n0 ≤ W.s.heap.objs.size)
    (loc : ∃ m, s1.heap.Ns X.env.locals m ∧ ∀ (i : Nat) (x : Str) (v : V), X.N[i]? = some x → σ[i]? = some (some v) → Vis X.env.scope x → ∃ u, RelV v u ∧ Look X.env s1.heap m x u) (cell : ∀ x c, X.env.cells.lookup x = some c → ∃ v, s1.heap.IsCell c v) (len : σ.length = X.N.length)
    (E : Env0 X.prog X.w X.K X.mg X.base Aw X.outer W.s W.H) (int : ∀ b o, (b = X.env.locals ∨ ∃ x, X.env.cells.lookup x = some b) → s1.heap.get? b = some o → W.s.heap.get? b = some o ∧ W.H b = none)
    (pin : ∀ p ∈ X.pn ++ pl, W.s.heap.get? p.1 = some p.2 ∧ W.H p.1 = none ∧ p.1 ≠ X.env.locals ∧ p.1 ∉ X.fs ∧ ∀ v, p.2.data ≠ .cell v) : Inv (wkC X n0 W) pl σ W.H W.s := by
  have bz : X.base.objs.size ≤ n0 := by rw [← hz]; exact ok.bsz
  have fl : ∀ (l : List Env), X.s_0.heap.FunFrames X.base l → W.s.heap.FunFrames X.base l → (truncS n0 W.s).heap.FunFrames X.base l := by
    intro l
    induction l with
    | nil => intro _ _; trivial
    | cons env r ih =>
      rintro ⟨a1, ⟨L, o, a2, a3, a4, a5⟩, a6⟩ ⟨b1, ⟨L', o', b2, b3, b4, b5⟩, b6⟩
      rw [a2] at b2
      cases b2
      exact ⟨a1, ⟨L, o', a2, a3, trunc_get.mpr ⟨by rw [← hz]; exact Heap.lt_size a4, b4⟩, b5⟩, ih a6 b6⟩
  refine ⟨⟨ok.mod, ok.kind, ok.glob, ok.blt, ?_, ok.inj, ok.has, fun x c h1 h2 => ?_, ok.hd, ok.frames, ok.stk, ok.exf, fun b o e => ?_, ?_, ok.noex, ok.exfs, fl _ ok.funs E.funs, fun b hb => ?_⟩, rfl, E.bare, ?_, ?_, ?_, ?_, ?_, pin, E.hok, len⟩
  · rw [show (wkC X n0 W).s_0.heap.objs.size = n0 from trunc_size hn, ← hz]; exact ok.above
  · rw [show (wkC X n0 W).s_0.heap.objs.size = n0 from trunc_size hn, ← hz]; exact ok.cab x c h1 h2
  · have hb : b < n0 := Nat.lt_of_lt_of_le (Heap.lt_size e) bz
    exact ⟨trunc_get.mpr ⟨hb, (E.bs b o e).1⟩, (truncH_lt hb).trans (E.bs b o e).2⟩
  · rw [show (wkC X n0 W).s_0.heap.objs.size = n0 from trunc_size hn]; exact bz
  · show truncH n0 W.H b = none
    unfold truncH
    split
    · exact E.frf b hb
    · rfl
  · have lo : ∀ {b : Addr} {u : HO}, truncH n0 W.H b = some u → W.H b = some u := fun {b u} e => by
      unfold truncH at e
      split at e
      · exact e
      · cases e
    refine ⟨fun b o e n _ _ => (trunc_get.mp e).2, fun b o e n _ _ => ⟨o.slots, (trunc_get.mp e).2⟩, fun b o e n _ => ?_, fun b o e _ => ⟨o, (trunc_get.mp e).2⟩, fun b xs e => lo e, fun b o u e => lo e, fun b ps e => ⟨#[], by rw [lo e]; simp⟩⟩
    rw [← truncH_lt (H := W.H) (trunc_get.mp e).1]; exact n
  · obtain ⟨m, ⟨o, es, ep, ho, r⟩, hl⟩ := loc
    refine ⟨m, ⟨o, es, ep, (int _ o (.inl rfl) ho).1, r⟩, fun i x v h1 h2 h3 => ?_⟩
    obtain ⟨u, rv, lk⟩ := hl i x v h1 h2 h3
    refine ⟨u, rv, ?_⟩
    rcases lk with lk | ⟨k1, c, k2, oc, k3, k4⟩
    · exact .inl lk
    · exact .inr ⟨k1, c, k2, oc, (int c oc (.inr ⟨x, k2⟩) k3).1, k4⟩
  · intro x c e
    obtain ⟨v, oc, k3, k4⟩ := cell x c e
    exact ⟨v, oc, (int c oc (.inr ⟨x, e⟩) k3).1, k4⟩
  · obtain ⟨m, ⟨o, es, ep, ho, r⟩, hl⟩ := loc
    exact (int _ o (.inl rfl) ho).2
  · intro x c e
    obtain ⟨v, oc, k3, k4⟩ := cell x c e
    exact (int c oc (.inr ⟨x, e⟩) k3).2
end DL

set_option Elab.async false
set_option linter.all false
set_option maxRecDepth 100000
set_option maxHeartbeats 4000000
namespace DL
open PySem PySem.Spec PyProof.Rows L2 GenW
def NEnd (P : Program) (w : World) (outer : List Env) (n0 : Nat) (Cs : Nat → Wake → Prop) (N : Nat) : GenEnd := fun _ sw r s1 => (r = .ok (.ret .none) ∨ r = .ok .next) ∧ ∃ W H', W.s = sw ∧ Cs N W ∧ LeftN P w outer n0 W H' s1
def NItem (P : Program) (w : World) (K : PySem.W.Frag) (outer : List Env) (n0 : Nat) (a : Addr) (go : Obj) (Cs : Nat → Wake → Prop) (es : List D) : Protocol := fun n sw v s1 kap => ∃ (i : Nat) (W : Wake) (x : V) (d : D) (H' : Hp) (priv : List Addr),
  n + i = es.length ∧ W.s = sw ∧ Cs i W ∧ LeftN P w outer n0 W H' s1 ∧ RelV x v ∧ es[i]? = some d ∧ Rp K (vis W.F [] H') x d ∧ s1.heap.get? a = some go ∧ a ∈ priv ∧ (∀ b ∈ priv, n0 ≤ b ∧ H' b = none ∧ ∃ o, s1.heap.get? b = some o) ∧
  ∀ W', Cs (i + 1) W' → (∀ b, W'.F b = true → ∃ o, W'.H b = some o) → Same (vis W.F [] H') (vis W'.F [] W'.H) → (∀ b ∈ priv, W'.H b = none ∧ ∀ o, s1.heap.get? b = some o → W'.s.heap.get? b = some o) → kap (.send .none) W'.s
def NMade (P : Program) (w : World) (K : PySem.W.Frag) (mg : Str → Option Value) (base : Heap) (k : Nat) (outer : List Env) (F : Addr → Bool) (H : Hp) (s : Shared) (es : List D) (u : Value) (s' : Shared) : Prop :=
  ∃ (a : Addr) (g : Nat) (c : Code) (go : Obj), u = .ref a ∧ s.heap.objs.size ≤ a ∧ a < s'.heap.objs.size ∧ s'.heap.get? a = some go ∧ (∀ h : Heap, h.get? a = some go → h.IsGen a g) ∧ s'.gens[g]? = some (.fresh c) ∧ s'.os = s.os ∧ AllBare s'.gens ∧ s'.heap.NoLimit ∧ (∀ b o, s.heap.get? b = some o → s'.heap.get? b = some o) ∧
    ∀ (A : Around) (Cs : Nat → Wake → Prop) (s2 : Shared), Room k A → A.frames = some outer → (∀ i W, Cs i W → Env0 P w K mg base A outer W.s W.H ∧ (∀ b, W.F b = true → ∃ o, W.H b = some o) ∧ s.heap.objs.size ≤ W.s.heap.objs.size) → (∀ b o, s'.heap.get? b = some o → s2.heap.get? b = some o) → Cs 0 ⟨F, H, s2⟩ →
      Seg (model P w) A (NEnd P w outer s.heap.objs.size Cs es.length) (NItem P w K outer s.heap.objs.size a go Cs es) (es.length + 1) s2 c ((model P w).den c) [] s2
structure NFn (P : Program) (w : World) (K : PySem.W.Frag) (mg : Str → Option Value) (base : Heap) (k : Nat) (f : Addr) (fd : FuncData) (ps : List Str) (Ar : List D → List D → Prop) : Prop where
  len : ∀ ds es, Ar ds es → ds.length = ps.length
  run : ∀ (A : Around) (outer : List Env) (s : Shared) (H : Hp) (args : Args) (us : List Value) (vs : List V) (F : Addr → Bool) (ds es : List D), Room k A → Env0 P w K mg base A outer s H → BindsTo s fd args (ps.zip us) → Vals vs us → (∀ b, F b = true → ∃ o, H b = some o) → RpL K (vis F [] H) vs ds → Ar ds es →
    codeAny (model P w) A (.call (.ref f) args) (fun r s' => match r with | .ok (.ret u) => NMade P w K mg base k outer F H s es u s' | _ => False) s
def gN (P : Program) (w : World) (K : PySem.W.Frag) (mg : Str → Option Value) (base : Heap) (N : List Str) (qual : Str) (scope : Scope) (f : Addr) (cd : Value) (A : Around) (outer : List Env) (n0 : Nat) (pn : List (Addr × Obj)) (s : Shared) (H : Hp) : Cx where
  prog := P
  w := w
  K := K
  mg := mg
  base := base
  A := A.deeper (envOfC qual scope n0 f cd)
  N := N
  s_0 := s
  H_0 := H
  env := envOfC qual scope n0 f cd
  outer := outer
  stack := envOfC qual scope n0 f cd :: outer
  ex := []
  calm := true
  fn := fun _ => true
  pn := pn
  xe := fun _ _ => False
abbrev gNw (P : Program) (w : World) (K : PySem.W.Frag) (mg : Str → Option Value) (base : Heap) (N : List Str) (qual : Str) (scope : Scope) (f : Addr) (cd : Value) (A : Around) (outer : List Env) (n0 : Nat) (pn : List (Addr × Obj)) (W : Wake) : Cx := gN P w K mg base N qual scope f cd A outer n0 pn (truncS n0 W.s) (truncH n0 W.H)
def nxE (n : Nat) : NXp := fun i W _ H => i = n ∧ ∀ a u, W.H a = some u → H a = some u
def ylE (K : PySem.W.Frag) (es : List D) : YLp := fun i W x H => (∀ a u, W.H a = some u → H a = some u) ∧ ∃ d, es[i]? = some d ∧ Rp K (vis W.F [] H) x d
def wkE : WKp := fun i W H W' => (∀ b, W'.F b = true → ∃ o, W'.H b = some o) ∧ Same (vis W.F [] H) (vis W'.F [] W'.H)
theorem nfn_of {P : Program} {w : World} {K : PySem.W.Frag} {mg : Str → Option Value} {base : Heap} {k : Nat} {f : Addr} {name qual : Str} {params : Arguments} {body : List Stmt} {scope : Scope} {dV kV doc pm cdv ct oc : Value} {an od : Option Addr}
    {osl : Array (Option Value)} {N ps : List Str} {Ar : List D → List D → Prop} (lk : K.lookup f = some ⟨oc, od, .func (PySem.W.fnOf name qual params body scope dV kV doc pm an cdv ct), osl⟩) (hcd : PySem.W.codeIn K cdv qual = true) (S : GScope N ps scope)
    (len : ∀ ds es, Ar ds es → ds.length = ps.length)
    (hbody : ∀ (A : Around) (outer : List Env) (n0 : Nat) (pn : List (Addr × Obj)) (W : Wake) (vs : List V) (ds es : List D), Room k (A.deeper (envOfC qual scope n0 f cdv)) → (∀ b, W.F b = true → ∃ o, W.H b = some o) → RpL K (vis W.F [] W.H) vs ds → Ar ds es →
      ∃ t, NSs (gNw P w K mg base N qual scope f cdv A outer n0 pn W) n0 es.length 0 W body t ∧ t (nxE es.length) (ylE K es) wkE (start N vs) W.H) :
    NFn P w K mg base (k + 1) f (PySem.W.fnOf name qual params body scope dV kV doc pm an cdv ct) ps Ar := by
  refine ⟨len, fun A outer s H args us vs F ds es hr e0 hb r hF hrp har => ?_⟩
  have hl : vs.length = ps.length := by rw [hrp.length]; exact len _ _ har
  have KX : K.In s.heap := e0.mod.kin.keeps fun b o e => (e0.bs b o e).1
  have lim : s.heap.NoLimit := e0.mod.nolimit.keeps fun b o e => (e0.bs b o e).1
  have hkind : ∀ y ∈ ps.zip us, scope.names.lookup y.1 = some .local ∨ (scope.names.lookup y.1 = some .cell ∧ ((cellsFrom (s.heap.objs.size + 1) scope.names []).lookup y.1).isSome = true) := fun ⟨n, v⟩ hy => by
    rcases S.par n (List.of_mem_zip hy).1 with q | q
    · exact .inl q
    · exact .inr ⟨q, PySem.W.cellsFrom_some _ _ _ (.inl q)⟩
  refine codeAny_call_generator hr.depth (KX _ _ lk) rfl S.co S.gen rfl (PySem.W.codeRec_of KX hcd) (hb _ _ _ _ ?_)
  refine wpAny_newFunctionEnv_cells S.kind hkind fun env he s1 x => ?_
  subst he
  have lim1 : s1.heap.NoLimit := lim.keeps x.toInCall.keep
  refine ⟨lim1, ?_⟩
  obtain ⟨h1, tk, es1, hk1⟩ := x.done
  have os1 : s1.os = s.os := by rw [es1]
  have gen1 : s1.gens = s.gens := by rw [es1]
  have lt1 : s.heap.objs.size < s1.heap.objs.size := x.toInCall.ns.lt
  have sz1 : s.heap.objs.size ≤ s1.heap.objs.size := Nat.le_of_lt lt1
  have kp1 : ∀ b o, s.heap.get? b = some o → s1.heap.get? b = some o := x.toInCall.keep
  have main : ∀ (go : Obj) (nm qn : Value) (tk2 : Nat), go.cls = .type "generator" → go.data = .fields #[.int s1.gens.size 0, nm, qn] → go.slots = #[] → (∀ h : Heap, (h.push go).get? h.objs.size = some go) →
      NMade P w K mg base (k + 1) outer F H s es (.ref s1.heap.objs.size) { s1 with gens := s1.gens.push (.fresh (.func body (envOfC qual scope s.heap.objs.size f cdv))), toks := tk2, heap := s1.heap.push go } := by
    intro go nm qn tk2 hgc hgd0 hgs hgp
    have hgen : ∀ h : Heap, h.get? s1.heap.objs.size = some go → h.IsGen s1.heap.objs.size s1.gens.size := fun h e => ⟨go, nm, qn, e, hgc, hgd0, hgs⟩
    have hpushed : (s1.heap.push go).get? s1.heap.objs.size = some go := hgp _
    refine ⟨s1.heap.objs.size, s1.gens.size, _, go, rfl, sz1, ?_, hpushed, hgen, Array.getElem?_push_size .., os1, ?_, lim1.keeps fun b o e => Heap.get?_push_of_some _ e, fun b o e => Heap.get?_push_of_some _ (kp1 b o e), ?_⟩
    · show _ < (s1.heap.push _).objs.size
      rw [Heap.size_push]; exact Nat.lt_succ_self _
    · exact AllBare.push (by rw [gen1]; exact e0.bare) rfl
    intro Aw Cs s2 hrw hfr hCs hk2 hc0
    have kp2 : ∀ b o, s1.heap.get? b = some o → s2.heap.get? b = some o := fun b o e => hk2 b o (Heap.get?_push_of_some _ e)
    have e0w : Env0 P w K mg base Aw outer s H := ⟨hfr, e0.mod, e0.bs, e0.bsz, e0.funs, e0.frf, e0.hok, e0.bare⟩
    obtain ⟨t, ht, hq⟩ := hbody Aw outer s.heap.objs.size [(s1.heap.objs.size, go)] ⟨F, H, s2⟩ vs ds es (hrw.deeper _) hF hrp har
    have I1 : Inv (gcxOf P w K mg base N qual scope f cdv Aw outer s H (fun _ _ _ => False) []) [] (start N vs) H s1 := inv_startG S hrw.hd e0w hl r x
    have k1 := I1.ok
    have okX : (gN P w K mg base N qual scope f cdv Aw outer s.heap.objs.size [(s1.heap.objs.size, go)] s H).Ok :=
      ⟨k1.mod, k1.kind, k1.glob, k1.blt, k1.above, k1.inj, k1.has, k1.cab, k1.hd, k1.frames, k1.stk, k1.exf, k1.bs, k1.bsz, k1.noex, k1.exfs, k1.funs, k1.frf⟩
    have nfs : s1.heap.objs.size ∉ frs outer := I1.nofs (Nat.le_refl _)
    have hH : H s1.heap.objs.size = none := e0.hok.fresh sz1
    have lne : s1.heap.objs.size ≠ s.heap.objs.size := Nat.ne_of_gt lt1
    have I2 : Inv (gNw P w K mg base N qual scope f cdv Aw outer s.heap.objs.size [(s1.heap.objs.size, go)] ⟨F, H, s2⟩) [] (start N vs) H s2 :=
      wake_raw (X := gN P w K mg base N qual scope f cdv Aw outer s.heap.objs.size [(s1.heap.objs.size, go)] s H) (W := ⟨F, H, s2⟩) (Aw := Aw) okX rfl (hCs 0 _ hc0).2.2 I1.loc I1.cell I1.len (hCs 0 _ hc0).1
        (fun b o hb e => ⟨kp2 b o e, by
          rcases hb with rfl | ⟨x, hx⟩
          · exact I1.free
          · exact I1.freeC x b hx⟩)
        (fun p hp => by
          rw [List.append_nil] at hp
          rw [List.mem_singleton.mp hp]
          exact ⟨hk2 _ _ hpushed, hH, lne, nfs, fun v q => by rw [hgd0] at q; cases q⟩)
    refine seg_func ?_
    have ny : NY (gNw P w K mg base N qual scope f cdv Aw outer s.heap.objs.size [(s1.heap.objs.size, go)] ⟨F, H, s2⟩) s.heap.objs.size es.length (NItem P w K outer s.heap.objs.size s1.heap.objs.size go Cs es) Cs (ylE K es) wkE := by
      refine ⟨rfl, fun i W x H' q => ?_, fun i W q => (hCs i W q).2.2, fun i W pl σ H' s' xx v hc hpl I rv q kap hk => ?_⟩
      · obtain ⟨_, d, hd, _⟩ := q
        exact (List.getElem?_eq_some_iff.mp hd).1
      · obtain ⟨q1, d, hd, q3⟩ := q
        have hi := (List.getElem?_eq_some_iff.mp hd).1
        have hp1 := I.pin (s1.heap.objs.size, go) (List.mem_append_left _ (List.mem_singleton.mpr rfl))
        refine ⟨i, W, xx, d, H', (gNw P w K mg base N qual scope f cdv Aw outer s.heap.objs.size [(s1.heap.objs.size, go)] ⟨F, H, s2⟩).env.locals :: ((gNw P w K mg base N qual scope f cdv Aw outer s.heap.objs.size [(s1.heap.objs.size, go)] ⟨F, H, s2⟩).env.cells.filterMap (fun p => (gNw P w K mg base N qual scope f cdv Aw outer s.heap.objs.size [(s1.heap.objs.size, go)] ⟨F, H, s2⟩).env.cells.lookup p.1) ++ ([(s1.heap.objs.size, go)] ++ pl).map (·.1)), by omega, rfl, hc, left_of (X := gNw P w K mg base N qual scope f cdv Aw outer s.heap.objs.size [(s1.heap.objs.size, go)] ⟨F, H, s2⟩) rfl I q1, rv, hd, q3, hp1.1, ?_, fun b hb => ?_, fun W' hc' hF' hsm hpr => ?_⟩
        · exact List.mem_cons_of_mem _ (List.mem_append_right _ (List.mem_cons_self ..))
        · rcases List.mem_cons.mp hb with rfl | hb
          · obtain ⟨m, ⟨o, _, _, ho, _⟩, _⟩ := I.loc
            exact ⟨Nat.le_refl _, I.free, o, ho⟩
          · rcases List.mem_append.mp hb with hb | hb
            · obtain ⟨p, _, hx⟩ := List.mem_filterMap.mp hb
              obtain ⟨_, o, ho, _⟩ := I.cell p.1 b hx
              refine ⟨?_, I.freeC p.1 b hx, o, ho⟩
              have := I.ok.cab p.1 b rfl hx
              rwa [show (wkC (gNw P w K mg base N qual scope f cdv Aw outer s.heap.objs.size [(s1.heap.objs.size, go)] ⟨F, H, s2⟩) s.heap.objs.size W).s_0.heap.objs.size = s.heap.objs.size from trunc_size (hCs i W hc).2.2] at this
            · obtain ⟨p, hp, rfl⟩ := List.mem_map.mp hb
              obtain ⟨z1, z2, _⟩ := I.pin p hp
              refine ⟨?_, z2, _, z1⟩
              rcases List.mem_append.mp hp with hp | hp
              · rw [List.mem_singleton.mp hp]; exact sz1
              · exact hpl p hp
        · have tr : ∀ b o, (b = (gNw P w K mg base N qual scope f cdv Aw outer s.heap.objs.size [(s1.heap.objs.size, go)] ⟨F, H, s2⟩).env.locals ∨ (∃ x, (gNw P w K mg base N qual scope f cdv Aw outer s.heap.objs.size [(s1.heap.objs.size, go)] ⟨F, H, s2⟩).env.cells.lookup x = some b) ∨ ∃ p ∈ [(s1.heap.objs.size, go)] ++ pl, p.1 = b) → s'.heap.get? b = some o → W'.s.heap.get? b = some o ∧ W'.H b = none := fun b o hb e => by
            have hm : b ∈ (gNw P w K mg base N qual scope f cdv Aw outer s.heap.objs.size [(s1.heap.objs.size, go)] ⟨F, H, s2⟩).env.locals :: ((gNw P w K mg base N qual scope f cdv Aw outer s.heap.objs.size [(s1.heap.objs.size, go)] ⟨F, H, s2⟩).env.cells.filterMap (fun p => (gNw P w K mg base N qual scope f cdv Aw outer s.heap.objs.size [(s1.heap.objs.size, go)] ⟨F, H, s2⟩).env.cells.lookup p.1) ++ ([(s1.heap.objs.size, go)] ++ pl).map (·.1)) := by
              rcases hb with rfl | ⟨x, hx⟩ | ⟨p, hp, rfl⟩
              · exact List.mem_cons_self ..
              · exact List.mem_cons_of_mem _ (List.mem_append_left _ (List.mem_filterMap.mpr ⟨(x, b), PySem.mem_of_lookup hx, hx⟩))
              · exact List.mem_cons_of_mem _ (List.mem_append_right _ (List.mem_map_of_mem hp))
            exact ⟨(hpr b hm).2 o e, (hpr b hm).1⟩
          refine hk W' hc' ⟨hF', hsm⟩ tr ?_
          refine wake_raw (X := wkC (gNw P w K mg base N qual scope f cdv Aw outer s.heap.objs.size [(s1.heap.objs.size, go)] ⟨F, H, s2⟩) s.heap.objs.size W) (W := W') (Aw := Aw) I.ok (trunc_size (hCs i W hc).2.2) (hCs _ _ hc').2.2 I.loc I.cell I.len (hCs _ _ hc').1 (fun b o hb e => tr b o (hb.elim .inl fun z => .inr (.inl z)) e) (fun p hp => ?_)
          obtain ⟨z1, z2, z3, z4, z5⟩ := I.pin p hp
          obtain ⟨y1, y2⟩ := tr p.1 p.2 (.inr (.inr ⟨p, hp, rfl⟩)) z1
          exact ⟨y1, y2, z3, z4, z5⟩
    refine ht.run Aw _ _ Cs _ [] _ _ id id [] s2 (start N vs) H _ _ _ ⟨over_func, rfl, rfl, rfl, fun _ _ z => z⟩ ny ⟨fun i W σ' H' s' hi hc I q => ?_⟩ (fun p hp => nomatch hp) (Nat.zero_le _) hc0 I2 hq
    obtain ⟨rfl, q2⟩ := q
    exact seg_end (.ok (.ret .none)) ⟨.inl rfl, W, H', rfl, hc, left_of (X := gNw P w K mg base N qual scope f cdv Aw outer s.heap.objs.size [(s1.heap.objs.size, go)] ⟨F, H, s2⟩) rfl I q2⟩
  exact main _ _ _ _ rfl rfl rfl fun h => Heap.get?_push_size _ rfl
end DL

set_option Elab.async false
set_option linter.all false
set_option maxRecDepth 100000
set_option maxHeartbeats 4000000
namespace DL
open PySem PySem.Spec PyProof.Rows L2 GenW Psn
open Sem (wp)
def gnx (M : Model) (A : Around) (R : GenEnd) (Y : Protocol) (gs : GenState) : Nat → Resume → Shared → Prop
  | 0, _, _ => False
  | m + 1, r, s => gs.Goes M A R Y m r s
theorem wpAny_resumeN {M : Model} {A : Around} {R : GenEnd} {Y : Protocol} {n : Nat} {E : Value → Shared → Prop} {s : Shared} {g : Nat} {gs : GenState} {r : Resume} {l : List Value} {α : Type} {k : GenResult → Sem α} {Q : α → Shared → Prop} (hg : s.gens[g]? = some gs) (hgo : gs.Goes M A R Y n r (s.setGen g .running))
    (hR : ∀ x s₁, R n (s.setGen g .running) x s₁ → wpAny M A (k (End.ret x).result) Q E (s₁.setGen g .finished))
    (hY : ∀ v s₁ gs', gs'.bare = true → sleeps gs' = true → Y (n - 1) (s.setGen g .running) v s₁ (gnx M A R Y gs' n) → wpAny M A (k (.yielded v)) Q E (s₁.setGen g gs')) : wpAny M A (.resume g r l k) Q E s := by
  intro Γ p hΓ
  rw [Sem.wp_resume]
  have hB : ∀ c, (Γ.wake c p).Woken A := fun c => hΓ.wake c p
  have fin : ∀ e₁ s₁, SegEnd R Y n (Seg.next M A R Y n) (s.setGen g .running) e₁ s₁ →
      wp M Γ (k e₁.result) (fun a _ s' => Q a s') (fun e _ s' => E e s') p (s₁.setGen g e₁.genState) := by
    intro e₁ s₁ he
    cases e₁ with
    | ret x => exact hR x s₁ he Γ p hΓ
    | susp v g₀ l₀ k₀ c₀ p₀ fs₀ =>
      refine hY v s₁ _ (End.bare_of_quiet he.1) rfl ?_ Γ p hΓ
      cases n with
      | zero => exact he.2
      | succ m => exact he.2
  have hqt : ∀ e₁ s₁, SegEnd R Y n (Seg.next M A R Y n) (s.setGen g .running) e₁ s₁ → e₁.quiet = true := by
    intro e₁ s₁ he
    cases e₁ with
    | ret x => rfl
    | susp v g₀ l₀ k₀ c₀ p₀ fs₀ => exact he.1
  cases gs with
  | fresh c =>
    obtain ⟨rfl, hs⟩ := hgo
    obtain ⟨e₁, s₁, hr, he⟩ := seg_iff.mp hs (Γ.wake c p) p rfl (hB c)
    exact ⟨_, _, by unfold Wakes; rw [hg]; exact ⟨e₁, s₁, hr, hqt e₁ s₁ he, rfl, rfl⟩, fin e₁ s₁ he⟩
  | suspended k₀ l₀ c₀ p₀ fs₀ cl =>
    obtain ⟨e₁, s₁, hr, he⟩ := seg_iff.mp hgo (Γ.wake c₀ p) p₀ rfl (hB c₀)
    exact ⟨_, _, by unfold Wakes; rw [hg]; exact ⟨e₁, s₁, hr, hqt e₁ s₁ he, rfl, rfl⟩, fin e₁ s₁ he⟩
  | running => exact hgo.elim
  | finished => exact hgo.elim
theorem next_genN {P : Program} {w : World} {A : Around} {E : Value → Shared → Prop} {s : Shared} {a : Addr} {g n : Nat} {gs : GenState} {R : GenEnd} {Y : Protocol} {Q : Option Value → Shared → Prop} (hh : A.handled = none)
    (hl : s.heap.NoLimit) (hroom : A.depth < recursionLimit) (hg : s.heap.IsGen a g) (hgs : s.gens[g]? = some gs)
    (hgo : gs.Goes (model P w) A.in1 R Y n (.send .none) (s.setGen g .running))
    (hR : ∀ r s₁, R n (s.setGen g .running) r s₁ → r = .ok (.ret .none) ∨ r = .ok .next)
    (hY : ∀ v s₁ gs', gs'.bare = true → sleeps gs' = true → Y (n - 1) (s.setGen g .running) v s₁ (gnx (model P w) A.in1 R Y gs' n) → Q (some v) (s₁.setGen g gs'))
    (hP : ∀ r s₁, R n (s.setGen g .running) r s₁ → ∀ h', (∀ b o, s₁.heap.get? b = some o → h'.get? b = some o) → Q none { s₁.setGen g .finished with heap := h' }) :
    wpAny (model P w) A (pyNext (.ref a)) Q E s := by
  unfold pyNext
  refine wpAny_bind (wpAny_attempt (wpAny_callSpecial?_slot (name := Str.ofString "__next__") hg.typeIs slot_gen_next
    (wpAny_call_entry slot_gen_next hg.typeIs entry_gen_next ?_ (args_gen_next _))))
  show wpAny _ A.in1 (Builtin.Generator.genWake (.ref a) (.send .none)) _ _ s
  unfold Builtin.Generator.genWake
  refine wpAny_bind (wpAny_holding (wpAny_genNumber hg (wpAny_bind (wpAny_genState hgs ?_))))
  cases gs with
  | running => exact hgo.elim
  | finished => exact hgo.elim
  | _ =>
    refine wpAny_bind (wpAny_roomToWake hl hroom ?_)
    show wpAny _ A.in1 (.resume g (.send .none) [] _) _ _ s
    refine wpAny_resumeN hgs hgo (fun x s₁ hx => ?_) (fun v s₁ gs' hb hsl hv => ?_)
    · have hres : End.result (.ret x) = .returned .none := by
        rcases hR x s₁ hx with hr | hr <;> rw [hr] <;> rfl
      first | rw [hres] | simp only [hres]
      show wpAny _ A.in1 (newExc (.type "StopIteration") [] >>= _) _ _ _
      refine wpAny_bind ?_
      simp only [newExc, newTuple]
      refine wpAny_bind (wpAny_newObj_type ?_ (by size_fits))
      refine wpAny_bind (m := firstArgMember _ _) (wpAny_of_eq (a := Value.none) (by first | rfl | (simp only [firstArgMember]; rfl)) ?_)
      refine wpAny_newObj_type ?_ (by size_fits)
      simp only [raiseNew]
      refine wpAny_bind (wpAny_bind (wpAny_handled ?_))
      first | rw [show A.in1.handled = none from hh] | rw [hh]
      refine wpAny_throw ?_
      refine wpAny_bind (wpAny_isInstance (T := "StopIteration") (b := true) ⟨_, Heap.get?_push_size _ rfl, rfl⟩ isSubtype_stop ?_)
      exact wpAny_pure (hP x s₁ hx _ fun b o hb => Heap.get?_push_of_some _ (Heap.get?_push_of_some _ hb))
    · exact wpAny_pure ⟨v, rfl, wpAny_pure (hY v s₁ gs' hb hsl hv)⟩
def gHp (priv : List Addr) (s : Shared) (H : Hp) : Hp := fun b => if b ∈ priv then (s.heap.get? b).map (fun o => HO.frz o (.ext fun _ => True)) else H b
def dHp (priv : List Addr) (H : Hp) : Hp := fun b => if b ∈ priv then none else H b
theorem gHp_in {priv : List Addr} {s : Shared} {H : Hp} {b : Addr} {o : Obj} (h : b ∈ priv) (e : s.heap.get? b = some o) : gHp priv s H b = some (.frz o (.ext fun _ => True)) := by
  unfold gHp; rw [if_pos h, e]; rfl
theorem gHp_out {priv : List Addr} {s : Shared} {H : Hp} {b : Addr} (h : b ∉ priv) : gHp priv s H b = H b := if_neg h
theorem dHp_out {priv : List Addr} {H : Hp} {b : Addr} (h : b ∉ priv) : dHp priv H b = H b := if_neg h
theorem dHp_in {priv : List Addr} {H : Hp} {b : Addr} (h : b ∈ priv) : dHp priv H b = none := if_pos h
section
variable {X : Cx} {pins : List (Addr × Obj)} {σ : L2.St} {H : Hp} {s : Shared} {priv : List Addr} {n0 : Nat}
structure Prv (n0 : Nat) (priv : List Addr) (H : Hp) (s : Shared) : Prop where
  all : ∀ b ∈ priv, n0 ≤ b ∧ H b = none ∧ ∃ o, s.heap.get? b = some o
theorem Prv.out (p : Prv n0 priv H s) {b : Addr} {u : HO} (e : H b = some u) : b ∉ priv := fun h => by
  rw [(p.all b h).2.1] at e; cases e
theorem inv_lay (I : Inv X pins σ H s) (p : Prv n0 priv H s) (h0 : X.s_0.heap.objs.size ≤ n0) (hl : X.env.locals < n0) (hc : ∀ x c, X.env.cells.lookup x = some c → c < n0) (hp : ∀ q ∈ X.pn ++ pins, q.1 < n0) : Inv X pins σ (gHp priv s H) s := by
  have young : ∀ {b : Addr}, b < n0 → b ∉ priv := fun {b} h hm => absurd (Nat.lt_of_lt_of_le h (p.all b hm).1) (Nat.lt_irrefl _)
  have up : ∀ {b : Addr} {u : HO}, H b = some u → gHp priv s H b = some u := fun {b u} e => (gHp_out (p.out e)).trans e
  refine ⟨I.ok, I.os, I.bare, ⟨I.base.keep, I.base.slot, fun b o e n hx => ?_, I.base.there, fun b xs e => up (I.base.tups b xs e), fun b o u e => up (I.base.frzs b o u e), fun b ps e => ?_⟩, I.loc, I.cell, ?_, fun x c e => ?_, fun q hq => ?_, fun b u e => ?_, I.len⟩
  · rw [gHp_out (young (Nat.lt_of_lt_of_le (Heap.lt_size e) h0))]; exact I.base.free b o e n hx
  · obtain ⟨more, q⟩ := I.base.tbls b ps e
    exact ⟨more, up q⟩
  · rw [gHp_out (young hl)]; exact I.free
  · rw [gHp_out (young (hc x c e))]; exact I.freeC x c e
  · obtain ⟨a1, a2, a3⟩ := I.pin q hq
    exact ⟨a1, by rw [gHp_out (young (hp q hq))]; exact a2, a3⟩
  · by_cases h : b ∈ priv
    · obtain ⟨_, _, o, ho⟩ := p.all b h
      rw [gHp_in h ho] at e
      cases e
      exact ⟨ho, trivial, ⟨o, ho⟩, fun _ _ _ _ => trivial⟩
    · rw [gHp_out h] at e
      exact (I.hok b u e).stay (fun _ _ _ z => z) (fun d z => up z) fun d xs z => up z
theorem inv_drop {σ1 : L2.St} {H1 : Hp} {s1 : Shared} (I1 : Inv X pins σ1 H1 s1) (p : Prv n0 priv H1 s1) (I : Inv X pins σ H s) (hf : ∀ b ∈ priv, ∀ o, s1.heap.get? b = some o → H b = some (.frz o (.ext fun _ => True))) : Inv X pins σ (dHp priv H) s := by
  have non : ∀ {b : Addr}, b ∈ priv → ∃ o, H b = some (.frz o (.ext fun _ => True)) := fun {b} h => by
    obtain ⟨_, _, o, ho⟩ := p.all b h
    exact ⟨o, hf b h o ho⟩
  have dn : ∀ {b : Addr}, H b = none → dHp priv H b = none := fun {b} e => by
    unfold dHp; split
    · rfl
    · exact e
  refine ⟨I.ok, I.os, I.bare, ⟨I.base.keep, I.base.slot, fun b o e n hx => dn (I.base.free b o e n hx), I.base.there, fun b xs e => ?_, fun b o u e => ?_, fun b ps e => ?_⟩, I.loc, I.cell, dn I.free, fun x c e => dn (I.freeC x c e), fun q hq => ?_, fun b u e => ?_, I.len⟩
  · rw [dHp_out (p.out (I1.base.tups b xs e))]; exact I.base.tups b xs e
  · rw [dHp_out (p.out (I1.base.frzs b o u e))]; exact I.base.frzs b o u e
  · obtain ⟨more, q⟩ := I1.base.tbls b ps e
    rw [dHp_out (p.out q)]; exact I.base.tbls b ps e
  · obtain ⟨a1, a2, a3⟩ := I.pin q hq
    exact ⟨a1, dn a2, a3⟩
  · have hb : b ∉ priv := fun h => by rw [dHp_in h] at e; cases e
    rw [dHp_out hb] at e
    refine (I.hok b u e).stay (fun _ _ _ z => z) (fun d z => ?_) fun d xs z => ?_
    · rw [dHp_out (fun h => by obtain ⟨o, q⟩ := non h; rw [q] at z; cases z)]; exact z
    · rw [dHp_out (fun h => by obtain ⟨o, q⟩ := non h; rw [q] at z; cases z)]; exact z
def gGd (B : Gd) (priv : List Addr) (s : Shared) (h : ∀ b ∈ priv, ∃ o, s.heap.get? b = some o) : Gd where
  F := fun b => B.F b || decide (b ∈ priv)
  Hb := gHp priv s B.Hb
  W := B.W
  L := B.L
  ok := fun a q => by
    by_cases hm : a ∈ priv
    · obtain ⟨o, e⟩ := h a hm
      exact ⟨_, gHp_in hm e⟩
    · rw [gHp_out hm]
      have q' : (B.F a || decide (a ∈ priv)) = true := q
      rw [decide_eq_false hm, Bool.or_false] at q'
      exact B.ok a q'
  lF := fun a m q => by
    show (B.F a || _) = true
    rw [B.lF a m q]; rfl
variable {B : Gd} {ρ : List (Option D)} {O : Om} {h : ∀ b ∈ priv, ∃ o, s.heap.get? b = some o} {K : PySem.W.Frag}
theorem vis_lay (p : Prv n0 priv H s) : vis (gGd B priv s h).F O (gHp priv s H) = vis B.F O H := by
  funext b
  by_cases hm : b ∈ priv
  · have e1 : (gGd B priv s h).F b = true := by
      show (B.F b || decide (b ∈ priv)) = true
      rw [decide_eq_true hm, Bool.or_true]
    unfold vis
    rw [e1, (p.all b hm).2.1]
    simp
  · have e1 : (gGd B priv s h).F b = B.F b := by
      show (B.F b || decide (b ∈ priv)) = B.F b
      rw [decide_eq_false hm, Bool.or_false]
    unfold vis
    rw [e1, gHp_out hm]
theorem vis_drop {H2 : Hp} {O2 : Om} : vis (gGd B priv s h).F O2 H2 = vis B.F O2 (dHp priv H2) := by
  funext b
  by_cases hm : b ∈ priv
  · have e1 : (gGd B priv s h).F b = true := by
      show (B.F b || decide (b ∈ priv)) = true
      rw [decide_eq_true hm, Bool.or_true]
    unfold vis
    rw [e1, dHp_in hm]
    simp
  · have e1 : (gGd B priv s h).F b = B.F b := by
      show (B.F b || decide (b ∈ priv)) = B.F b
      rw [decide_eq_false hm, Bool.or_false]
    unfold vis
    rw [e1, dHp_out hm]
theorem st_lay (p : Prv n0 priv H s) (st : StOk K B ρ O σ H) : StOk K (gGd B priv s h) ρ O σ (gHp priv s H) := by
  have up : ∀ {b : Addr} {u : HO}, H b = some u → gHp priv s H b = some u := fun {b u} e => (gHp_out (p.out e)).trans e
  refine ⟨⟨fun a o e => ?_, fun a m q => ?_, st.m.nd, fun a m q => ?_⟩, ?_⟩
  · by_cases hm : a ∈ priv
    · have e' : gHp priv s B.Hb a = some o := e
      obtain ⟨_, hn, ob, ho⟩ := p.all a hm
      rw [gHp_in hm ho] at e'
      refine ⟨by rw [gHp_in hm ho]; exact e', ?_⟩
      cases q : has O a with
      | false => rfl
      | true =>
        obtain ⟨m, hm'⟩ := has_mem.mp q
        obtain ⟨u, hu⟩ := (st.m.mem a m hm').some
        rw [hn] at hu; cases hu
    · have e' : gHp priv s B.Hb a = some o := e
      rw [gHp_out hm] at e'
      obtain ⟨q1, q2⟩ := st.m.base a o e'
      exact ⟨up q1, q2⟩
  · rw [vis_lay p]
    exact (st.m.mem a m q).mono (Same.refl _) (fun u e => up e)
  · rw [vis_lay p]
    exact (st.m.lent a m q).mono (Same.refl _) (fun u e => up e)
  · rw [vis_lay p]
    exact st.env
theorem st_drop {σ2 : L2.St} {H2 : Hp} {ρ2 : List (Option D)} {O2 : Om} (p : Prv n0 priv H s) (m0 : ∀ a o, B.Hb a = some o → H a = some o) (st : StOk K (gGd B priv s h) ρ2 O2 σ2 H2) : StOk K B ρ2 O2 σ2 (dHp priv H2) := by
  have noO : ∀ a, a ∈ priv → has O2 a = false := fun a hm => by
    obtain ⟨_, hn, ob, ho⟩ := p.all a hm
    exact (st.m.base a _ (gHp_in hm ho)).2
  have keepO : ∀ {a : Addr} {m : M}, (a, m) ∈ O2 → a ∉ priv := fun {a m} q hm => by
    have := noO a hm
    rw [has_mem.mpr ⟨m, q⟩] at this; cases this
  have notL : ∀ {a : Addr} {m : M}, (a, m) ∈ B.L → a ∉ priv := fun {a m} q hm => by
    obtain ⟨o, e⟩ := B.ok a (B.lF a m q)
    exact p.out (m0 a o e) hm
  refine ⟨⟨fun a o e => ?_, fun a m q => ?_, st.m.nd, fun a m q => ?_⟩, ?_⟩
  · have hm := p.out (m0 a o e)
    obtain ⟨q1, q2⟩ := st.m.base a o (show gHp priv s B.Hb a = some o by rw [gHp_out hm]; exact e)
    exact ⟨(dHp_out hm).trans q1, q2⟩
  · have := st.m.mem a m q
    rw [vis_drop] at this
    exact this.mono (Same.refl _) (fun u e => (dHp_out (keepO q)).trans e)
  · have := st.m.lent a m q
    rw [vis_drop] at this
    exact this.mono (Same.refl _) (fun u e => (dHp_out (notL q)).trans e)
  · have := st.env
    rw [vis_drop] at this
    exact this
end
end DL

set_option Elab.async false
set_option linter.all false
set_option maxRecDepth 100000
set_option maxHeartbeats 4000000
namespace DL
open PySem PySem.Spec PyProof.Rows L2 GenW Psn
structure CalN (P : Program) (w : World) (K : PySem.W.Frag) (mg : Str → Option Value) (base : Heap) (k : Nat) (x : Str) (Ar : List D → List D → Prop) : Prop where
  ex : ∃ f fd ps, NFn P w K mg base k f fd ps Ar ∧ mg x = some (.ref f) ∧ PySem.W.keepIn K (.ref f) = true ∧ Binds K fd ps []
section
variable {X : Cx} {B : Gd} {ρ : List (Option D)} {O : Om} {body rest : List Stmt} {e iter : Expr} {es : List Expr} {ds ys : List D} {pos pos' p p1 : Pos} {x y : Str} {k i : Nat} {α β : Type}
theorem vsN {L : Om} {ds : List D} : Vs L (.lst ds) ds := .inl rfl
theorem inv_slept {pins : List (Addr × Obj)} {σ : L2.St} {H : Hp} {s s' q : Shared} (I : Inv X pins σ H q) (hb : AllBare s.gens) (z : Slept1 s s' q) : Inv X pins σ H s' := by
  obtain ⟨z1, _, _, z4⟩ := z
  rw [z1]
  exact ⟨I.ok, I.os, z4 hb I.bare, I.base, I.loc, I.cell, I.free, I.freeC, I.pin, I.hok, I.len⟩
theorem inv_gens {pins : List (Addr × Obj)} {σ : L2.St} {H : Hp} {s : Shared} {G : Array GenState} (I : Inv X pins σ H s) (hb : AllBare G) : Inv X pins σ H { s with gens := G } :=
  ⟨I.ok, I.os, hb, I.base, I.loc, I.cell, I.free, I.freeC, I.pin, I.hok, I.len⟩
end
end DL

set_option Elab.async false
set_option linter.all false
set_option maxRecDepth 100000
set_option maxHeartbeats 4000000
namespace DL
open PySem PySem.Spec PyProof.Rows L2 GenW
abbrev Bw (W : Wake) (ok : ∀ a, W.F a = true → ∃ o, W.H a = some o) : Gd := ⟨W.F, W.H, fun _ _ _ _ => False, [], ok, fun _ _ h => nomatch h⟩
def tNJ (K : PySem.W.Frag) (es : List D) (B : Gd) (ρ : List (Option D)) (O : Om) : TN := fun nx yl wk σ H => StOk K B ρ O σ H ∧ (∀ i W σ H, nxE es.length i W σ H → nx i W σ H) ∧ (∀ i W x H, ylE K es i W x H → yl i W x H) ∧ ∀ i W H W', wk i W H W' → wkE i W H W'
abbrev NJ (X : Cx) (n0 : Nat) (W : Wake) (B : Gd) (ss : List Stmt) (ρ : List (Option D)) (O : Om) (es : List D) : Prop := NSs X n0 es.length 0 W ss (tNJ X.K es B ρ O)
abbrev NJC {α : Type} (X : Cx) (n0 : Nat) (W : Wake) (B : Gd) (ss : List Stmt) (ρ : List (Option D)) (O : Om) (E : α → D) (m : Cmp (List α)) : Prop := m.ok → NJ X n0 W B ss ρ O (m.val.map E)
def forY {α γ : Type} (f : γ → Cmp (Option α)) : List γ → Cmp (List α)
  | [] => .ret []
  | x :: xs => (f x).bind fun o => (forY f xs).bind fun r => .ret (o.toList ++ r)
section
variable {X : Cx} {n0 : Nat} {W : Wake} {B : Gd} {ρ ρ' : List (Option D)} {O : Om} {es : List D} {st : Stmt} {rest body : List Stmt} {α β γ : Type} {E : α → D} {e iter : Expr} {d : D} {pos yp p : Pos} {x : Str}
theorem njc_req {q : Prop} {m : Cmp (List α)} (h : q → NJC X n0 W B rest ρ O E m) : NJC X n0 W B rest ρ O E (.req q m) := fun ok => h ok.1 ok.2
def tNB (K : PySem.W.Frag) (es : List D) (i : Nat) (W : Wake) (B : Gd) (ρ : List (Option D)) (o : Option D) : TN := fun nx yl wk σ H => StOk K B ρ [] σ H ∧ (∀ i W x H, ylE K es i W x H → yl i W x H) ∧ (∀ i W H W', wk i W H W' → wkE i W H W') ∧ match o with
  | none => ∀ σ' H', StOk K B ρ [] σ' H' → Same (vis B.F [] H) (vis B.F [] H') → nx i W σ' H'
  | some d => ∀ (W' : Wake) (ok' : ∀ a, W'.F a = true → ∃ o, W'.H a = some o) σ', StOk K (Bw W' ok') ρ [] σ' W'.H → Same (vis B.F [] H) (vis W'.F [] W'.H) → nx (i + 1) W' σ' W'.H
abbrev NB (X : Cx) (n0 N i : Nat) (W : Wake) (ok : ∀ a, W.F a = true → ∃ o, W.H a = some o) (body : List Stmt) (ρ : List (Option D)) (es : List D) (o : Option D) : Prop := (∀ d, o = some d → es[i]? = some d ∧ i < N) → NSs X n0 N i W body (tNB X.K es i W (Bw W ok) ρ o)
theorem nb_yield {N i : Nat} {ok : ∀ a, W.F a = true → ∃ o, W.H a = some o} (he : EV (wkC X n0 W) (Bw W ok) ρ [] e d) (hco : X.env.scope.isCoroutine = false := by rfl) (hi : interactive X.env = false := by rfl) : NB X n0 N i W ok [.Expr (.Yield (some e) yp) pos] ρ es (some d) := fun hd => by
  obtain ⟨h1, h2⟩ := hd d rfl
  refine nss_imp (nss_cons (ns1_yield he hco hi) fun i w => nss_nil) fun nx yl wk σ H ⟨s, y, w, n⟩ => ⟨h2, s, fun v H1 e1 r1 => ⟨y i W v H1 ⟨fun a u q => ((s.same e1).m.base a u q).1, d, h1, r1⟩, fun W' hw => ?_⟩⟩
  obtain ⟨hF, sm⟩ := w i W H1 W' hw
  refine n W' hF σ ⟨⟨fun a o q => ⟨q, rfl⟩, fun a m q => (nomatch q), by simp, fun a m q => (nomatch q)⟩, ?_⟩ ((vis_same e1).trans sm)
  exact (s.same e1).env.mono sm
theorem njc_for {xs : List γ} {E' : γ → D} {wi : TI} {G : Om → Prop} {f : γ → Cmp (Option α)} {ok : ∀ a, W.F a = true → ∃ o, W.H a = some o} (i : Nat) (nd : X.N.Nodup) (hc : X.calm = true) (hi : EI (wkC X n0 W) (Bw W ok) ρ [] (.Name x p) iter wi G (xs.map E')) (hG : G []) (hw : ρ[i]? = some none)
    (hb : ∀ y (W' : Wake) (ok' : ∀ a, W'.F a = true → ∃ o, W'.H a = some o) (j N : Nat) (es : List D), (f y).ok → NB X n0 N j W' ok' body (ρ.set i (some (E' y))) es ((f y).val.map E))
    (hix : X.N[i]? = some x := by rfl) (hx : Loc X.env.scope x := by first | exact .inl rfl | exact .inr rfl) (hf : X.fn x = true ∨ X.env.scope.names.lookup x = some .local := by first | exact .inr rfl | exact .inl rfl)
    (hfs : ∀ x, foldedSetIterable iter X.env x = pure x := by intro _; rfl) : NJC X n0 W (Bw W ok) [.For (.Name x p) iter body [] pos] ρ [] E (forY f xs) := fun okm => by
  have wk : ∀ d, Wk ρ (ρ.set i (some d)) := fun d => ⟨by simp, fun j d' e => by
    by_cases h : i = j
    · subst h; rw [hw] at e; cases e
    · rw [List.getElem?_set_ne h]; exact e⟩
  have any_ : ∀ j (w : Wake), NSs X n0 ((forY f xs).val.map E).length j w body (fun nx yl wk σ H => ∃ (ok' : ∀ a, w.F a = true → ∃ o, w.H a = some o) (ρ' : List (Option D)) (o : Option D), NB X n0 ((forY f xs).val.map E).length j w ok' body ρ' ((forY f xs).val.map E) o ∧ (∀ d, o = some d → ((forY f xs).val.map E)[j]? = some d ∧ j < ((forY f xs).val.map E).length) ∧ tNB X.K ((forY f xs).val.map E) j w (Bw w ok') ρ' o nx yl wk σ H) :=
    fun j w => ⟨fun A R Y Cs c fs K J gd lv pl s σ H nx yl wk g y k hp hi hc I ⟨ok', ρ', o, q, q2, s'⟩ => (q q2).run A R Y Cs c fs K J gd lv pl s σ H nx yl wk g y k hp hi hc I s'⟩
  refine nss_imp (nss_cons (ns1_for hc hi.pi (fun w => pg_name (X := wkC X n0 w) nd hix hx hf) any_ hfs) fun i w => nss_nil) fun nx yl wk' σ H ⟨st, n, y, w⟩ => hi.is σ H _ st fun J H1 e1 S => ?_
  have s1 := st.same e1
  refine ⟨fun j k w' m σ' H' => m = xs.length - j ∧ j ≤ xs.length ∧ (forY f (xs.drop j)).ok ∧ ((forY f xs).val.map E).drop k = (forY f (xs.drop j)).val.map E ∧ k ≤ ((forY f xs).val.map E).length ∧ ∃ (ok' : ∀ a, w'.F a = true → ∃ o, w'.H a = some o), StOk X.K (Bw w' ok') ρ [] σ' H' ∧ Same (vis W.F [] H1) (vis w'.F [] H'), ⟨xs.length, by simp, Nat.zero_le _, okm, rfl, Nat.zero_le _, ok, s1, Same.refl _⟩, ?_⟩
  rintro j k w' m σ' H' ⟨rfl, hj, okj, ej, hk, ok', s', sm⟩
  by_cases hlt : j < xs.length
  · have hlt' : j < (xs.map E').length := by rw [List.length_map]; exact hlt
    have e1 : xs.drop j = xs[j] :: xs.drop (j + 1) := List.drop_eq_getElem_cons hlt
    rw [e1] at okj ej
    obtain ⟨okf, okr, _⟩ := okj
    have ej' : ((forY f xs).val.map E).drop k = (((f xs[j]).val.toList) ++ (forY f (xs.drop (j + 1))).val).map E := ej
    refine .inr ⟨S.goes j (Bw w' ok') [] H' rfl hlt' s'.m sm hG, fun k' w2 σ2 H2 => (forY f (xs.drop (j + 1))).ok ∧ ((forY f xs).val.map E).drop k' = (forY f (xs.drop (j + 1))).val.map E ∧ k' ≤ ((forY f xs).val.map E).length ∧ ∃ (ok2 : ∀ a, w2.F a = true → ∃ o, w2.H a = some o), StOk X.K (Bw w2 ok2) ρ [] σ2 H2 ∧ Same (vis W.F [] H1) (vis w2.F [] H2),
      fun k' w2 σ2 H2 ⟨a1, a2, a3, a4⟩ => ⟨xs.length - (j + 1), by omega, rfl, hlt, a1, a2, a3, a4⟩, fun v H2 yy => ?_⟩
    obtain ⟨e2, d, hd, rv⟩ := S.yields j (Bw w' ok') [] H' v H2 rfl hlt' s'.m sm hG yy
    have hd' : d = E' xs[j] := by
      rw [List.getElem?_map, List.getElem?_eq_getElem hlt] at hd
      exact (Option.some.inj hd).symm
    subst hd'
    have s2 := (s'.same e2).set (i := i) rv
    have sm2 := sm.trans (vis_same (F := w'.F) (O := []) e2)
    refine ⟨ok', ρ.set i (some (E' xs[j])), (f xs[j]).val.map E, hb xs[j] w' ok' k _ _ okf, fun d hd => ?_, s2, y, w, ?_⟩
    · cases q : (f xs[j]).val with
      | none => rw [q] at hd; cases hd
      | some a =>
        rw [q] at hd ej'
        cases hd
        have h0 : (((forY f xs).val.map E).drop k)[0]? = some (E a) := by rw [ej']; rfl
        rw [List.getElem?_drop, Nat.add_zero] at h0
        exact ⟨h0, (List.getElem?_eq_some_iff.mp h0).1⟩
    · cases q : (f xs[j]).val with
      | none =>
        rw [q] at ej'
        exact fun σ3 H3 s3 sm3 => ⟨okr, ej', hk, ok', s3.weak (wk _), sm2.trans sm3⟩
      | some a =>
        rw [q] at ej'
        have hk1 : k < ((forY f xs).val.map E).length := by
          have h0 : (((forY f xs).val.map E).drop k)[0]? = some (E a) := by rw [ej']; rfl
          rw [List.getElem?_drop, Nat.add_zero] at h0
          exact (List.getElem?_eq_some_iff.mp h0).1
        have ej2 : ((forY f xs).val.map E).drop (k + 1) = (forY f (xs.drop (j + 1))).val.map E := by
          rw [← List.drop_drop, ej']; rfl
        exact fun w3 ok3 σ3 s3 sm3 => ⟨okr, ej2, hk1, ok3, s3.weak (wk _), sm2.trans sm3⟩
  · have e : j = xs.length := by omega
    subst e
    rw [List.drop_length] at ej
    have hk' : k = ((forY f xs).val.map E).length := by
      have := congrArg List.length ej
      rw [List.length_drop] at this
      have e0 : ((forY f ([] : List γ)).val.map E).length = 0 := rfl
      rw [e0] at this
      omega
    refine .inl ⟨by
      have := S.stops (Bw w' ok') [] H' rfl s'.m sm hG
      rwa [List.length_map] at this, n k w' σ' H' ⟨hk', fun a u q => (s'.m.base a u q).1⟩⟩
end
section
variable {P : Program} {w : World} {K : PySem.W.Frag} {mg : Str → Option Value} {base : Heap}
structure FunG (K : PySem.W.Frag) (x qual : Str) (st : Stmt) (f : Addr) (fd : FuncData) : Prop where
  ex : ∃ (oc : Value) (od : Option Addr) (dV kV doc pm : Value) (an : Option Addr) (cdv ct : Value) (osl : Array (Option Value)),
    fd = PySem.W.fnOf x qual (defArgs st) (defBody st) (defScope st) dV kV doc pm an cdv ct ∧ K.lookup f = some ⟨oc, od, .func fd, osl⟩ ∧ PySem.W.codeIn K cdv qual = true
theorem funG_of {x qual : Str} {st : Stmt} {f : Addr} {fd : FuncData} (F : Fun K x qual st f fd) : FunG K x qual st f fd := by
  obtain ⟨oc, od, kV, doc, pm, an, cdv, ct, osl, e, lk, hcd⟩ := F.ex
  exact ⟨⟨oc, od, _, kV, doc, pm, an, cdv, ct, osl, e, lk, hcd⟩⟩
theorem fn_genN {Ar : List D → List D → Prop} {x qual : Str} {st : Stmt} {f : Addr} {fd : FuncData} {N ps : List Str} {k : Nat} (F : FunG K x qual st f fd) (S : GScope N ps (defScope st)) (len : ∀ ds es, Ar ds es → ds.length = ps.length)
    (h : ∀ (cdv : Value) (A : Around) (outer : List Env) (n0 : Nat) (pn : List (Addr × Obj)) (W : Wake) (ok : ∀ a, W.F a = true → ∃ o, W.H a = some o) (ds es : List D), Room k (A.deeper (envOfC qual (defScope st) n0 f cdv)) → Ar ds es →
      NJ (gNw P w K mg base N qual (defScope st) f cdv A outer n0 pn W) n0 W (Bw W ok) (defBody st) (startD N ds) [] es) : NFn P w K mg base (k + 1) f fd ps Ar := by
  obtain ⟨oc, od, dV, kV, doc, pm, an, cdv, ct, osl, rfl, lk, hcd⟩ := F.ex
  refine nfn_of lk hcd S len fun A outer n0 pn W vs ds es hr hF hrp har => ⟨_, h cdv A outer n0 pn W hF ds es hr har, ?_⟩
  exact ⟨⟨⟨fun a o e => ⟨e, rfl⟩, fun a m hm => (nomatch hm), by simp, fun a m hm => (nomatch hm)⟩, start_env hrp⟩, fun _ _ _ _ z => z, fun _ _ _ _ z => z, fun _ _ _ _ z => z⟩
end
section
variable {X : Cx} {B : Gd} {ρ : List (Option D)} {O : Om} {body rest : List Stmt} {iter : Expr} {pos p : Pos} {x : Str} {k : Nat} {α S L R : Type} {E : α → D}
end
end DL

set_option Elab.async false
set_option linter.all false
set_option maxRecDepth 100000
set_option maxHeartbeats 4000000
namespace DL
open PySem PySem.Spec PyProof.Rows L2 GenW Psn
noncomputable def bP (p : Prop) : Bool := @decide p (Classical.propDecidable p)
theorem bP_iff {p : Prop} : bP p = true ↔ p := by unfold bP; exact @decide_eq_true_iff p (Classical.propDecidable p)
def isL : Option HO → Bool
  | some (.lst _) => true
  | _ => false
theorem isL_some {o : Option HO} (h : isL o = true) : ∃ vs, o = some (.lst vs) := by
  cases o with
  | none => cases h
  | some u => cases u with
    | lst vs => exact ⟨vs, rfl⟩
    | _ => cases h
def rowsD (ds : List D) : Prop := ∀ d ∈ ds, ∃ (n : Int) (ns : List Int), d = .tup (.int n :: ns.map D.int)
def okHd : List D → Bool
  | [] => true
  | .str _ :: _ => true
  | .obj _ _ _ :: _ => true
  | .tup (.str _ :: _) :: _ => true
  | _ => false
mutual
/-- a datum all of whose lists begin like no row -/
def argOk : D → Bool
  | .non => true
  | .bl _ => true
  | .int _ => true
  | .str _ => true
  | .ty _ => true
  | .rf _ => true
  | .tup ds => argOks ds
  | .lst ds => okHd ds && argOks ds
  | .frl ds => okHd ds && argOks ds
  | .obj _ _ ds => argOks ds
  | .dct _ => false
def argOks : List D → Bool
  | [] => true
  | d :: ds => argOk d && argOks ds
end
section
variable {K : PySem.W.Frag} {H H' : Hp}
theorem rows_tr (hb : ∀ b o, H b = some o → isL (some o) = false → H' b = some o) : ∀ {vs : List V} {ds : List D}, RpL K H vs ds → rowsD ds → RpL K H' vs ds
  | _, _, .nil, _ => .nil
  | _, _, .cons (v := v) (d := d) h r, q => by
    refine .cons ?_ (rows_tr hb r fun d hd => q d (List.mem_cons_of_mem _ hd))
    obtain ⟨n, ns, e⟩ := q d List.mem_cons_self
    subst e
    cases h with
    | tup s r =>
      have e := RpL.ints (ns := n :: ns) r
      subst e
      refine .tup ?_ (RpL.ofInts (n :: ns))
      rcases s with (s | ⟨o, s⟩) | s
      · exact .inl (.inl (hb _ _ s rfl))
      · exact .inl (.inr ⟨o, hb _ _ s rfl⟩)
      · exact .inr s
theorem rows_apart {Ha Hb : Hp} (hK : ∀ b o, K.lookup b = some o → H b = none) (ea : Same Ha H) (eb : Same Hb H) : ∀ {vs : List V} {ds ds' : List D}, RpL K Ha vs ds → RpL K Hb vs ds' → rowsD ds → ds ≠ [] → okHd ds' = true → False
  | _, _, _, .nil, _, _, h, _ => h rfl
  | _, _, _, .cons (d := d) h r, .cons (d := d') h' r', q, _, k => by
    obtain ⟨n, ns, e⟩ := q d List.mem_cons_self
    subst e
    cases h with
    | tup s1 r1 =>
      cases h' with
      | obj e _ _ =>
        rcases s1 with (s1 | ⟨o, s1⟩) | ⟨o, _, _, s1, _⟩
        · have := (eb _ _ e).symm.trans (ea _ _ s1); cases this
        · have := (eb _ _ e).symm.trans (ea _ _ s1); cases this
        · have := hK _ _ s1; rw [eb _ _ e] at this; cases this
      | tup s2 r2 =>
        have nn : ∀ {ws ws' : List V} {n : Int} {x : Str} {ns ds : List D}, RpL K Ha ws (.int n :: ns) → RpL K Hb ws' (.str x :: ds) → ∃ r r', ws = .int n :: r ∧ ws' = .str x :: r' := fun a b => by
          cases a with
          | cons a1 a2 => cases a1; cases b with
            | cons b1 b2 => cases b1; exact ⟨_, _, rfl, rfl⟩
        rename_i ds2
        cases ds2 with
        | nil => cases k
        | cons d2 ds2 =>
          cases d2 with
          | str x =>
            obtain ⟨w1, w2, e1, e2⟩ := nn r1 r2
            subst e1 e2
            rcases s1 with s1 | ⟨o1, its1, n1, l1, _, dt1, _, v1⟩
            · rcases s2 with s2 | ⟨o2, its2, n2, l2, _, dt2, _, v2⟩
              · rcases s1 with s1 | ⟨o1, s1⟩ <;> rcases s2 with s2 | ⟨o2, s2⟩ <;> (have := (ea _ _ s1).symm.trans (eb _ _ s2); cases this)
              · have := hK _ _ l2
                rcases s1 with s1 | ⟨o1, s1⟩ <;> (rw [ea _ _ s1] at this; cases this)
            · rcases s2 with s2 | ⟨o2, its2, n2, l2, _, dt2, _, v2⟩
              · have := hK _ _ l1
                rcases s2 with s2 | ⟨o2, s2⟩ <;> (rw [eb _ _ s2] at this; cases this)
              · rw [l1] at l2
                cases l2
                rw [dt1] at dt2
                cases dt2
                generalize its1.toList = us at v1 v2
                cases v1 with
                | cons a1 _ => cases v2 with
                  | cons a2 _ => obtain ⟨_, z1⟩ := a1; obtain ⟨_, z2⟩ := a2; rw [z1] at z2; cases z2
          | _ => cases k
      | _ => cases k
def SL (K : PySem.W.Frag) (F : Addr → Bool) (H : Hp) (b : Addr) : Prop := ∃ vs ds, H b = some (.lst vs) ∧ RpL K (vis F [] H) vs ds ∧ okHd ds = true
noncomputable def wF (K : PySem.W.Frag) (B : Gd) (O : Om) (G : Addr → Bool) (H : Hp) : Addr → Bool := fun b => frF B O b || (isL (H b) && (!G b && !bP (SL K (frF B O) H b)))
theorem wF_false {B : Gd} {O : Om} {G : Addr → Bool} {b : Addr} (h : wF K B O G H b = false) : frF B O b = false ∧ (isL (H b) = true → G b = true ∨ SL K (frF B O) H b) := by
  unfold wF at h
  rw [Bool.or_eq_false_iff] at h
  refine ⟨h.1, fun hl => ?_⟩
  have h2 := h.2
  rw [hl, Bool.true_and] at h2
  cases q : G b with
  | true => exact .inl rfl
  | false =>
    rw [q] at h2
    have h2 : (!bP (SL K (frF B O) H b)) = false := h2
    exact .inr (bP_iff.mp (by cases z : bP (SL K (frF B O) H b) with | true => rfl | false => rw [z] at h2; cases h2))
theorem wF_mk {B : Gd} {O : Om} {G : Addr → Bool} {b : Addr} (h : frF B O b = false) (k : isL (H b) = true → G b = true ∨ SL K (frF B O) H b) : wF K B O G H b = false := by
  unfold wF
  rw [h, Bool.false_or]
  cases q : isL (H b) with
  | false => rfl
  | true =>
    rcases k q with z | z
    · rw [z]; rfl
    · rw [bP_iff.mpr z, Bool.not_true, Bool.and_false, Bool.and_false]
theorem wF_ok {B : Gd} {O : Om} {G : Addr → Bool} (m : MOk K B O H) (b : Addr) (h : wF K B O G H b = true) : ∃ o, H b = some o := by
  unfold wF at h
  rw [Bool.or_eq_true] at h
  rcases h with h | h
  · exact fr_ok m b h
  · rw [Bool.and_eq_true] at h
    obtain ⟨vs, e⟩ := isL_some h.1
    exact ⟨_, e⟩
mutual
theorem arg_tr {B : Gd} {O : Om} {G : Addr → Bool} : ∀ {v : V} {d : D}, Rp K (vis (frF B O) [] H) v d → argOk d = true → Rp K (vis (wF K B O G H) [] H) v d
  | _, _, .non, _ => .non
  | _, _, .bl b, _ => .bl b
  | _, _, .int b, _ => .int b
  | _, _, .str b, _ => .str b
  | _, _, .ty b, _ => .ty b
  | _, _, .rf b, _ => .rf b
  | _, _, .tup h r, q => by
    refine .tup ?_ (args_tr r (by unfold argOk at q; exact q))
    have nl : ∀ {a : Addr} {o : HO}, vis (frF B O) [] H a = some o → isL (some o) = false → vis (wF K B O G H) [] H a = some o := fun {a o} e n => by
      obtain ⟨e1, e2, e3⟩ := vis_some.mp e
      exact vis_some.mpr ⟨wF_mk e1 (fun z => by rw [e3, n] at z; cases z), e2, e3⟩
    rcases h with (h | ⟨o, h⟩) | h
    · exact .inl (.inl (nl h rfl))
    · exact .inl (.inr ⟨o, nl h rfl⟩)
    · exact .inr h
  | _, _, .lst h r, q => by
    unfold argOk at q
    obtain ⟨q1, q2⟩ := (Bool.and_eq_true _ _).mp q
    obtain ⟨e1, e2, e3⟩ := vis_some.mp h
    exact .lst (vis_some.mpr ⟨wF_mk e1 fun _ => .inr ⟨_, _, e3, r, q1⟩, e2, e3⟩) (args_tr r q2)
  | _, _, .frl h r, q => by
    unfold argOk at q
    obtain ⟨q1, q2⟩ := (Bool.and_eq_true _ _).mp q
    refine .frl ?_ (args_tr r q2)
    rcases h with (h | ⟨o, h⟩) | h
    · obtain ⟨e1, e2, e3⟩ := vis_some.mp h
      exact .inl (.inl (vis_some.mpr ⟨wF_mk e1 fun _ => .inr ⟨_, _, e3, r, q1⟩, e2, e3⟩))
    · obtain ⟨e1, e2, e3⟩ := vis_some.mp h
      exact .inl (.inr ⟨o, vis_some.mpr ⟨wF_mk e1 (fun z => by rw [e3] at z; cases z), e2, e3⟩⟩)
    · exact .inr h
  | _, _, .obj h n r, q => by
    unfold argOk at q
    obtain ⟨e1, e2, e3⟩ := vis_some.mp h
    exact .obj (vis_some.mpr ⟨wF_mk e1 (fun z => by rw [e3] at z; cases z), e2, e3⟩) n (args_tr r q)
  | _, _, .dct _ _ _ _, q => by unfold argOk at q; cases q
theorem args_tr {B : Gd} {O : Om} {G : Addr → Bool} : ∀ {vs : List V} {ds : List D}, RpL K (vis (frF B O) [] H) vs ds → argOks ds = true → RpL K (vis (wF K B O G H) [] H) vs ds
  | _, _, .nil, _ => .nil
  | _, _, .cons h r, q => by
    unfold argOks at q
    obtain ⟨q1, q2⟩ := (Bool.and_eq_true _ _).mp q
    exact .cons (arg_tr h q1) (args_tr r q2)
end
end
abbrev Ls (as : List Addr) (dss : List (List D)) : Om := (as.zip dss).map fun p => (p.1, M.lst p.2)
theorem Ls_snoc : ∀ {as : List Addr} {dss : List (List D)} {ds : List D} {a : Addr}, dss[as.length]? = some ds → Ls (as ++ [a]) dss = Ls as dss ++ [(a, M.lst ds)]
  | [], [], _, _, h => by simp at h
  | [], d :: dss, ds, a, h => by
    have : d = ds := by simpa using h
    subst this
    show Ls (a :: []) (d :: dss) = [(a, M.lst d)]
    simp [Ls]
  | b :: as, [], _, _, h => by simp at h
  | b :: as, d :: dss, ds, a, h => by
    have := Ls_snoc (as := as) (dss := dss) (ds := ds) (a := a) (by simpa using h)
    show (b, M.lst d) :: Ls (as ++ [a]) dss = (b, M.lst d) :: (Ls as dss ++ [(a, M.lst ds)])
    rw [this]
def zGd (B : Gd) (G : Addr → Bool) (H : Hp) (L' : Om) (h : ∀ b, G b = true → ∃ o, H b = some o) (hL : ∀ a m, (a, m) ∈ L' → G a = true) : Gd where
  F := fun b => B.F b || G b
  Hb := fun b => if G b = true then H b else B.Hb b
  W := B.W
  L := L' ++ B.L
  ok := fun a q => by
    by_cases g : G a = true
    · obtain ⟨o, e⟩ := h a g
      exact ⟨o, by rw [if_pos g]; exact e⟩
    · have q' : (B.F a || G a) = true := q
      rw [Bool.not_eq_true] at g
      rw [g, Bool.or_false] at q'
      rw [if_neg (by rw [g]; decide)]
      exact B.ok a q'
  lF := fun a m q => by
    show (B.F a || G a) = true
    rcases List.mem_append.mp q with q | q
    · rw [hL a m q, Bool.or_true]
    · rw [B.lF a m q]; rfl
section
variable {K : PySem.W.Frag} {B : Gd} {G G' : Addr → Bool} {H0 H H' : Hp} {L' : Om} {h : ∀ b, G b = true → ∃ o, H0 b = some o} {hL : ∀ a m, (a, m) ∈ L' → G a = true} {ρ : List (Option D)} {O : Om} {σ : L2.St}
theorem z_vis : Same (vis (zGd B G H0 L' h hL).F O H) (vis B.F O H) := fun a o e => by
  obtain ⟨e1, e2, e3⟩ := vis_some.mp e
  have e1 : (B.F a || G a) = false := e1
  exact vis_some.mpr ⟨(Bool.or_eq_false_iff.mp e1).1, e2, e3⟩
theorem z_unM (hb : ∀ b o, B.Hb b = some o → G b = false) (m : MOk K (zGd B G H0 L' h hL) O H) : MOk K B O H :=
  ⟨fun a o e => m.base a o (show (if G a = true then H0 a else B.Hb a) = some o by rw [hb a o e]; exact e), fun a mm q => (m.mem a mm q).mono z_vis fun _ e => e, m.nd, fun a mm q => (m.lent a mm (List.mem_append_right _ q)).mono z_vis fun _ e => e⟩
theorem z_un (hb : ∀ b o, B.Hb b = some o → G b = false) (s : StOk K (zGd B G H0 L' h hL) ρ O σ H) : StOk K B ρ O σ H := ⟨z_unM hb s.m, s.env.mono z_vis⟩
theorem z_at (m : MOk K (zGd B G H0 L' h hL) O H) {b : Addr} (g : G b = true) : ∃ o, H0 b = some o ∧ H b = some o ∧ has O b = false := by
  obtain ⟨o, e⟩ := h b g
  obtain ⟨q1, q2⟩ := m.base b o (show (if G b = true then H0 b else B.Hb b) = some o by rw [if_pos g]; exact e)
  exact ⟨o, e, q1, q2⟩
theorem z_re (s : StOk K (zGd B G H0 L' h hL) ρ O σ H) (h2 : ∀ b, G b = true → ∃ o, H b = some o) : StOk K (zGd B G H L' h2 hL) ρ O σ H := by
  refine ⟨⟨fun a o e => ?_, s.m.mem, s.m.nd, s.m.lent⟩, s.env⟩
  have e : (if G a = true then H a else B.Hb a) = some o := e
  by_cases g : G a = true
  · rw [if_pos g] at e
    obtain ⟨_, _, _, q⟩ := z_at s.m g
    exact ⟨e, q⟩
  · rw [if_neg g] at e
    exact s.m.base a o (show (if G a = true then H0 a else B.Hb a) = some o by rw [if_neg g]; exact e)
theorem z_step {h : ∀ b, G b = true → ∃ o, H b = some o} (ext : Same H H') (s : StOk K (zGd B G H L' h hL) ρ O σ H) (eG : ∀ b, G' b = (G b || ((H b).isNone && isL (H' b)))) {L2 : Om} (h2 : ∀ b, G' b = true → ∃ o, H' b = some o) (hL2 : ∀ a m, (a, m) ∈ L2 → G' a = true)
    (hl : ∀ a m, (a, m) ∈ L2 → (a, m) ∈ L' ∨ MRp K (vis (fun b => B.F b || G' b) O H') H' a m) : StOk K (zGd B G' H' L2 h2 hL2) ρ O σ H' ∧ Same (vis (zGd B G H L' h hL).F O H) (vis (zGd B G' H' L2 h2 hL2).F O H') := by
  have sm : Same (vis (zGd B G H L' h hL).F O H) (vis (zGd B G' H' L2 h2 hL2).F O H') := fun a o e => by
    obtain ⟨e1, e2, e3⟩ := vis_some.mp e
    have e1 : (B.F a || G a) = false := e1
    obtain ⟨f1, f2⟩ := Bool.or_eq_false_iff.mp e1
    refine vis_some.mpr ⟨?_, e2, ext _ _ e3⟩
    show (B.F a || G' a) = false
    rw [f1, eG, f2, e3]; rfl
  refine ⟨⟨⟨fun a o e => ?_, fun a m q => (s.m.mem a m q).mono sm fun o e => ext _ _ e, s.m.nd, fun a m q => ?_⟩, s.env.mono sm⟩, sm⟩
  · have e : (if G' a = true then H' a else B.Hb a) = some o := e
    by_cases g : G' a = true
    · rw [if_pos g] at e
      refine ⟨e, ?_⟩
      by_cases g0 : G a = true
      · obtain ⟨_, _, _, q⟩ := z_at s.m g0; exact q
      · rw [Bool.not_eq_true] at g0
        rw [eG, g0, Bool.false_or] at g
        have hn : H a = none := by
          have := ((Bool.and_eq_true _ _).mp g).1
          cases q : H a with
          | none => rfl
          | some u => rw [q] at this; cases this
        exact s.m.newO hn
    · rw [if_neg g] at e
      rw [Bool.not_eq_true] at g
      rw [eG] at g
      have g0 := (Bool.or_eq_false_iff.mp g).1
      obtain ⟨q1, q2⟩ := s.m.base a o (show (if G a = true then H a else B.Hb a) = some o by rw [g0]; exact e)
      exact ⟨ext _ _ q1, q2⟩
  · rcases List.mem_append.mp q with q | q
    · rcases hl a m q with q | q
      · exact (s.m.lent a m (List.mem_append_left _ q)).mono sm fun o e => ext _ _ e
      · exact q
    · exact (s.m.lent a m (List.mem_append_right _ q)).mono sm fun o e => ext _ _ e
theorem z_thaw {cs : List (Addr × List D)} (hb : ∀ b o, B.Hb b = some o → G b = false) (s : StOk K (zGd B G H0 L' h hL) ρ O σ H) (nd : (cs.map (·.1)).Nodup) (hc : ∀ p ∈ cs, (p.1, M.lst p.2) ∈ L') :
    StOk K B ρ (O ++ cs.map fun p => (p.1, M.lst p.2)) σ H ∧ Same (vis (zGd B G H0 L' h hL).F O H) (vis B.F (O ++ cs.map fun p => (p.1, M.lst p.2)) H) := by
  have inG : ∀ {a : Addr} {m : M}, (a, m) ∈ cs.map (fun p => (p.1, M.lst p.2)) → (a, m) ∈ L' := fun {a m} q => by
    obtain ⟨p, hp, e⟩ := List.mem_map.mp q
    cases e
    exact hc p hp
  have hasA : ∀ a, has (O ++ cs.map fun p => (p.1, M.lst p.2)) a = true → has O a = true ∨ G a = true := fun a q => by
    obtain ⟨m, q⟩ := has_mem.mp q
    rcases List.mem_append.mp q with q | q
    · exact .inl (has_mem.mpr ⟨m, q⟩)
    · exact .inr (hL a m (inG q))
  have hasF : ∀ a, has O a = false → G a = false → has (O ++ cs.map fun p => (p.1, M.lst p.2)) a = false := fun a q g => by
    cases z : has (O ++ cs.map fun p => (p.1, M.lst p.2)) a with
    | false => rfl
    | true =>
      rcases hasA a z with z | z
      · rw [q] at z; cases z
      · rw [g] at z; cases z
  have sm : Same (vis (zGd B G H0 L' h hL).F O H) (vis B.F (O ++ cs.map fun p => (p.1, M.lst p.2)) H) := fun a o e => by
    obtain ⟨e1, e2, e3⟩ := vis_some.mp e
    have e1 : (B.F a || G a) = false := e1
    obtain ⟨f1, f2⟩ := Bool.or_eq_false_iff.mp e1
    exact vis_some.mpr ⟨f1, hasF a e2 f2, e3⟩
  refine ⟨⟨⟨fun a o e => ?_, fun a m q => ?_, ?_, fun a m q => (s.m.lent a m (List.mem_append_right _ q)).mono sm fun _ e => e⟩, s.env.mono sm⟩, sm⟩
  · have g := hb a o e
    obtain ⟨q1, q2⟩ := s.m.base a o (show (if G a = true then H0 a else B.Hb a) = some o by rw [g]; exact e)
    exact ⟨q1, hasF a q2 g⟩
  · rcases List.mem_append.mp q with q | q
    · exact (s.m.mem a m q).mono sm fun _ e => e
    · exact (s.m.lent a m (List.mem_append_left _ (inG q))).mono sm fun _ e => e
  · rw [List.map_append]
    refine List.nodup_append.mpr ⟨s.m.nd, ?_, fun a ha b hb e => ?_⟩
    · rw [List.map_map]; exact nd
    · subst e
      obtain ⟨p, hp, rfl⟩ := List.mem_map.mp ha
      rw [List.map_map] at hb
      obtain ⟨c, hcc, e⟩ := List.mem_map.mp hb
      have e : c.1 = p.1 := e
      obtain ⟨_, _, _, q⟩ := z_at s.m (hL _ _ (hc c hcc))
      rw [e, has_mem.mpr ⟨p.2, hp⟩] at q; cases q
end
theorem pick_once : ∀ (as : List Addr) (dss : List (List D)), as.length = dss.length → ∃ cs : List (Addr × List D), (cs.map (·.1)).Nodup ∧ (∀ p ∈ cs, (p.1, M.lst p.2) ∈ Ls as dss) ∧ ∀ a ∈ as, a ∈ cs.map (·.1)
  | [], [], _ => ⟨[], by simp, by simp, by simp⟩
  | a :: as, d :: dss, e => by
    obtain ⟨cs, h1, h2, h3⟩ := pick_once as dss (by simpa using e)
    have tl : ∀ {p : Addr × M}, p ∈ Ls as dss → p ∈ Ls (a :: as) (d :: dss) := fun q => List.mem_cons_of_mem _ q
    by_cases z : a ∈ cs.map (·.1)
    · exact ⟨cs, h1, fun p hp => tl (h2 p hp), fun b hb => by
        rcases List.mem_cons.mp hb with rfl | hb
        · exact z
        · exact h3 b hb⟩
    · refine ⟨(a, d) :: cs, List.nodup_cons.mpr ⟨z, h1⟩, fun p hp => ?_, fun b hb => ?_⟩
      · rcases List.mem_cons.mp hp with rfl | hp
        · exact List.mem_cons_self
        · exact tl (h2 p hp)
      · rcases List.mem_cons.mp hb with rfl | hb
        · exact List.mem_cons_self
        · exact List.mem_cons_of_mem _ (h3 b hb)
end DL

set_option Elab.async false
set_option linter.all false
set_option maxRecDepth 100000
set_option maxHeartbeats 4000000
namespace DL
open PySem PySem.Spec PyProof.Rows L2 GenW Psn
structure EGz (X : Cx) (k : Nat) (B : Gd) (ρ : List (Option D)) (O : Om) (e : Expr) (es : List D) : Prop where
  run : ∀ (pins : List (Addr × Obj)) (s : Shared) (σ : L2.St) (H : Hp), Inv X pins σ H s → StOk X.K B ρ O σ H → wpAny (model X.prog X.w) X.A (eval e X.env)
    (fun u s' => ∃ H1 sc, Inv X pins σ H1 sc ∧ StOk X.K B ρ O σ H1 ∧ Same H H1 ∧ NMade X.prog X.w X.K X.mg X.base k X.stack (wF X.K B O (fun _ => false) H1) H1 sc es u s') X.xe s
def tFor (K : PySem.W.Frag) (B : Gd) (ρ : List (Option D)) (O : Om) (rt : D → Om → Prop) (n : Nat) (dss : List (List D)) (R : List Addr → List (Option D) → Om → Prop) : TS := fun Dn σ H => StOk K B ρ O σ H ∧
  (∀ σ' H' as ρ' O' G hG hL, R as ρ' O' → as.length = n → (∀ b o, B.Hb b = some o → G b = false) → StOk K (zGd B G H' (Ls as dss) hG hL) ρ' O' σ' H' → Same (vis B.F O H) (vis (zGd B G H' (Ls as dss) hG hL).F O' H') → Dn.nx σ' H') ∧
  ∀ d O' v H', rt d O' → MOk K B O' H' → Rp K (vis B.F O' H') v d → Dn.rt v H'
section
variable {X : Cx} {B : Gd} {ρ : List (Option D)} {O : Om} {body rest : List Stmt} {e iter : Expr} {es : List Expr} {ds ys : List D} {pos pos' p p1 : Pos} {x y : Str} {k i : Nat} {α β : Type}
theorem egz_call {Ar : List D → List D → Prop} (c : CalN X.prog X.w X.K X.mg X.base k x Ar) (hr : Room k X.A) (hg : Gl X x) (ha : EA X B ρ O (e :: es) ds) (hok : argOks ds = true) (h : Ar ds ys) (hdb : (x == ("__debug__" : Str)) = false := by decide)
    (he : starEach (e :: es) X.env = (false, eval e X.env) :: starEach es X.env := by rfl) (hpl : (backTo pos' (starEach es X.env)).any (·.1) = false := by rfl) : EGz X k B ρ O (.Call (.Name x p) (e :: es) [] pos') ys := by
  obtain ⟨f, fd, ps, F, hm, hk, hb⟩ := c.ex
  refine ⟨fun pins s σ H I st => ?_⟩
  refine wpAny_Call_Name_kw (ld_glob I hg hm ?_ hdb)
  refine PySem.W.callWith_K (h₀ := X.base) I.ok.mod.kin hk (thn (ha.run pos' pins s σ H (fun vs H1 => Same H H1 ∧ RpL X.K (vis B.F O H1) vs ds) I ⟨st, fun vs H' e1 r1 => ⟨e1, r1⟩⟩) fun us s1 ⟨vs, H1, I1, r, e1, q⟩ => ⟨I1.kIn, ?_⟩) he hpl
  have m := (st.same e1).m
  have hl : us.length = ps.length := by rw [← r.length, q.length]; exact F.len _ _ h
  have hl2 : (us ++ []).length = ps.length := by rw [List.append_nil]; exact hl
  have hb' := hb s1 us I1.kIn hl2
  rw [List.append_nil] at hb'
  refine wpAny_call (codeAny_mono (F.run X.A X.stack s1 H1 ⟨us, []⟩ us vs (wF X.K B O (fun _ => false) H1) ds ys hr I1.env0 hb' r (wF_ok m) (args_tr (by rw [vis_fr]; exact q) hok) h) fun r s' hq => ?_)
  cases r with
  | error e => exact False.elim hq
  | ok fl =>
    cases fl with
    | ret u => exact ⟨H1, s1, I1, st.same e1, e1, hq⟩
    | next => exact False.elim hq
    | brk => exact False.elim hq
    | cont => exact False.elim hq
theorem ps_forZ {rt : D → Om → Prop} (dss : List (List D)) (R : Nat → List Addr → List (Option D) → Om → Prop) (hx : ∀ e s, ¬ X.xe e s) (hc : X.calm = true) (hg : EGz X k B ρ O iter (dss.map D.lst)) (hrow : ∀ ds ∈ dss, ds ≠ [] ∧ rowsD ds) (hr : Room (k + 3) X.A) (hN : X.N.Nodup) (hi : X.N[i]? = some x) (hlx : Loc X.env.scope x) (hf : X.fn x = true ∨ X.env.scope.names.lookup x = some .local)
    (h0 : ∃ ρ0, Wk ρ0 ρ ∧ R 0 [] ρ0 O)
    (hs : ∀ B' : Gd, B'.W = B.W → ∀ as a ds ρ O, dss[as.length]? = some ds → B'.L = Ls (as ++ [a]) dss ++ B.L → R as.length as ρ O → J X B' body (ρ.set i (some (.rf a))) O { nx := fun ρ2 O2 => ∃ ρ3, Wk ρ3 ρ2 ∧ R (as.length + 1) (as ++ [a]) ρ3 O2, rt := rt })
    (hfs : ∀ x, foldedSetIterable iter X.env x = pure x := by intro _; rfl) : PS X (.For (.Name x p) iter body [] pos) (tFor X.K B ρ O rt dss.length dss (R dss.length)) := by
  refine ⟨fun pins s σ H Dn I ⟨st, pn, pr⟩ => ?_⟩
  have no : ∀ {α : Type} {t : Sem α} {Q : α → Shared → Prop} {E : Value → Shared → Prop} {s : Shared}, wpAny (model X.prog X.w) X.A t Q X.xe s → wpAny (model X.prog X.w) X.A t Q E s := fun h => wpAny_mono h (fun _ _ z => z) fun e s z => (hx e s z).elim
  refine wpAny_For (thn (hg.run pins s σ H I st) fun u s1 h1 => ?_) hfs
  obtain ⟨H1, sc, I1, st1, sm1, a, g, c, go, rfl, ha1, ha2, hgo, hgen, hgs, hos, hba, hlim, hkp, wake⟩ := h1
  refine wpAny_pyIter_gen (hgen _ hgo) ?_
  have hh : X.A.handled = none := I.ok.hd hc
  obtain ⟨ρ0, w0, h0⟩ := h0
  have yl : (dss.map D.lst).length = dss.length := List.length_map _
  -- sizes
  have z0 : X.s_0.heap.objs.size ≤ sc.heap.objs.size := I1.sz
  have zl : X.env.locals < sc.heap.objs.size := I1.lt
  have zc : ∀ x c, X.env.cells.lookup x = some c → c < sc.heap.objs.size := fun x c e => by
    obtain ⟨v, o, ho, _⟩ := I1.cell x c e
    exact Heap.lt_size ho
  have zp : ∀ q ∈ X.pn ++ pins, q.1 < sc.heap.objs.size := fun q hq => Heap.lt_size (I1.pin q hq).1
  -- the walking frame's state at a turn's start
  let Cs : Nat → Wake → Prop := fun j W => (∃ σ' ρ' O' as G hG hL, R j as ρ' O' ∧ as.length = j ∧ ((∀ b, G b = true → isL (W.H b) = true) ∧ ∀ b o, B.Hb b = some o → G b = false) ∧ W.F = wF X.K B O' G W.H ∧ Inv X pins σ' W.H W.s ∧ StOk X.K (zGd B G W.H (Ls as dss) hG hL) ρ' O' σ' W.H ∧ Same (vis B.F O H1) (vis (zGd B G W.H (Ls as dss) hG hL).F O' W.H)) ∧ sc.heap.objs.size ≤ W.s.heap.objs.size
  have csOk : ∀ j W, Cs j W → Env0 X.prog X.w X.K X.mg X.base X.A.in1 X.stack W.s W.H ∧ (∀ b, W.F b = true → ∃ o, W.H b = some o) ∧ sc.heap.objs.size ≤ W.s.heap.objs.size := fun j W ⟨⟨σ', ρ', O', as, G, hG, hL, q1, _, gG, q2, q3, q4, q5⟩, q6⟩ =>
    ⟨q3.env0.in1, by rw [q2]; exact wF_ok (z_un gG.2 q4).m, q6⟩
  let RN := NEnd X.prog X.w X.stack sc.heap.objs.size Cs (dss.map D.lst).length
  let YN := NItem X.prog X.w X.K X.stack sc.heap.objs.size a go Cs (dss.map D.lst)
  have bare1 : ∀ {W : Wake} {j : Nat}, Cs j W → AllBare W.s.gens := fun {W j} ⟨⟨_, _, _, _, _, _, _, _, _, _, _, q, _⟩, _⟩ => q.bare
  -- a turn's start
  let Go : Nat → Shared → Prop := fun m s' => ∃ j F H' gs, j + m = (dss.map D.lst).length ∧ s'.heap.get? a = some go ∧ s'.gens[g]? = some gs ∧ Cs j ⟨F, H', s'.setGen g .running⟩ ∧ gs.Goes (model X.prog X.w) X.A.in1 RN YN (m + 1) (.send .none) (s'.setGen g .running)
  refine codeAny_forLoop_any Go ?_ (dss.map D.lst).length ?_
  · rintro m s2 ⟨j, F, H', gs, hj, ha, hgs2, hcs, hgo2⟩
    have I2 : ∃ σ2, Inv X pins σ2 H' (s2.setGen g .running) := by
      obtain ⟨⟨σ2, _, _, _, _, _, _, _, _, _, _, q, _⟩, _⟩ := id hcs
      exact ⟨σ2, q⟩
    obtain ⟨σ2, I2⟩ := I2
    have lim2 : s2.heap.NoLimit := I2.nolimit
    have hgl : g < (s2.setGen g .running).gens.size := by
      rw [setGen_size]; exact (Array.getElem?_eq_some_iff.mp hgs2).1
    refine wpAny_gsz (n := g + 1) (Array.getElem?_eq_some_iff.mp hgs2).1 (next_genN (n := m + 1) hh lim2 ?_ (hgen _ ha) hgs2 hgo2 (fun r s₁ hr' => hr'.1) (fun v s3 gs' hgb hsl hv => ?_) (fun r s3 hv h' hk => ?_))
    · have := hr.dp; omega
    · intro hsz
      obtain ⟨j', W, y, d, H3, priv, hn, hW, hcW, left, rv, hyd, rp, hga, hap, hpr, hkap⟩ := hv
      have hn : m + j' = (dss.map D.lst).length := hn
      have hj' : j' = j := by omega
      subst hj'
      have hlt : j' < (dss.map D.lst).length := (List.getElem?_eq_some_iff.mp hyd).1
      obtain ⟨m', rfl⟩ : ∃ m', m = m' + 1 := ⟨m - 1, by omega⟩
      obtain ⟨⟨σ4, ρ4, O4, as, G, hG, hL, r4, hlen, gG, f4, I4, st4, sm4⟩, sz4⟩ := id hcW
      subst hlen
      obtain ⟨dd, hdd, rfl⟩ : ∃ dd, dss[as.length]? = some dd ∧ d = .lst dd := by
        rw [List.getElem?_map] at hyd
        obtain ⟨dd, q1, q2⟩ := Option.map_eq_some_iff.mp hyd
        exact ⟨dd, q1, q2.symm⟩
      obtain ⟨dne, drow⟩ := hrow dd (List.mem_of_getElem? hdd)
      -- the list handed out
      obtain ⟨a0, vs, rfl, e3, rr⟩ : ∃ a0 vs, y = .ref a0 ∧ vis W.F [] H3 a0 = some (.lst vs) ∧ RpL X.K (vis W.F [] H3) vs dd := by
        cases rp with
        | lst h r => exact ⟨_, _, rfl, h, r⟩
      have P4 : Prv sc.heap.objs.size priv H3 s3 := ⟨hpr⟩
      have I5 : Inv X pins σ4 H3 s3 := backN I4 left z0 zl zc zp
      have hK : ∀ b o, X.K.lookup b = some o → H3 b = none := fun b o e => (I5.bs b o (I5.ok.mod.kin b o e)).2
      obtain ⟨v1, _, v3⟩ := vis_some.mp e3
      rw [f4] at v1
      obtain ⟨v1a, v1b⟩ := wF_false v1
      obtain ⟨G', hG'⟩ : ∃ G' : Addr → Bool, ∀ b, G' b = (G b || ((W.H b).isNone && isL (H3 b))) := ⟨_, fun _ => rfl⟩
      have ga0 : G' a0 = true := by
        rw [hG']
        cases q : W.H a0 with
        | none =>
          rw [v3]
          show (G a0 || (true && true)) = true
          rw [Bool.and_true, Bool.or_true]
        | some u =>
          have e := left.ext _ _ q
          rw [v3] at e
          cases e
          rcases v1b (by rw [q]; rfl) with z | ⟨vs', ds', z1, z2, z3⟩
          · rw [z]; rfl
          · rw [q] at z1
            cases z1
            exact (rows_apart hK vis_le (fun b o e => left.ext _ _ (vis_le _ _ e)) rr z2 drow dne z3).elim
      have gG' : ∀ b, G' b = true → isL (H3 b) = true := fun b q => by
        rw [hG'] at q
        cases z : G b with
        | true =>
          obtain ⟨vs, e⟩ := isL_some (gG.1 b z)
          rw [left.ext _ _ e]; rfl
        | false =>
          rw [z, Bool.false_or] at q
          exact ((Bool.and_eq_true _ _).mp q).2
      have frB : ∀ b o, B.Hb b = some o → G' b = false := fun b o e => by
        have q := gG.2 b o e
        have := (st4.m.base b o (show (if G b = true then W.H b else B.Hb b) = some o by rw [q]; exact e)).1
        rw [hG', q, this]; rfl
      have hGs : ∀ b, G' b = true → ∃ o, H3 b = some o := fun b q => by
        obtain ⟨vs, e⟩ := isL_some (gG' b q)
        exact ⟨_, e⟩
      have eL : Ls (as ++ [a0]) dss = Ls as dss ++ [(a0, M.lst dd)] := Ls_snoc hdd
      have hL' : ∀ b mm, (b, mm) ∈ Ls (as ++ [a0]) dss → G' b = true := fun b mm q => by
        rw [eL] at q
        rcases List.mem_append.mp q with q | q
        · rw [hG', hL b mm q]; rfl
        · cases List.mem_singleton.mp q; exact ga0
      obtain ⟨st5, sm5⟩ := z_step (L2 := Ls (as ++ [a0]) dss) left.ext st4 hG' hGs hL' fun b mm q => by
        rw [eL] at q
        rcases List.mem_append.mp q with q | q
        · exact .inl q
        · cases List.mem_singleton.mp q
          refine .inr ⟨vs, v3, rows_tr (fun b o e nl => ?_) rr drow⟩
          obtain ⟨w1, _, w3⟩ := vis_some.mp e
          rw [f4] at w1
          have w1 := (wF_false w1).1
          obtain ⟨w1a, w1b⟩ := Bool.or_eq_false_iff.mp (show (B.F b || has O4 b) = false from w1)
          refine vis_some.mpr ⟨?_, w1b, w3⟩
          show (B.F b || G' b) = false
          rw [w1a, Bool.false_or]
          cases z : G' b with
          | false => rfl
          | true =>
            have := gG' b z
            rw [w3, nl] at this; cases this
      have gsz : g < s3.gens.size := by
        have q : (s3.setGen g gs').gens.size = s3.gens.size := setGen_size _ _ _
        have hsz' : g + 1 ≤ (s3.setGen g gs').gens.size := hsz
        omega
      have b5 : AllBare (s3.setGen g gs').gens := allBare_setGen left.bare hgb
      have I6 : Inv X pins σ4 (gHp priv s3 H3) (s3.setGen g gs') := inv_gens (inv_lay I5 P4 z0 zl zc zp) b5
      have hav : ∀ b ∈ priv, ∃ o, s3.heap.get? b = some o := fun b hb => (hpr b hb).2.2
      let Bz : Gd := zGd B G' H3 (Ls (as ++ [a0]) dss) hGs hL'
      have st6 : StOk X.K (gGd Bz priv s3 hav) ρ4 O4 σ4 (gHp priv s3 H3) := st_lay P4 st5
      have base3 : ∀ a o, Bz.Hb a = some o → H3 a = some o := fun a o e => (st5.m.base a o e).1
      -- what is frozen stands
      have fz : ∀ {O7 : Om} {H7 : Hp}, MOk X.K (gGd Bz priv s3 hav) O7 H7 → ∀ b ∈ priv, ∀ o, s3.heap.get? b = some o → H7 b = some (.frz o (.ext fun _ => True)) := fun {O7 H7} mm b hb o ho => (mm.base b _ (show gHp priv s3 Bz.Hb b = _ from gHp_in hb ho)).1
      let Nx : L2.St → Hp → Prop := fun σ7 H7 => ∃ ρ7 O7, R (as.length + 1) (as ++ [a0]) ρ7 O7 ∧ StOk X.K (gGd Bz priv s3 hav) ρ7 O7 σ7 H7 ∧ Same (vis Bz.F O4 H3) (vis Bz.F O7 (dHp priv H7))
      let D' : Ends := { nx := Nx, ct := fun _ _ => False, bk := fun _ _ => False, rt := fun u H7 => (Dn.rt u (dHp priv H7) ∧ ∃ O7, MOk X.K (gGd Bz priv s3 hav) O7 H7) }
      have visE : ∀ {O7 : Om} {H7 : Hp}, Same (vis (gGd Bz priv s3 hav).F O4 (gHp priv s3 H3)) (vis (gGd Bz priv s3 hav).F O7 H7) → Same (vis Bz.F O4 H3) (vis Bz.F O7 (dHp priv H7)) := fun {O7 H7} e => by
        rw [vis_lay P4, vis_drop] at e; exact e
      have body' := hs (gGd Bz priv s3 hav) rfl as a0 dd ρ4 O4 hdd rfl r4
      have I6p : Inv X pins σ4 (gHp priv s3 H3) { s3.setGen g gs' with gens := (s3.setGen g gs').gens.map psnG } := inv_gens I6 (psn_allBare b5)
      refine wpAny_pure ?_
      refine wpAny_mono (wpAny_psn (no ((pg_name (pos := p) hN hi hlx hf).run pins _ σ4 (gHp priv s3 H3) (.ref a0) v (fun σ6 H6 => σ6 = σ4.set i (some (.ref a0)) ∧ H6 = gHp priv s3 H3) I6p rv ⟨rfl, rfl⟩) (E := fun _ _ => False))) (fun _ s6 h6 => ?_) (fun _ _ z => by obtain ⟨_, _, z⟩ := z; exact z.elim)
      obtain ⟨q6, sl6, σ6, H6, I6', e6, e6'⟩ := h6
      subst e6 e6'
      have I7 := inv_slept I6' b5 sl6
      have g6 : s6.gens[g]? = some gs' := sl6.keep g gs' (setGen_at gsz) hsl
      have I7p : Inv X pins (σ4.set i (some (.ref a0))) (gHp priv s3 H3) { s6 with gens := s6.gens.map psnG } := inv_gens I7 (psn_allBare I7.bare)
      refine wpAny_mono (wpAny_psn (no (body'.run pins _ _ _ D' I7p ⟨st6.set (.rf a0), fun ρ7 O7 σ7 H7 ⟨ρ8, wk, hR⟩ s7 e7 => ⟨ρ8, O7, hR, s7.weak wk, visE e7⟩, fun d7 O7 u H7 h7 m7 r7 => ⟨?_, O7, m7⟩, fun _ _ _ _ z => z.elim, fun _ _ _ _ z => z.elim, fun _ _ _ _ _ _ _ _ _ z => z.elim⟩) (E := fun _ _ => False))) (fun f s7 h7 => ?_) (fun _ _ z => by obtain ⟨_, _, z⟩ := z; exact z.elim)
      · -- a value handed back
        have s7 : StOk X.K (gGd Bz priv s3 hav) [] O7 [] H7 := ⟨m7, rfl, fun i d e => by simp at e⟩
        have s8 := st_drop P4 base3 s7
        rw [vis_drop] at r7
        exact pr d7 O7 u _ h7 (z_unM frB s8.m) (r7.mono z_vis)
      · obtain ⟨q7, sl7, h7⟩ := h7
        have again : ∀ {σ7 : L2.St} {H7 : Hp}, Inv X pins σ7 H7 q7 → Nx σ7 H7 → ∃ m, m < m' + 1 ∧ Go m s7 := fun {σ7 H7} J7 ⟨ρ7, O7, hR, st7, e7⟩ => by
          have J7 := inv_slept J7 I7.bare sl7
          have g7 : s7.gens[g]? = some gs' := sl7.keep g gs' g6 hsl
          have gl7 := (Array.getElem?_eq_some_iff.mp g7).1
          have intact : ∀ b ∈ priv, ∀ o, s3.heap.get? b = some o → s7.heap.get? b = some o := fun b hb o ho => (J7.hok b _ (fz st7.m b hb o ho)).1
          have J8 : Inv X pins σ7 (dHp priv H7) s7 := inv_drop I5 P4 J7 (fz st7.m)
          have st8 := st_drop P4 base3 st7
          have sz7 : sc.heap.objs.size ≤ s7.heap.objs.size := Nat.le_of_lt (Nat.lt_of_le_of_lt ha1 (Heap.lt_size (intact a hap go hga)))
          have atG : ∀ b, G' b = true → ∃ o, H3 b = some o ∧ dHp priv H7 b = some o ∧ has O7 b = false := fun b q => z_at st8.m q
          have hG7 : ∀ b, G' b = true → ∃ o, dHp priv H7 b = some o := fun b q => by
            obtain ⟨o, _, e, _⟩ := atG b q
            exact ⟨o, e⟩
          have cs7 : Cs (as.length + 1) ⟨wF X.K B O7 G' (dHp priv H7), dHp priv H7, s7.setGen g .running⟩ := ⟨⟨σ7, ρ7, O7, as ++ [a0], G', hG7, hL', hR, by simp, ⟨fun b q => by
            obtain ⟨o, e1, e2, _⟩ := atG b q
            show isL (dHp priv H7 b) = true
            rw [e2, ← e1]; exact gG' b q, frB⟩, rfl, inv_gens J8 (allBare_setGen J8.bare rfl), z_re st8 hG7, sm4.trans (sm5.trans e7)⟩, sz7⟩
          refine ⟨m', Nat.lt_succ_self _, as.length + 1, _, dHp priv H7, gs', by omega, intact a hap go hga, g7, cs7, ?_⟩
          have bsame : Same (vis B.F O4 H3) (vis B.F O7 (dHp priv H7)) := fun b o e => by
            obtain ⟨e1, e2, e3⟩ := vis_some.mp e
            cases q : G' b with
            | true =>
              obtain ⟨o', q1, q2, q3⟩ := atG b q
              rw [e3] at q1
              cases q1
              exact vis_some.mpr ⟨e1, q3, q2⟩
            | false =>
              obtain ⟨_, q2, q3⟩ := vis_some.mp (e7 b o (vis_some.mpr ⟨show (B.F b || G' b) = false by rw [e1, q]; rfl, e2, e3⟩))
              exact vis_some.mpr ⟨e1, q2, q3⟩
          refine hkap ⟨wF X.K B O7 G' (dHp priv H7), dHp priv H7, s7.setGen g .running⟩ cs7 (wF_ok (z_un frB st8).m) (fun b o e => ?_) fun b hb => ⟨dHp_in hb, intact b hb⟩
          obtain ⟨e1, _, e3⟩ := vis_some.mp e
          rw [f4] at e1
          obtain ⟨f1, f2⟩ := wF_false e1
          obtain ⟨f1a, f1b⟩ := Bool.or_eq_false_iff.mp (show (B.F b || has O4 b) = false from f1)
          obtain ⟨_, q2, q3⟩ := vis_some.mp (bsame b o (vis_some.mpr ⟨f1a, f1b, e3⟩))
          refine vis_some.mpr ⟨wF_mk (show (B.F b || has O7 b) = false by rw [f1a, q2]; rfl) fun hl => ?_, rfl, q3⟩
          cases q : G' b with
          | true => exact .inl rfl
          | false =>
            rw [hG'] at q
            obtain ⟨qa, qb⟩ := Bool.or_eq_false_iff.mp q
            have hl : isL (dHp priv H7 b) = true := hl
            rw [q3, ← e3] at hl
            rw [hl, Bool.and_true] at qb
            cases w : W.H b with
            | none => rw [w] at qb; cases qb
            | some u =>
              have eu := left.ext _ _ w
              rcases f2 (by rw [w, ← eu]; exact hl) with z | ⟨vs', ds', z1, z2, z3⟩
              · rw [qa] at z; cases z
              · refine .inr ⟨vs', ds', ?_, ?_, z3⟩
                · show dHp priv H7 b = _
                  rw [q3, ← e3, left.ext _ _ z1]
                · show RpL X.K (vis (frF B O7) [] (dHp priv H7)) vs' ds'
                  rw [vis_fr] at z2 ⊢
                  exact z2.mono ((vis_same left.ext).trans bsame)
        cases f with
        | next => obtain ⟨σ7, H7, J7, q7'⟩ := h7; exact again J7 q7'
        | cont => obtain ⟨σ7, H7, J7, q7'⟩ := h7; exact q7'.elim
        | brk => obtain ⟨σ7, H7, J7, q7'⟩ := h7; exact q7'.elim
        | ret u =>
          obtain ⟨v7, σ7, H7, J7, r7, q7', O7, m7⟩ := h7
          exact ⟨v7, σ7, dHp priv H7, inv_drop I5 P4 (inv_slept J7 I7.bare sl7) (fz m7), r7, q7'⟩
    · intro hsz
      obtain ⟨_, W, H3, hW, hcW, left⟩ := hv
      obtain ⟨⟨σ4, ρ4, O4, as, G, hG, hL, r4, hlen, gG, f4, I4, st4, sm4⟩, sz4⟩ := hcW
      have I5 : Inv X pins σ4 H3 s3 := backN I4 left z0 zl zc zp
      have b5 : AllBare (s3.setGen g .finished).gens := allBare_setGen left.bare rfl
      have I6 : Inv X pins σ4 H3 { s3.setGen g .finished with heap := h' } := I5.call' (ch := []) rfl (Un.kept hk) (I5.hok.kept hk) b5 fun b z => by simp at z
      refine wpAny_execs_nil ⟨σ4, H3, I6, ?_⟩
      rw [yl] at hlen r4
      exact pn σ4 H3 as ρ4 O4 G (fun b q => by
        obtain ⟨o, e⟩ := hG b q
        exact ⟨o, left.ext _ _ e⟩) hL r4 hlen gG.2 (z_re (st4.same left.ext) _) ((vis_same sm1).trans (sm4.trans (vis_same left.ext)))
  · have I2 : Inv X pins σ H1 (s1.setGen g .running) := I1.call' (ch := []) hos (Un.kept hkp) (I1.hok.kept hkp) (allBare_setGen hba rfl) fun b z => by simp at z
    have no0 : ∀ b, (fun _ : Addr => false) b = true → ∃ o, H1 b = some o := fun b z => (Bool.false_ne_true z).elim
    have noL : ∀ b m, (b, m) ∈ Ls [] dss → (fun _ : Addr => false) b = true := fun b m z => (by cases z)
    have stz : StOk X.K (zGd B (fun _ => false) H1 (Ls [] dss) no0 noL) ρ0 O σ H1 := by
      have s0 := st1.weak w0
      have ev : Same (vis B.F O H1) (vis (zGd B (fun _ => false) H1 (Ls [] dss) no0 noL).F O H1) := fun b o e => by
        obtain ⟨e1, e2, e3⟩ := vis_some.mp e
        exact vis_some.mpr ⟨show (B.F b || false) = false by rw [e1]; rfl, e2, e3⟩
      exact ⟨⟨fun b o e => s0.m.base b o e, fun b m q => (s0.m.mem b m q).mono ev fun _ e => e, s0.m.nd, fun b m q => (s0.m.lent b m q).mono ev fun _ e => e⟩, s0.env.mono ev⟩
    have cs0 : Cs 0 ⟨wF X.K B O (fun _ => false) H1, H1, s1.setGen g .running⟩ := ⟨⟨σ, ρ0, O, [], fun _ => false, no0, noL, h0, rfl, ⟨fun b z => (Bool.false_ne_true z).elim, fun _ _ _ => rfl⟩, rfl, I2, stz, fun b o e => by
      obtain ⟨e1, e2, e3⟩ := vis_some.mp e
      exact vis_some.mpr ⟨show (B.F b || false) = false by rw [e1]; rfl, e2, e3⟩⟩, Nat.le_of_lt (Nat.lt_of_le_of_lt ha1 ha2)⟩
    refine ⟨0, wF X.K B O (fun _ => false) H1, H1, .fresh c, Nat.zero_add _, hgo, hgs, cs0, rfl, ?_⟩
    refine wake X.A.in1 Cs (s1.setGen g .running) ⟨hr.hd, ?_, ?_⟩ I.ok.frames csOk (fun b o e => e) cs0
    · have := hr.dp
      show X.A.depth + 3 * k + 5 < _
      omega
    · have := hr.un
      show X.A.units + 1 + 16 * k + 200 < _
      omega
end
end DL

set_option Elab.async false
set_option linter.all false
set_option maxRecDepth 100000
set_option maxHeartbeats 4000000
namespace DL
open PySem PySem.Spec PyProof.Rows L2 GenW Psn
abbrev aZ (rt : D → Om → Prop) : AE := { nx := fun _ O => rt .non O, rt := rt }
abbrev csM (cs : List (Addr × List D)) : Om := cs.map fun p => (p.1, M.lst p.2)
def tZ (K : PySem.W.Frag) (B : Gd) (as : List Addr) (dss : List (List D)) (ρ : List (Option D)) (O : Om) (rt : D → Om → Prop) : TS := fun Dn σ H => ∃ G hG hL, (∀ b o, B.Hb b = some o → G b = false) ∧ StOk K (zGd B G H (Ls as dss) hG hL) ρ O σ H ∧
  (∀ ρ' O' σ' H', rt .non O' → StOk K B ρ' O' σ' H' → Same (vis (zGd B G H (Ls as dss) hG hL).F O H) (vis B.F O' H') → Dn.nx σ' H') ∧ ∀ d O' v H', rt d O' → MOk K B O' H' → Rp K (vis B.F O' H') v d → Dn.rt v H'
abbrev JZ (X : Cx) (B : Gd) (as : List Addr) (dss : List (List D)) (ss : List Stmt) (ρ : List (Option D)) (O : Om) (rt : D → Om → Prop) : Prop := PSs X ss (tZ X.K B as dss ρ O rt)
section
variable {X : Cx} {B : Gd} {ρ : List (Option D)} {O O1 : Om} {as : List Addr} {dss : List (List D)} {rt : D → Om → Prop} {ss s1 rest : List Stmt} {c : Expr} {b : Bool} {pos : Pos}
theorem jz_thaw (e : as.length = dss.length) (h : ∀ cs : List (Addr × List D), (cs.map (·.1)).Nodup → (∀ p ∈ cs, (p.1, M.lst p.2) ∈ Ls as dss) → (∀ a ∈ as, a ∈ cs.map (·.1)) → J X B ss ρ (O ++ csM cs) (aZ rt)) : JZ X B as dss ss ρ O rt := by
  obtain ⟨cs, n1, n2, n3⟩ := pick_once as dss e
  refine ⟨fun pins s σ H Dn I ⟨G, hG, hL, hb, st, pn, pr⟩ => ?_⟩
  obtain ⟨st2, sm⟩ := z_thaw hb st n1 n2
  exact (h cs n1 n2 n3).run pins s σ H Dn I ⟨st2, fun ρ' O' σ' H' q s' e => pn ρ' O' σ' H' q s' (sm.trans e), pr, fun _ _ _ _ z => z.elim, fun _ _ _ _ z => z.elim, fun _ _ _ _ _ _ _ _ _ z => z.elim⟩
theorem z_view {K : PySem.W.Frag} {G : Addr → Bool} {H : Hp} {hG : ∀ b, G b = true → ∃ o, H b = some o} {hL : ∀ a m, (a, m) ∈ Ls as dss → G a = true} {σ : L2.St} {g : Addr} (e : as.length = dss.length) (hb : ∀ b o, B.Hb b = some o → G b = false) (st : StOk K (zGd B G H (Ls as dss) hG hL) ρ ((g, M.lst (as.map D.rf)) :: O1) σ H) : StOk K B ρ ((g, M.lst (dss.map D.lst)) :: O1) σ H := by
  have hs : ∀ a, has ((g, M.lst (as.map D.rf)) :: O1) a = has ((g, M.lst (dss.map D.lst)) :: O1) a := fun a => rfl
  have ev : vis B.F ((g, M.lst (as.map D.rf)) :: O1) H = vis B.F ((g, M.lst (dss.map D.lst)) :: O1) H := rfl
  have s0 := z_un hb st
  have lists : ∀ (as : List Addr) (dss : List (List D)) (vs : List V), as.length = dss.length → (∀ p ∈ Ls as dss, MRp K (vis B.F ((g, M.lst (dss.map D.lst)) :: O1) H) H p.1 p.2 ∧ G p.1 = true) → RpL K (vis B.F ((g, M.lst (dss.map D.lst)) :: O1) H) vs (as.map D.rf) → (∀ a, G a = true → vis B.F ((g, M.lst (dss.map D.lst)) :: O1) H a = H a) → RpL K (vis B.F ((g, M.lst (dss.map D.lst)) :: O1) H) vs (dss.map D.lst) := by
    have key : ∀ (Hv : Hp) (as : List Addr) (dss : List (List D)) (vs : List V), as.length = dss.length → (∀ p ∈ Ls as dss, MRp K Hv H p.1 p.2 ∧ G p.1 = true) → RpL K Hv vs (as.map D.rf) → (∀ a, G a = true → Hv a = H a) → RpL K Hv vs (dss.map D.lst) := by
      intro Hv as
      induction as with
      | nil =>
        intro dss vs e _ r _
        cases dss with
        | nil => exact r
        | cons _ _ => cases e
      | cons a as ih =>
        intro dss vs e h r hv
        cases dss with
        | nil => cases e
        | cons d dss =>
          cases r with
          | cons r1 r2 =>
            cases r1
            obtain ⟨⟨vs', h1, h2⟩, h3⟩ := h (a, M.lst d) List.mem_cons_self
            exact .cons (.lst (by rw [hv a h3]; exact h1) h2) (ih dss _ (by simpa using e) (fun p hp => h p (List.mem_cons_of_mem _ hp)) r2 hv)
    intro as dss vs e h r hv
    exact key _ as dss vs e h r hv
  refine ⟨⟨fun a o e => s0.m.base a o e, fun a m q => ?_, s0.m.nd, fun a m q => s0.m.lent a m q⟩, s0.env⟩
  rcases List.mem_cons.mp q with q | q
  · cases q
    obtain ⟨vs, h1, h2⟩ := s0.m.mem g _ List.mem_cons_self
    refine ⟨vs, h1, lists as dss vs e (fun p hp => ⟨(st.m.lent p.1 p.2 (List.mem_append_left _ hp)).mono z_vis fun _ e => e, hL _ _ hp⟩) h2 fun a ga => ?_⟩
    obtain ⟨o, e1, _, e3⟩ := z_at st.m ga
    rw [e1]
    refine vis_some.mpr ⟨?_, e3, e1⟩
    cases z : B.F a with
    | false => rfl
    | true =>
      obtain ⟨u, hu⟩ := B.ok a z
      rw [hb a u hu] at ga; cases ga
  · exact s0.m.mem a m (List.mem_cons_of_mem _ q)
theorem jz_ifr {g : Addr} (e : as.length = dss.length) (hc : ET X B ρ ((g, M.lst (dss.map D.lst)) :: O1) c b) (h1 : b = true → J X B s1 ρ ((g, M.lst (as.map D.rf)) :: O1) { nx := fun _ _ => False, rt := rt }) (h2 : b = false → JZ X B as dss rest ρ ((g, M.lst (as.map D.rf)) :: O1) rt) : JZ X B as dss (.If c s1 [] pos :: rest) ρ ((g, M.lst (as.map D.rf)) :: O1) rt := by
  have any1 : PSs X s1 (fun _ _ _ => False) := ⟨fun _ _ _ _ _ _ z => z.elim⟩
  have anyr : PSs X rest (fun _ _ _ => False) := ⟨fun _ _ _ _ _ _ z => z.elim⟩
  cases b with
  | true =>
    refine ⟨fun pins s σ H Dn I ⟨G, hG, hL, hb, st, pn, pr⟩ => (pss_cons (ps_if hc (h1 rfl) pss_nil) anyr).run pins s σ H Dn I ⟨z_view e hb st, fun H1 e1 => iteT ⟨z_un hb (st.same e1), fun _ _ _ _ z => z.elim, pr, fun _ _ _ _ z => z.elim, fun _ _ _ _ z => z.elim, fun _ _ _ _ _ _ _ _ _ z => z.elim⟩⟩⟩
  | false =>
    refine ⟨fun pins s σ H Dn I ⟨G, hG, hL, hb, st, pn, pr⟩ => (pss_cons (ps_if hc any1 pss_nil) (h2 rfl)).run pins s σ H Dn I ⟨z_view e hb st, fun H1 e1 => iteF ?_⟩⟩
    have hG1 : ∀ b, G b = true → ∃ o, H1 b = some o := fun b q => by
      obtain ⟨o, z⟩ := hG b q
      exact ⟨o, e1 _ _ z⟩
    exact ⟨G, hG1, hL, hb, z_re (st.same e1) hG1, fun ρ' O' σ' H' q s' e2 => pn ρ' O' σ' H' q s' ((vis_same e1).trans e2), pr⟩
end
theorem put_cs {a : Addr} {dc : D} : ∀ {cs : List (Addr × List D)}, a ∈ cs.map (·.1) → ∀ O : Om, ∃ ds cs', Put (O ++ csM cs) a (.lst ds) (.lst (ds ++ [dc])) (O ++ csM cs') ∧ (a, ds) ∈ cs ∧ cs'.map (·.1) = cs.map (·.1) ∧ ∀ n, (∀ p ∈ cs, p.2.length ≤ n) → ∀ p ∈ cs', p.2.length ≤ n + 1 := by
  have lift : ∀ {O1 O2 : Om} {m m' : M} (O : Om), Put O1 a m m' O2 → Put (O ++ O1) a m m' (O ++ O2) := fun {O1 O2 m m'} O h => by
    induction O with
    | nil => exact h
    | cons q O ih => exact .tail ih
  intro cs
  induction cs with
  | nil => intro h; cases h
  | cons p cs ih =>
    intro h O
    obtain ⟨b, d⟩ := p
    by_cases e : a = b
    · subst e
      refine ⟨d, (a, d ++ [dc]) :: cs, lift O .head, List.mem_cons_self, rfl, fun n hn p hp => ?_⟩
      rcases List.mem_cons.mp hp with rfl | hp
      · have := hn (a, d) List.mem_cons_self
        show (d ++ [dc]).length ≤ n + 1
        rw [List.length_append]
        have this : d.length ≤ n := this
        exact Nat.add_le_add_right this 1
      · exact Nat.le_succ_of_le (hn p (List.mem_cons_of_mem _ hp))
    · have h' : a ∈ cs.map (·.1) := by
        rcases List.mem_cons.mp h with h | h
        · exact absurd h e
        · exact h
      obtain ⟨ds, cs', h1, h2, h3, h4⟩ := ih h' []
      refine ⟨ds, (b, d) :: cs', lift O (.tail h1), List.mem_cons_of_mem _ h2, by rw [List.map_cons, List.map_cons, h3], fun n hn p hp => ?_⟩
      rcases List.mem_cons.mp hp with rfl | hp
      · exact Nat.le_succ_of_le (hn (b, d) List.mem_cons_self)
      · exact h4 n (fun p hp => hn p (List.mem_cons_of_mem _ hp)) p hp
section
variable {X : Cx} {B : Gd} {ρ : List (Option D)} {O : Om} {as : List Addr} {cs : List (Addr × List D)} {A : AE} {rest : List Stmt} {gE kE cE iter : Expr} {dc : D} {g : Addr} {wi : TI} {Gv : Om → Prop} {pos p p2 p3 p4 p5 p6 : Pos} {x : Str} {M0 : Nat}
theorem j_mutZ (ks : Nat) (nd : X.N.Nodup) (hp : PassesOwn (model X.prog X.w) X.A X.env X.xe) (hc : X.calm = true) (hi : EI X B ρ (O ++ csM cs) (.Name x p) iter wi Gv (rngD 0 as.length)) (hv : ∀ cs', Gv (O ++ csM cs')) (hg : (g, M.lst (as.map D.rf)) ∈ O) (hm : ∀ a ∈ as, a ∈ cs.map (·.1))
    (hz : ∀ p ∈ cs, p.2.length ≤ M0) (hM : M0 + as.length < sizeLine) (hk : ρ[ks]? = some none)
    (hgE : ∀ i O', EV X B (ρ.set ks (some (.int i))) O' gE (.rf g)) (hkE : ∀ i O', EV X B (ρ.set ks (some (.int i))) O' kE (.int i)) (hcE : ∀ i O', EV X B (ρ.set ks (some (.int i))) O' cE dc)
    (hrest : ∀ cs', J X B rest ρ (O ++ csM cs') A)
    (hix : X.N[ks]? = some x := by rfl) (hx : Loc X.env.scope x := by first | exact .inl rfl | exact .inr rfl) (hf : X.fn x = true ∨ X.env.scope.names.lookup x = some .local := by first | exact .inr rfl | exact .inl rfl) (hpl : PlainIx kE := by intro _ _; rfl)
    (hbase : attributeBase (.Subscript gE kE p3) "append" X.env (eval (.Subscript gE kE p3) X.env) = eval (.Subscript gE kE p3) X.env := by rfl)
    (hfew : ((backTo p5 (starEach [cE] X.env)).all (fun x => !x.1) && (backToKw p5 (keywordEach [] X.env)).all (fun x => x.1.isSome)
      && decide ([cE].length + ([] : List Keyword).length + (if ([] : List Keyword).isEmpty then 0 else 1) < 30)) = true := by rfl)
    (hline : (p4.endLine == p5.line) = true := by rfl) (hse : starEach [cE] X.env = (false, eval cE X.env) :: starEach [] X.env := by rfl) (hplain : (backTo p5 (starEach [] X.env)).any (·.1) = false := by rfl)
    (hsw : swapsWith (.Call (.Attribute (.Subscript gE kE p3) "append" p4) [cE] [] p5) none p6.line X.env = pure false := by rfl)
    (hfs : ∀ x, foldedSetIterable iter X.env x = pure x := by intro _; rfl) :
    J X B (.For (.Name x p) iter [.Expr (.Call (.Attribute (.Subscript gE kE p3) "append" p4) [cE] [] p5) p6] [] pos :: rest) ρ (O ++ csM cs) A := by
  have lr : (rngD 0 as.length).length = as.length := by unfold rngD; rw [List.length_map, List.length_range]
  have wk : ∀ d, Wk ρ (ρ.set ks (some d)) := fun d => ⟨by simp, fun j d' e => by
    by_cases h : ks = j
    · subst h; rw [hk] at e; cases e
    · rw [List.getElem?_set_ne h]; exact e⟩
  refine j_cons (j_for (f := bName ks) (fun j ρ' O' => ρ' = ρ ∧ ∃ cs', O' = O ++ csM cs' ∧ cs'.map (·.1) = cs.map (·.1) ∧ ∀ p ∈ cs', p.2.length ≤ M0 + j) hp hc hi (eb_name nd hix hx hf) (fun j ρ' O' ⟨_, cs', e, _⟩ => e ▸ hv cs') ⟨ρ, wk_refl, rfl, cs, rfl, rfl, hz⟩ (fun j d ρ' O' hd ⟨e1, cs', e2, e3, e4⟩ => ?_) (fun ρ' O' ⟨e1, cs', e2, _, _⟩ => ?_) hfs)
  · subst e1 e2
    unfold rngD at hd
    rw [List.getElem?_map] at hd
    obtain ⟨i, hi1, rfl⟩ := Option.map_eq_some_iff.mp hd
    obtain ⟨hl, ei⟩ := List.getElem?_eq_some_iff.mp hi1
    rw [List.getElem_range] at ei
    subst ei
    rw [List.length_range] at hl
    refine ⟨_, rfl, ?_⟩
    rw [Int.zero_add]
    obtain ⟨ds, cs2, q1, q2, q3, q4⟩ := put_cs (dc := dc) (by rw [e3]; exact hm (as[j]) (List.getElem_mem hl)) O
    refine j_cons (j_expr (eg_append (d := dc) (ds := ds) (ev_ixL (hgE _ _) (hkE _ _) (.inl (.inr ⟨g, rfl, List.mem_append_right _ (List.mem_append_left _ hg)⟩)) ?_ hpl) (List.mem_append_right _ (List.mem_map.mpr ⟨_, q2, rfl⟩)) (eg_of (hcE _ _)) q1 ?_ hbase hfew hline hse hplain) (j_nil ⟨_, wk _, rfl, cs2, rfl, q3.trans e3, fun p hp => by
      have := q4 _ e4 p hp
      omega⟩) hsw)
    · unfold atI
      have h1 : ixN (as.map D.rf).length (j : Int) = some j := by
        unfold ixN
        rw [List.length_map]
        simp [hl]
      first
        | (rw [h1]; simp [hl])
        | simp [hl]
    · have := e4 _ q2
      have this : ds.length ≤ M0 + j := this
      omega
  · subst e1 e2
    exact hrest cs'
end
end DL

set_option Elab.async false
set_option linter.all false
set_option maxRecDepth 100000
set_option maxHeartbeats 4000000
namespace DL
open PySem PySem.Spec PyProof.Rows L2 GenW Psn
section
variable {X : Cx} {B : Gd} {ρ : List (Option D)} {O : Om} {body rest : List Stmt} {iter : Expr} {pos p : Pos} {x : Str} {k : Nat} {α S L R : Type} {E : α → List D}
theorem jc_forZ [Inhabited R] {xs : List α} {f : α → S → Cmp (Ctl S S R)} {s0 : S} {m : S → Cmp R} {rt : R → D → Om → Prop} {st : S → List Addr → List (Option D) → Om → Prop} (i : Nat) (nd : X.N.Nodup) (hx : ∀ e s, ¬ X.xe e s) (hc : X.calm = true) (hg : EGz X k B ρ O iter ((xs.map E).map D.lst)) (hr : Room (k + 3) X.A) (hrow : ∀ y ∈ xs, E y ≠ [] ∧ rowsD (E y)) (h0 : ∃ ρ0, Wk ρ0 ρ ∧ st s0 [] ρ0 O)
    (hb : ∀ B' : Gd, B'.W = B.W → ∀ y s as a ρ O, xs[as.length]? = some y → B'.L = Ls (as ++ [a]) (xs.map E) ++ B.L → (a, M.lst (E y)) ∈ B'.L → st s as ρ O → JC X B' body (ρ.set i (some (.rf a))) O (aC (fun s => st s (as ++ [a])) (fun (_ : S) _ _ => False) rt (fun _ _ _ _ _ _ => False)) (f y s))
    (hm : ∀ s as ρ O, as.length = xs.length → st s as ρ O → (m s).ok → JZ X B as (xs.map E) rest ρ O (rt (m s).val))
    (hi : X.N[i]? = some x := by rfl) (hlx : Loc X.env.scope x := by first | exact .inl rfl | exact .inr rfl) (hf : X.fn x = true ∨ X.env.scope.names.lookup x = some .local := by first | exact .inr rfl | exact .inl rfl) (hfs : ∀ x, foldedSetIterable iter X.env x = pure x := by intro _; rfl) :
    JC X B (.For (.Name x p) iter body [] pos :: rest) ρ O (aR rt) (.bindR (forC (L := L) f xs s0) m) := fun ok => by
  obtain ⟨ok1, ok2⟩ := ok
  show PSs X _ _
  have vR : (Cmp.bindR (forC (L := L) f xs s0) m).val = ((forC (L := L) f xs s0).val.thenR m).val := rfl
  have rest_any : PSs X rest (fun Dn σ H => ∃ as ρ' O' r, JZ X B as (xs.map E) rest ρ' O' (rt r) ∧ tZ X.K B as (xs.map E) ρ' O' (rt r) Dn σ H) := ⟨fun pins s σ H Dn I ⟨as, ρ', O', r, q, z⟩ => q.run pins s σ H Dn I z⟩
  have lm : (xs.map E).length = xs.length := List.length_map _
  have hfor := ps_forZ (X := X) (B := B) (ρ := ρ) (O := O) (body := body) (iter := iter) (pos := pos) (p := p) (x := x) (k := k) (i := i) (rt := rt (Cmp.bindR (forC (L := L) f xs s0) m).val) (xs.map E)
    (fun j as ρ' O' => as.length = j ∧ ∃ s, st s as ρ' O' ∧ (forC (L := L) f (xs.drop j) s).ok ∧ (forC (L := L) f (xs.drop j) s).val = (forC f xs s0).val) hx hc hg
    (fun ds hds => by
      obtain ⟨y, hy, rfl⟩ := List.mem_map.mp hds
      exact hrow y hy) hr nd hi hlx hf (by
    obtain ⟨ρ0, w, q⟩ := h0
    exact ⟨ρ0, w, rfl, s0, q, ok1, rfl⟩) (fun B' eW as a ds ρ' O' hd eL ⟨_, s, q, k1, k2⟩ => ?_) hfs
  · refine pss_imp (pss_cons hfor rest_any) fun Dn σ H ⟨st', pst⟩ => ⟨st', fun σ' H' as ρ' O' G hG hL hR hl hb' stz sm => ?_, pst.rt⟩
    obtain ⟨_, s, q, k1, k2⟩ := hR
    rw [lm, List.drop_length] at k1 k2
    have k2' : Ctl.nx s = (forC (L := L) f xs s0).val := k2
    have ok3 : (m s).ok := by
      have z : ((forC (L := L) f xs s0).val.thenR m).ok := ok2
      rw [← k2'] at z; exact z
    have vm : (Cmp.bindR (forC (L := L) f xs s0) m).val = (m s).val := by rw [vR, ← k2']; rfl
    refine ⟨as, ρ', O', (m s).val, hm s as ρ' O' (hl.trans lm) q ok3, G, hG, hL, hb', stz, fun ρ2 O2 σ2 H2 h2 s2 e2 => pst.nx ρ2 O2 σ2 H2 (by show rt _ .non O2; rw [vm]; exact h2) s2 (sm.trans e2), fun d O2 v H2 h2 m2 r2 => pst.rt d O2 v H2 (by show rt _ d O2; rw [vm]; exact h2) m2 r2⟩
  · obtain ⟨y, hy, rfl⟩ := Option.map_eq_some_iff.mp (by rw [← List.getElem?_map]; exact hd)
    obtain ⟨hl, ey⟩ := List.getElem?_eq_some_iff.mp hy
    have e1 : xs.drop as.length = y :: xs.drop (as.length + 1) := by rw [List.drop_eq_getElem_cons hl, ey]
    rw [e1] at k1 k2
    have j := hb B' eW y s as a ρ' O' hy eL (by
      rw [eL, Ls_snoc hd]
      exact List.mem_append_left _ (List.mem_append_right _ List.mem_cons_self)) q
    obtain ⟨okf, okr⟩ := k1
    have k2' : ((f y s).val.goOn (forC (L := L) f (xs.drop (as.length + 1)))).val = (forC f xs s0).val := k2
    have j' := j okf
    cases hv' : (f y s).val with
    | nx s' =>
      rw [hv'] at okr k2' j'
      exact j_imp j' (fun ρ3 O3 ⟨ρ4, w, q4⟩ => ⟨ρ4, w, by simp, s', q4, okr, k2'⟩) (fun _ _ z => z.elim) (fun _ _ z => z.elim) (fun _ _ z => z.elim) (fun _ _ _ _ _ z => z.elim)
    | ct s' =>
      rw [hv'] at j'
      exact j_imp j' (fun _ _ z => z.elim) (fun _ _ z => z.elim) (fun _ _ z => z.elim) (fun _ _ ⟨_, _, z⟩ => z.elim) (fun _ _ _ _ _ z => z.elim)
    | bk s' =>
      rw [hv'] at j'
      exact j_imp j' (fun _ _ z => z.elim) (fun _ _ z => z.elim) (fun _ _ ⟨_, _, z⟩ => z.elim) (fun _ _ z => z.elim) (fun _ _ _ _ _ z => z.elim)
    | rt r =>
      rw [hv'] at k2' j'
      have vr : (Cmp.bindR (forC (L := L) f xs s0) m).val = r := by rw [vR, ← k2']; rfl
      exact j_imp j' (fun _ _ z => z.elim) (fun d O3 z => by rw [vr]; exact z) (fun _ _ z => z.elim) (fun _ _ z => z.elim) (fun _ _ _ _ _ z => z.elim)
    | ex r =>
      rw [hv'] at j'
      exact j_imp j' (fun _ _ z => z.elim) (fun _ _ z => z.elim) (fun _ _ z => z.elim) (fun _ _ z => z.elim) (fun _ _ _ _ _ z => z.elim)
end
end DL

set_option Elab.async false
set_option linter.all false
set_option maxRecDepth 100000
set_option maxHeartbeats 4000000
namespace DL
open PySem PySem.Spec PyProof.Rows L2 GenW Psn
abbrev rwE (t : List Row) : List D := t.map dRow
theorem rowsD_rw (t : List Row) : rowsD (rwE t) := fun d hd => by
  obtain ⟨r, _, rfl⟩ := List.mem_map.mp hd
  exact ⟨r.1, [r.2.1, r.2.2], rfl⟩
theorem rw_lst (xs : List (List Row)) : xs.map (dL dRow) = (xs.map rwE).map D.lst := (List.map_map ..).symm
theorem argOk_marks : ∀ l : List (Str × Int), argOk (dL (dP2 D.str D.int) l) = true := fun l => by
  have all : ∀ l : List (Str × Int), argOks (l.map (dP2 D.str D.int)) = true := fun l => by
    induction l with
    | nil => rfl
    | cons p l ih =>
      show (argOk _ && argOks _) = true
      rw [ih, Bool.and_true]; rfl
  show (okHd (l.map (dP2 D.str D.int)) && argOks (l.map (dP2 D.str D.int))) = true
  rw [all, Bool.and_true]
  cases l <;> rfl
theorem argOks_sm (z : Str) (l : List (Str × Int)) : argOks [D.str z, dL (dP2 D.str D.int) l] = true := by
  show (argOk (D.str z) && (argOk (dL (dP2 D.str D.int) l) && true)) = true
  rw [argOk_marks]; rfl
abbrev TbOk (xs : List (List Row)) : Prop := (∀ y ∈ xs, y ≠ [] ∧ y.length ≤ 1000) ∧ xs.length ≤ 100000
theorem tabs_row {xs : List (List Row)} (h : TbOk xs) : ∀ y ∈ xs, rwE y ≠ [] ∧ rowsD (rwE y) := fun y hy => ⟨fun e => (h.1 y hy).1 (List.map_eq_nil_iff.mp e), rowsD_rw y⟩
theorem keep_lt {xs : List (List Row)} {as : List Addr} {y : List Row} (hy : xs[as.length]? = some y) (h : TbOk xs) : as.length < sizeLine := Nat.lt_of_lt_of_le (Nat.lt_of_lt_of_le (List.getElem?_eq_some_iff.mp hy).1 h.2) (by decide)
theorem keep_bd {xs : List (List Row)} {as : List Addr} (e : as.length = xs.length) (h : TbOk xs) : -(2 ^ 62) ≤ (as.length : Int) ∧ (as.length : Int) < 2 ^ 62 := by
  have := h.2
  omega
section
variable {X : Cx} {B : Gd} {ρ : List (Option D)} {O O1 O2 O' : Om} {a b c e o : Expr} {as : List Addr} {rest s1 : List Stmt} {pos pos' apos : Pos} {α β : Type} {A : α → AE} {m m1 m2 : Cmp α} {g a0 : Addr} {bb : Bool}
theorem jc_appQ (ho : EV X B ρ O o (.rf g)) (hm : (g, M.lst (as.map D.rf)) ∈ O) (he : EV X B ρ O e (.rf a0)) (hp : Put O g (.lst (as.map D.rf)) (.lst ((as ++ [a0]).map D.rf)) O2) (hz : as.length < sizeLine) (h : JC X B rest ρ O2 A m)
    (hbase : attributeBase o "append" X.env (eval o X.env) = eval o X.env := by rfl)
    (hfew : ((backTo pos (starEach [e] X.env)).all (fun x => !x.1) && (backToKw pos (keywordEach [] X.env)).all (fun x => x.1.isSome)
      && decide ([e].length + ([] : List Keyword).length + (if ([] : List Keyword).isEmpty then 0 else 1) < 30)) = true := by rfl)
    (hline : (apos.endLine == pos.line) = true := by rfl) (hs : starEach [e] X.env = (false, eval e X.env) :: starEach [] X.env := by rfl) (hplain : (backTo pos (starEach [] X.env)).any (·.1) = false := by rfl)
    (hsw : swapsWith (.Call (.Attribute o "append" apos) [e] [] pos) none pos'.line X.env = pure false := by rfl) :
    JC X B (.Expr (.Call (.Attribute o "append" apos) [e] [] pos) pos' :: rest) ρ O A m := fun ok =>
  j_cons (j_expr (eg_append (d := .rf a0) (ds := as.map D.rf) ho hm (eg_of he) (by rw [List.map_append] at hp; exact hp) (by rw [List.length_map]; exact hz) hbase hfew hline hs hplain) (h ok) hsw)
theorem jc_setQ (i : Nat) {p : Pos} {x : Str} (nd : X.N.Nodup) (he : EN X B ρ O e []) (h : ∀ q, has O q = false → JC X B rest (ρ.set i (some (.rf q))) ((q, .lst (([] : List Addr).map D.rf)) :: O) A m) (hi : X.N[i]? = some x := by rfl) (hx : Loc X.env.scope x := by first | exact .inl rfl | exact .inr rfl) (hs : swapsWith e (some (.Name x p)) pos.line X.env = pure false := by rfl)
    (hf : X.fn x = true ∨ X.env.scope.names.lookup x = some .local := by first | exact .inr rfl | exact .inl rfl) : JC X B (.Assign [.Name x p] e pos :: rest) ρ O A m := fun ok => j_cons (j_setN nd hi hx he hs hf fun q hq => h q hq ok)
theorem jc_dropT (h : JC X B rest ρ O A m) : JC X B rest ρ (O ++ O') A m :=
  jc_conv (fun K σ H s => ⟨s.sub (fun q hq => List.mem_append_left _ hq) (by
    have := s.m.nd
    rw [List.map_append] at this
    exact (List.nodup_append.mp this).1), vis_sub fun q hq => List.mem_append_left _ hq⟩) h
end
section
variable {X : Cx} {B : Gd} {ρ : List (Option D)} {O1 : Om} {c : Expr} {as : List Addr} {rest s1 : List Stmt} {pos p p2 p3 p4 p5 p6 : Pos} {R : Type} {rt : R → D → Om → Prop} {m m1 m2 : Cmp R} {g : Addr} {b : Bool} {xs : List (List Row)} {gE kE cE iter : Expr} {dc : D} {wi : TI} {Gv : Om → Prop} {x : Str}
abbrev JZC (X : Cx) (B : Gd) (as : List Addr) (xs : List (List Row)) (ss : List Stmt) (ρ : List (Option D)) (O : Om) (rt : R → D → Om → Prop) (m : Cmp R) : Prop := m.ok → JZ X B as (xs.map rwE) ss ρ O (rt m.val)
theorem jzc_ifr (e : as.length = xs.length) (hc : ET X B ρ ((g, M.lst (xs.map (dL dRow))) :: O1) c b) (h1 : b = true → JC X B s1 ρ ((g, M.lst (as.map D.rf)) :: O1) (fun r => noNx (aR rt r)) m1) (h2 : b = false → JZC X B as xs rest ρ ((g, M.lst (as.map D.rf)) :: O1) rt m2) :
    JZC X B as xs (.If c s1 [] pos :: rest) ρ ((g, M.lst (as.map D.rf)) :: O1) rt (if b = true then m1 else m2) := fun ok => by
  rw [rw_lst] at hc
  refine jz_ifr (e.trans (List.length_map _).symm) hc (fun q => ?_) fun q => ?_
  · rw [if_pos q] at ok ⊢
    exact h1 q ok
  · rw [q, if_neg Bool.false_ne_true] at ok
    rw [q, if_neg Bool.false_ne_true]
    exact h2 q ok
theorem jzc_mut {wi : List (Addr × List D) → TI} (e : as.length = xs.length) (ht : TbOk xs) (ks : Nat) (nd : X.N.Nodup) (hp : PassesOwn (model X.prog X.w) X.A X.env X.xe) (hc : X.calm = true) (hi : ∀ cs : List (Addr × List D), EI X B ρ (((g, M.lst (as.map D.rf)) :: O1) ++ csM cs) (.Name x p) iter (wi cs) Gv (rngD 0 as.length)) (hv : ∀ cs' : List (Addr × List D), Gv (((g, M.lst (as.map D.rf)) :: O1) ++ csM cs'))
    (hk : ρ[ks]? = some none)
    (hgE : ∀ i O', EV X B (ρ.set ks (some (.int i))) O' gE (.rf g)) (hkE : ∀ i O', EV X B (ρ.set ks (some (.int i))) O' kE (.int i)) (hcE : ∀ i O', EV X B (ρ.set ks (some (.int i))) O' cE dc)
    (hrest : JC X B rest ρ ((g, M.lst (as.map D.rf)) :: O1) (aR rt) m)
    (hix : X.N[ks]? = some x := by rfl) (hx : Loc X.env.scope x := by first | exact .inl rfl | exact .inr rfl) (hf : X.fn x = true ∨ X.env.scope.names.lookup x = some .local := by first | exact .inr rfl | exact .inl rfl) (hpl : PlainIx kE := by intro _ _; rfl)
    (hbase : attributeBase (.Subscript gE kE p3) "append" X.env (eval (.Subscript gE kE p3) X.env) = eval (.Subscript gE kE p3) X.env := by rfl)
    (hfew : ((backTo p5 (starEach [cE] X.env)).all (fun x => !x.1) && (backToKw p5 (keywordEach [] X.env)).all (fun x => x.1.isSome)
      && decide ([cE].length + ([] : List Keyword).length + (if ([] : List Keyword).isEmpty then 0 else 1) < 30)) = true := by rfl)
    (hline : (p4.endLine == p5.line) = true := by rfl) (hse : starEach [cE] X.env = (false, eval cE X.env) :: starEach [] X.env := by rfl) (hplain : (backTo p5 (starEach [] X.env)).any (·.1) = false := by rfl)
    (hsw : swapsWith (.Call (.Attribute (.Subscript gE kE p3) "append" p4) [cE] [] p5) none p6.line X.env = pure false := by rfl)
    (hfs : ∀ x, foldedSetIterable iter X.env x = pure x := by intro _; rfl) :
    JZC X B as xs (.For (.Name x p) iter [.Expr (.Call (.Attribute (.Subscript gE kE p3) "append" p4) [cE] [] p5) p6] [] pos :: rest) ρ ((g, M.lst (as.map D.rf)) :: O1) rt m := fun ok => by
  refine jz_thaw (e.trans (List.length_map _).symm) fun cs n1 n2 n3 => ?_
  refine j_mutZ (M0 := 1000) ks nd hp hc (hi cs) hv List.mem_cons_self n3 (fun p hp => ?_) ?_ hk hgE hkE hcE (fun cs' => jc_dropT (A := aR rt) (m := m) hrest ok) hix hx hf hpl hbase hfew hline hse hplain hsw hfs
  · obtain ⟨q, hq, e⟩ := List.mem_map.mp (n2 p hp)
    have e2 : p.2 = q.2 := by injection e with _ e; injection e with e; exact e.symm
    obtain ⟨y, hy, e3⟩ := List.mem_map.mp (List.of_mem_zip hq).2
    rw [e2, ← e3]
    show (y.map dRow).length ≤ 1000
    rw [List.length_map]
    exact (ht.1 y hy).2
  · have := ht.2
    rw [e]
    exact Nat.lt_of_le_of_lt (Nat.add_le_add_left this 1000) (by decide)
end
end DL

set_option Elab.async false
set_option linter.all false
set_option maxRecDepth 100000
set_option maxHeartbeats 4000000
namespace DL
open PySem PySem.Spec PyProof.Rows L2 GenW Psn
theorem fssX_nox {X : Cx} {ss : List Stmt} {u : TF} (r : FSs X.nox ss u) : FSsX X ss u := ⟨fun A R Y s₀ c fs K J gd lv pins s σ H nx yl g k ex I q => r.run A R Y s₀ c fs K J gd lv pins s σ H nx yl g k (I.wish _) q⟩
theorem fjX_nox {X : Cx} {B : Gd} {ρ : List (Option D)} {O : Om} {nxp : PNx} {ylp : PYl} {exp : Addr → Str → D → List (Option D) → Om → Prop} {ss : List Stmt} (h : FJ X.nox B ss ρ O nxp ylp) : FJX X B ss ρ O nxp ylp exp :=
  fssX_of (fssX_nox h) fun nx yl σ H ⟨s, n, y, x⟩ => ⟨s, n, y⟩
theorem j_forR {X : Cx} {B : Gd} {ρ : List (Option D)} {O : Om} {A : AE} {tg iter : Expr} {body : List Stmt} {pos : Pos} {C : Addr} {n : Str} {d : D} (he : ER X B ρ O iter C n d) (h : A.ex C n d ρ O) (hfs : ∀ x, foldedSetIterable iter X.env x = pure x := by intro _; rfl) : J1 X B (.For tg iter body [] pos) ρ O A := by
  refine ⟨fun pins s σ H Dn I ⟨st, pp⟩ => wpAny_For (thn (he.run pins s σ H (fun _ _ => False) I ⟨st, fun dx v H1 e1 hx r1 => pp.ex C n d ρ O σ H1 dx v h (st.same e1) (vis_same e1) hx (has_xd st.m e1 hx) r1⟩) fun v s1 h1 => ?_) hfs⟩
  obtain ⟨_, _, _, _, z⟩ := h1
  exact z.elim
theorem fjcX_for {X : Cx} {B : Gd} {ρ : List (Option D)} {O : Om} {ce : ErrTab} {α β : Type} {E : α → D} {mc : Cmp (Ctl Unit Unit β)} {mr : β → Cmp (Option α)} {tg iter : Expr} {body rest : List Stmt} {pos : Pos} (hx : ∀ er, mc.ok → mc.val = .ex er → ER X B ρ O iter (ce er.c).1 (ce er.c).2 er.d)
    (hv : ∀ v, mc.ok → mc.val = .rt v → FJC X.nox B (.For tg iter body [] pos :: rest) ρ O nxO (ylO E) (mr v)) (hfs : ∀ x, foldedSetIterable iter X.env x = pure x := by intro _; rfl) : FJCX X B (.For tg iter body [] pos :: rest) ρ O ce E (mc.bindX fun y => liftG (mr y)) := fun ok => by
  obtain ⟨ok1, ⟨v, hm, ok2⟩ | ⟨er, hm⟩⟩ := bindX_ok ok
  · rw [(bindX_rt hm).2]
    exact fjX_nox (hv v ok1 hm ok2.1)
  · rw [bindX_ex hm]
    exact fjX_pre (j_forR (hx er ok1 hm) ⟨rfl, rfl, rfl⟩ hfs)
theorem ei_listX {X : Cx} {B : Gd} {ρ : List (Option D)} {O : Om} {tg e : Expr} {γ : Type} {E' : γ → D} {mc : Cmp (Ctl Unit Unit (List γ))} (y : List γ) (ok : mc.ok) (hm : mc.val = .rt y) (hv : ∀ v, mc.ok → mc.val = .rt v → EV X B ρ O e (dL E' v)) : EI X B ρ O tg e (iList X.K (tD X.K B ρ O (dL E' y))) (fun O' => Vw (B.L ++ O') (dL E' y) (y.map E')) (y.map E') := ei_list (hv y ok hm) (Vs.vw vsI)
section
variable {P : Program} {w : World} {K : PySem.W.Frag} {mg : Str → Option Value} {base : Heap}
theorem fn_genFXG {α : Type} {ce : ErrTab} {E0 : α → D} {Ar : Om → List D → OutF → Prop} {x qual : Str} {st : Stmt} {f : Addr} {fd : FuncData} {N ps : List Str} {k : Nat} (F : FunG K x qual st f fd) (S : GScope N ps (defScope st)) (len : ∀ L ds d, Ar L ds d → ds.length = ps.length)
    (h : ∀ (cdv : Value) (A : Around) (outer : List Env) (s : Shared) (H : Hp) (E : XK) (pn : List (Addr × Obj)) (B : Gd) (ds : List D) (out : OutF), Room k (A.deeper (envOfC qual (defScope st) s.heap.objs.size f cdv)) → Takes (gcxOf P w K mg base N qual (defScope st) f cdv A outer s H E pn) B.W → Ar B.L ds out →
      ∃ m : Cmp (Ctl Unit Unit (Option α)), m.ok ∧ out = outG ce E0 m.val ∧ ((∃ o, m.val = .rt o) ∨ ∃ er, m.val = .ex er) ∧ FJCX (gcxOf P w K mg base N qual (defScope st) f cdv A outer s H E pn) B (defBody st) (startD N ds) [] ce E0 m) : FFnX P w K mg base (k + 1) f fd ps (spFX K Ar) := by
  obtain ⟨oc, od, dV, kV, doc, pm, an, cdv, ct, osl, rfl, lk, hcd⟩ := F.ex
  refine ffn_ofX lk hcd S (fun vs H Q E q => ?_) (fun A outer s H vs Q E pn hr q => ?_)
  · obtain ⟨F', L, ds, d, _, r, ha, _⟩ := q
    rw [r.length]; exact len L ds d ha
  · obtain ⟨F', L, ds, out, bo, r, ha, kk⟩ := q
    obtain ⟨m, ok, eo, hv, j⟩ := h cdv A outer s H E pn ⟨F', H, fun c d _ H => E c d H, L, bo.ok, bo.lF⟩ ds out hr takes_gcx ha
    refine ⟨_, j ok, ⟨⟨fun a o e => ⟨e, rfl⟩, (fun a m hm => nomatch hm), (by simp), bo.lent⟩, start_env r⟩, ?_⟩
    subst eo
    rcases hv with ⟨o, hv⟩ | ⟨er, hv⟩
    · rw [hv] at kk ⊢
      refine ⟨fun ρ O σ H' z s' _ => ?_, fun d' O' v H' z m r' => ?_, fun _ _ _ _ _ _ _ _ _ z => z.elim⟩
      · obtain rfl : o = none := z
        exact kk H' fun a o q => (s'.m.base a o q).1
      · obtain ⟨y, rfl, fz⟩ : ∃ y, o = some y ∧ Frz O' d' (E0 y) := z
        exact kk v H' (fun a o q => (m.base a o q).1) (Rp.frz vis_all m.frz fz r')
    · rw [hv] at kk ⊢
      refine ⟨fun _ _ _ _ z => z.elim, fun _ _ _ _ z => z.elim, ?_⟩
      rintro C' n' d' ρ O σ H' dx v ⟨rfl, rfl, rfl⟩ s' _ hx _ r'
      exact kk dx v H' (fun a o q => (s'.m.base a o q).1) hx (r'.mono vis_all)
end
end DL

set_option Elab.async false
set_option linter.all false
set_option maxRecDepth 100000
set_option maxHeartbeats 4000000
namespace DL
open PySem PySem.Spec PyProof.Rows L2 TL
structure Ads where
  (CBadFormula CBadKey CBadPlan CBadRoom CBest CClash CFormula CKeep CKeys CNoOrder CNoRanking CNoRow CNoStep CPlan CRank CReader CStore CTableError CTooHeavy CTooLong CTooManySteps CTwoSided f_TooHeavy___init__ : Addr)
structure FormV where
  words : List Str
  code : List (Str × Int × Int)
deriving Inhabited
def fFForm : List Str := ["words", "code"]
abbrev fVForm (v : FormV) : List D := [dU D.str v.words, dL (dP3 D.str D.int D.int) v.code]
abbrev eForm (ad : Ads) (v : FormV) : D := .obj ad.CFormula fFForm (fVForm v)
structure KeysV where
  names : List Str
deriving Inhabited
def fFKeys : List Str := ["names"]
abbrev fVKeys (v : KeysV) : List D := [dU D.str v.names]
abbrev eKeys (ad : Ads) (v : KeysV) : D := .obj ad.CKeys fFKeys (fVKeys v)
structure StpV where
  formula : FormV
deriving Inhabited
def fFStp : List Str := ["formula"]
abbrev fVStp (ad : Ads) (v : StpV) : List D := [eForm ad v.formula]
abbrev eRank (ad : Ads) (v : StpV) : D := .obj ad.CRank fFStp (fVStp ad v)
abbrev eKeep (ad : Ads) (v : StpV) : D := .obj ad.CKeep fFStp (fVStp ad v)
abbrev eBest (ad : Ads) (v : StpV) : D := .obj ad.CBest fFStp (fVStp ad v)
inductive StepV where
  | keep (s : StpV) | best (s : StpV) | rank (s : StpV)
deriving Inhabited
@[reducible] def eStep (ad : Ads) : StepV → D
  | .keep s => eKeep ad s
  | .best s => eBest ad s
  | .rank s => eRank ad s
def StepV.formula : StepV → FormV
  | .keep s => s.formula
  | .best s => s.formula
  | .rank s => s.formula
@[reducible] def StepV.isBest : StepV → Bool
  | .keep _ => false
  | .best _ => true
  | .rank _ => true
structure PlanV where
  steps : List StepV
deriving Inhabited
def fFPlan : List Str := ["steps"]
abbrev fVPlan (ad : Ads) (v : PlanV) : List D := [dL (eStep ad) v.steps]
abbrev ePlan (ad : Ads) (v : PlanV) : D := .obj ad.CPlan fFPlan (fVPlan ad v)
def stepsL : List (Str × Int) := [("keep", 0), ("best", 1), ("rank", 2)]
def stepsT (z : Str) : Option Int := lookS stepsL z
def ceT (ad : Ads) : ErrTab := fun i => match i with | 0 => (ad.CTooLong, "many") | 1 => (ad.CBadFormula, "place") | 2 => (ad.CBadKey, "name") | 3 => (ad.CTooManySteps, "many") | 4 => (ad.CTooHeavy, "weight") | 5 => (ad.CTwoSided, "place") | 6 => (ad.CBadPlan, "at") | 7 => (ad.CNoStep, "at") | 8 => (ad.CBadRoom, "given") | 9 => (ad.CNoRow, "name") | 10 => (ad.CClash, "name") | 11 => (ad.CNoOrder, "rows") | 12 => (ad.CNoRanking, "rows") | _ => (0, Str.empty)
abbrev keyNames : List Str := [Str.ofString "a", Str.ofString "b", Str.ofString "c", Str.ofString "ab", Str.ofString "ac", Str.ofString "bc", Str.ofString "abc"]
def opsT (z : Str) : Option Int := lookS opsL z
inductive ChartV where
  | keep (k : List Row) | best (k : List (Row × Row))
deriving Inhabited
@[reducible] def eChart : ChartV → D
  | .keep k => dK kRow k
  | .best k => dK kRR k
inductive PartV where
  | plan (p : PlanV) | keys (k : KeysV)
deriving Inhabited
@[reducible] def ePart (ad : Ads) : PartV → D
  | .plan p => ePlan ad p
  | .keys k => eKeys ad k
def Cmp.mapC {α β : Type} (f : α → β) (m : Cmp α) : Cmp β := ⟨m.ok, f m.val⟩
structure Reader0V where
  formula : FormV
  passes : Int
deriving Inhabited
def fFReader0 : List Str := ["formula", "passes"]
abbrev fVReader0 (ad : Ads) (v : Reader0V) : List D := [eForm ad v.formula, .int v.passes]
structure ReaderV where
  formula : FormV
  passes : Int
  space : Int
deriving Inhabited
def fFReader : List Str := ["formula", "passes", "space"]
abbrev fVReader (ad : Ads) (v : ReaderV) : List D := [eForm ad v.formula, .int v.passes, .int v.space]
abbrev eReader (ad : Ads) (v : ReaderV) : D := .obj ad.CReader fFReader (fVReader ad v)
structure StoreV where
  formula : FormV
  rules : Option KeysV
  table : List (Str × Row)
  best : List Row
deriving Inhabited
def fFStore : List Str := ["formula", "rules", "table", "best"]
abbrev fVStore (ad : Ads) (t : Addr) (v : StoreV) : List D := [eForm ad v.formula, dO (eKeys ad) v.rules, .rf t, dL dRow v.best]
def zStoreI (ad : Ads) (v : StoreV) : Addr → Om → Prop := fun q O => ∃ t, O = [(q, M.ins ad.CStore fFStore (fVStore ad t v)), (t, M.dk (mkD dRow v.table))]
def zStore (ad : Ads) (v : StoreV) : D → Om → Prop := fun d O => ∃ q t, d = .rf q ∧ O = [(q, M.ins ad.CStore fFStore (fVStore ad t v)), (t, M.dk (mkD dRow v.table))]
def mx_check_weight (v_columns : Str) (v_marks : List (Str × Int)) : Cmp (Ctl Unit Unit Unit) :=
  .req ((v_columns.length ≤ sizeLine)) (.bnd (((v_columns.length : Int) + (v_marks.length : Int)) : Int) fun v_weight => if (decide (v_weight > (4 : Int))) = true then (.ret (.ex ⟨4, D.int v_weight⟩)) else (.ret (.rt ())))
def m_check_weight (v_columns : Str) (v_marks : List (Str × Int)) : Cmp Unit := (mx_check_weight v_columns v_marks).calm
def m_values_near (v_letter : Str) (v_columns : Str) (v_marks : List (Str × Int)) (v_many : Int) : Cmp (List Int) :=
  if (!(!(Builtin.Str.occurrences v_columns v_letter 0 v_columns.length 1).isEmpty)) = true then (.ret ([(0 : Int)] : List Int)) else (.req ((v_marks.length < sizeLine)) (.bnd (((v_marks.filter (fun (x2 : (Str × Int)) => (decide (x2.1 = v_letter)))).map (fun (x2 : (Str × Int)) => x2.2)) : List Int) fun v_constants => if (!(!v_constants.isEmpty)) = true then (.req ((0 ≤ v_many ∧ v_many ≤ 1000000)) (.ret ((rangeL 0 v_many) : List Int))) else (.req ((-(2 ^ 62) ≤ (1 : Int) ∧ (1 : Int) < 2 ^ 62 ∧ -(2 ^ 62) ≤ (v_many + (1 : Int)) ∧ (v_many + (1 : Int)) < 2 ^ 62) ∧ (∀ x9, ∀ (hx10 : x9 ∈ (rangeL (1 : Int) (v_many + (1 : Int)))), 0 ≤ (0 : Int) ∧ (0 : Int) < (v_constants.length : Int)) ∧ ((rangeL (1 : Int) (v_many + (1 : Int))).length < sizeLine)) (.bnd (((rangeL (1 : Int) (v_many + (1 : Int))).filter (fun _ => true)).map (fun (x9 : Int) => ((ixL v_constants (0 : Int)) - x9))) fun (v_values : List Int) => .bind (forN (fun (v_constant : Int) (v_values : (List Int)) => .req ((-(2 ^ 62) ≤ (v_many + (1 : Int)) ∧ (v_many + (1 : Int)) < 2 ^ 62)) (.bind (forN (fun (v_step : Int) (v_values : (List Int)) => if (!decide ((v_constant + v_step) ∈ v_values)) = true then (.req ((v_values.length < sizeLine)) (.bnd (v_values ++ [(v_constant + v_step)]) fun v_values => .ret v_values)) else (.ret v_values)) (rangeL 0 (v_many + (1 : Int))) v_values) (fun (v_values : (List Int)) => .ret v_values))) v_constants v_values) (fun (v_values : (List Int)) => .req ((v_values.length < sizeLine)) (.ret ((sortI ((v_values.filter (fun _ => true)).map (fun (x17 : Int) => x17))) : List Int)))))))
def m_candidate_rows (v_columns : Str) (v_marks : List (Str × Int)) (v_many : Int) : Cmp (List Row) :=
  .req ((∀ x1, ∀ (hx2 : x1 ∈ (charsL (Str.ofString "abc"))), (m_values_near (cS x1) v_columns v_marks v_many).ok) ∧ ((((charsL (Str.ofString "abc")).filter (fun _ => true)).map (fun (x1 : Nat) => (m_values_near (cS x1) v_columns v_marks v_many).val)).length = 3)) (.bnd (ixL (((charsL (Str.ofString "abc")).filter (fun _ => true)).map (fun (x1 : Nat) => (m_values_near (cS x1) v_columns v_marks v_many).val)) 0, ixL (((charsL (Str.ofString "abc")).filter (fun _ => true)).map (fun (x1 : Nat) => (m_values_near (cS x1) v_columns v_marks v_many).val)) 1, ixL (((charsL (Str.ofString "abc")).filter (fun _ => true)).map (fun (x1 : Nat) => (m_values_near (cS x1) v_columns v_marks v_many).val)) 2) fun ((v_first, v_second, v_third) : (List Int) × (List Int) × (List Int)) => .req ((((v_first.filter (fun _ => true)).flatMap (fun (x5 : Int) => ((v_second.filter (fun _ => true)).flatMap (fun (x7 : Int) => ((v_third.filter (fun _ => true)).map (fun (x9 : Int) => (x5, x7, x9))))))).length ≤ sizeLine)) (.ret (((v_first.filter (fun _ => true)).flatMap (fun (x5 : Int) => ((v_second.filter (fun _ => true)).flatMap (fun (x7 : Int) => ((v_third.filter (fun _ => true)).map (fun (x9 : Int) => (x5, x7, x9))))))) : List Row)))
def m_is_packed (v_values : List Int) (v_constants : List Int) : Cmp Bool :=
  .bindR (forC (L := Unit) (R := Bool) (fun (v_value : Int) (_ : Unit) => if (decide (v_value ∈ v_constants)) = true then (.ret (.ct ())) else (.bind (if (!(!v_constants.isEmpty)) = true then (.bnd (((decide (v_value = (0 : Int))) || (decide ((v_value - (1 : Int)) ∈ v_values))) : Bool) fun v_supported => .ret v_supported) else (.req ((0 ≤ (0 : Int) ∧ (0 : Int) < (v_constants.length : Int))) (if (decide (v_value < (ixL v_constants (0 : Int)))) = true then (.bnd (((decide ((v_value + (1 : Int)) ∈ v_values)) || (decide ((v_value + (1 : Int)) ∈ v_constants))) : Bool) fun v_supported => .ret v_supported) else (.bnd (((decide ((v_value - (1 : Int)) ∈ v_values)) || (decide ((v_value - (1 : Int)) ∈ v_constants))) : Bool) fun v_supported => .ret v_supported))) : Cmp Bool) (fun (v_supported : Bool) => if (!v_supported) = true then (.ret (.rt false)) else (.ret (.nx ()))))) v_values ()) (fun (_ : Unit) => .ret true)
def m_column_shapes (v_letter : Str) (v_columns : Str) (v_marks : List (Str × Int)) : Cmp (List (List Int)) :=
  .req (((m_values_near v_letter v_columns v_marks (3 : Int)).ok)) (.bnd ((m_values_near v_letter v_columns v_marks (3 : Int)).val : List Int) fun v_near => .req ((v_marks.length < sizeLine)) (.bnd (((v_marks.filter (fun (x2 : (Str × Int)) => (decide (x2.1 = v_letter)))).map (fun (x2 : (Str × Int)) => x2.2)) : List Int) fun v_constants => .req ((v_near.length < sizeLine)) (.bnd ((v_near.filter (fun _ => true)).map (fun (x6 : Int) => [x6])) fun (v_ones : List (List Int)) => .req ((((v_near.filter (fun _ => true)).flatMap (fun (x9 : Int) => ((v_near.filter (fun _ => true)).map (fun (x11 : Int) => [x9, x11])))).length ≤ sizeLine)) (.bnd ((v_near.filter (fun _ => true)).flatMap (fun (x9 : Int) => ((v_near.filter (fun _ => true)).map (fun (x11 : Int) => [x9, x11])))) fun (v_twos : List (List Int)) => .req ((((v_near.filter (fun _ => true)).flatMap (fun (x14 : Int) => ((v_near.filter (fun _ => true)).flatMap (fun (x16 : Int) => ((v_near.filter (fun _ => true)).map (fun (x18 : Int) => [x14, x16, x18])))))).length ≤ sizeLine)) (.bnd ((v_near.filter (fun _ => true)).flatMap (fun (x14 : Int) => ((v_near.filter (fun _ => true)).flatMap (fun (x16 : Int) => ((v_near.filter (fun _ => true)).map (fun (x18 : Int) => [x14, x16, x18])))))) fun (v_threes : List (List Int)) => .req ((v_ones.length + v_twos.length ≤ sizeLine) ∧ ((v_ones ++ v_twos).length + v_threes.length ≤ sizeLine) ∧ (∀ x23, ∀ (hx24 : x23 ∈ ((v_ones ++ v_twos) ++ v_threes)), (m_is_packed x23 v_constants).ok) ∧ ((((v_ones ++ v_twos) ++ v_threes).filter (fun (x23 : (List Int)) => (m_is_packed x23 v_constants).val)).length ≤ sizeLine)) (.ret (onceL ((((v_ones ++ v_twos) ++ v_threes).filter (fun (x23 : (List Int)) => (m_is_packed x23 v_constants).val)).map (fun (x23 : (List Int)) => x23)))))))))
def m_small_tables (v_rows : List Row) : Cmp (List (List Row)) :=
  .bnd ((v_rows.length : Int) : Int) fun v_many => .req ((v_rows.length < sizeLine)) (.bnd ((v_rows.filter (fun _ => true)).map (fun (x1 : Row) => [x1])) fun (v_ones : List (List Row)) => .req ((-(2 ^ 62) ≤ v_many ∧ v_many < 2 ^ 62) ∧ (∀ x5, ∀ (hx6 : x5 ∈ (rangeL 0 v_many)), -(2 ^ 62) ≤ (x5 + (1 : Int)) ∧ (x5 + (1 : Int)) < 2 ^ 62 ∧ -(2 ^ 62) ≤ v_many ∧ v_many < 2 ^ 62) ∧ (∀ x5, ∀ (hx6 : x5 ∈ (rangeL 0 v_many)), ∀ x8, ∀ (hx9 : x8 ∈ (rangeL (x5 + (1 : Int)) v_many)), 0 ≤ x5 ∧ x5 < (v_rows.length : Int)) ∧ (∀ x5, ∀ (hx6 : x5 ∈ (rangeL 0 v_many)), ∀ x8, ∀ (hx9 : x8 ∈ (rangeL (x5 + (1 : Int)) v_many)), 0 ≤ x8 ∧ x8 < (v_rows.length : Int)) ∧ ((((rangeL 0 v_many).filter (fun _ => true)).flatMap (fun (x5 : Int) => (((rangeL (x5 + (1 : Int)) v_many).filter (fun _ => true)).map (fun (x8 : Int) => [(ixL v_rows x5), (ixL v_rows x8)])))).length ≤ sizeLine)) (.bnd (((rangeL 0 v_many).filter (fun _ => true)).flatMap (fun (x5 : Int) => (((rangeL (x5 + (1 : Int)) v_many).filter (fun _ => true)).map (fun (x8 : Int) => [(ixL v_rows x5), (ixL v_rows x8)])))) fun (v_twos : List (List Row)) => .req ((∀ x13, ∀ (hx14 : x13 ∈ (rangeL 0 v_many)), -(2 ^ 62) ≤ (x13 + (1 : Int)) ∧ (x13 + (1 : Int)) < 2 ^ 62 ∧ -(2 ^ 62) ≤ v_many ∧ v_many < 2 ^ 62) ∧ (∀ x13, ∀ (hx14 : x13 ∈ (rangeL 0 v_many)), ∀ x16, ∀ (hx17 : x16 ∈ (rangeL (x13 + (1 : Int)) v_many)), -(2 ^ 62) ≤ (x16 + (1 : Int)) ∧ (x16 + (1 : Int)) < 2 ^ 62 ∧ -(2 ^ 62) ≤ v_many ∧ v_many < 2 ^ 62) ∧ (∀ x13, ∀ (hx14 : x13 ∈ (rangeL 0 v_many)), ∀ x16, ∀ (hx17 : x16 ∈ (rangeL (x13 + (1 : Int)) v_many)), ∀ x19, ∀ (hx20 : x19 ∈ (rangeL (x16 + (1 : Int)) v_many)), 0 ≤ x13 ∧ x13 < (v_rows.length : Int)) ∧ (∀ x13, ∀ (hx14 : x13 ∈ (rangeL 0 v_many)), ∀ x16, ∀ (hx17 : x16 ∈ (rangeL (x13 + (1 : Int)) v_many)), ∀ x19, ∀ (hx20 : x19 ∈ (rangeL (x16 + (1 : Int)) v_many)), 0 ≤ x16 ∧ x16 < (v_rows.length : Int)) ∧ (∀ x13, ∀ (hx14 : x13 ∈ (rangeL 0 v_many)), ∀ x16, ∀ (hx17 : x16 ∈ (rangeL (x13 + (1 : Int)) v_many)), ∀ x19, ∀ (hx20 : x19 ∈ (rangeL (x16 + (1 : Int)) v_many)), 0 ≤ x19 ∧ x19 < (v_rows.length : Int)) ∧ ((((rangeL 0 v_many).filter (fun _ => true)).flatMap (fun (x13 : Int) => (((rangeL (x13 + (1 : Int)) v_many).filter (fun _ => true)).flatMap (fun (x16 : Int) => (((rangeL (x16 + (1 : Int)) v_many).filter (fun _ => true)).map (fun (x19 : Int) => [(ixL v_rows x13), (ixL v_rows x16), (ixL v_rows x19)])))))).length ≤ sizeLine)) (.bnd (((rangeL 0 v_many).filter (fun _ => true)).flatMap (fun (x13 : Int) => (((rangeL (x13 + (1 : Int)) v_many).filter (fun _ => true)).flatMap (fun (x16 : Int) => (((rangeL (x16 + (1 : Int)) v_many).filter (fun _ => true)).map (fun (x19 : Int) => [(ixL v_rows x13), (ixL v_rows x16), (ixL v_rows x19)])))))) fun (v_threes : List (List Row)) => .req ((v_ones.length + v_twos.length ≤ sizeLine) ∧ ((v_ones ++ v_twos).length + v_threes.length ≤ sizeLine)) (.ret (((v_ones ++ v_twos) ++ v_threes) : List (List Row))))))
def mx_packed_tables (v_columns : Str) (v_marks : List (Str × Int)) : Cmp (Ctl Unit Unit (List (List Row))) :=
  (mx_check_weight v_columns v_marks).bindX fun _ => .req ((∀ x1, ∀ (hx2 : x1 ∈ (charsL (Str.ofString "abc"))), (m_column_shapes (cS x1) v_columns v_marks).ok) ∧ ((((charsL (Str.ofString "abc")).filter (fun _ => true)).map (fun (x1 : Nat) => (m_column_shapes (cS x1) v_columns v_marks).val)).length = 3)) (.bnd (ixL (((charsL (Str.ofString "abc")).filter (fun _ => true)).map (fun (x1 : Nat) => (m_column_shapes (cS x1) v_columns v_marks).val)) 0, ixL (((charsL (Str.ofString "abc")).filter (fun _ => true)).map (fun (x1 : Nat) => (m_column_shapes (cS x1) v_columns v_marks).val)) 1, ixL (((charsL (Str.ofString "abc")).filter (fun _ => true)).map (fun (x1 : Nat) => (m_column_shapes (cS x1) v_columns v_marks).val)) 2) fun ((v_first, v_second, v_third) : (List (List Int)) × (List (List Int)) × (List (List Int))) => .req (((m_candidate_rows v_columns v_marks (3 : Int)).ok) ∧ ((m_small_tables ((m_candidate_rows v_columns v_marks (3 : Int)).val)).ok) ∧ (∀ x7, ∀ (hx8 : x7 ∈ (m_small_tables ((m_candidate_rows v_columns v_marks (3 : Int)).val)).val), x7.length < sizeLine) ∧ (∀ x7, ∀ (hx8 : x7 ∈ (m_small_tables ((m_candidate_rows v_columns v_marks (3 : Int)).val)).val), ∀ (hb12 : (decide ((((x7.filter (fun _ => true)).map (fun (x9 : Row) => x9.1)) : List Int) ∈ v_first)) = true), x7.length < sizeLine) ∧ (∀ x7, ∀ (hx8 : x7 ∈ (m_small_tables ((m_candidate_rows v_columns v_marks (3 : Int)).val)).val), ∀ (hb12 : (decide ((((x7.filter (fun _ => true)).map (fun (x9 : Row) => x9.1)) : List Int) ∈ v_first)) = true), ∀ (hb16 : (decide ((((x7.filter (fun _ => true)).map (fun (x13 : Row) => x13.2.1)) : List Int) ∈ v_second)) = true), x7.length < sizeLine) ∧ (((m_small_tables ((m_candidate_rows v_columns v_marks (3 : Int)).val)).val).length < sizeLine)) (.ret (.rt ((((m_small_tables ((m_candidate_rows v_columns v_marks (3 : Int)).val)).val).filter (fun (x7 : (List Row)) => ((decide ((((x7.filter (fun _ => true)).map (fun (x9 : Row) => x9.1)) : List Int) ∈ v_first)) && ((decide ((((x7.filter (fun _ => true)).map (fun (x13 : Row) => x13.2.1)) : List Int) ∈ v_second)) && (decide ((((x7.filter (fun _ => true)).map (fun (x17 : Row) => x17.2.2)) : List Int) ∈ v_third)))))).map (fun (x7 : (List Row)) => x7)))))
def m_packed_tables (v_columns : Str) (v_marks : List (Str × Int)) : Cmp (List (List Row)) := (mx_packed_tables v_columns v_marks).calm
def m_packed_a (v_columns : Str) (v_marks : List (Str × Int)) : Cmp (List (List Row)) :=
  .req (((m_packed_tables v_columns v_marks).ok)) (forY (fun (v_table : List Row) => (Cmp.ret (some v_table) : Cmp (Option (List Row)))) (m_packed_tables v_columns v_marks).val)
def mx_packed (v_columns : Str) (v_marks : List (Str × Int)) : Cmp (Ctl Unit Unit (Option (List Row))) :=
  (mx_packed_tables v_columns v_marks).bindX fun (y_ : List (List Row)) => liftG (.bindR (forC (L := Unit) (R := Option (List Row)) (fun (v_table : List Row) (_ : Unit) => .ret (.rt (some v_table))) y_ ()) (fun (_ : Unit) => .ret none))
def m_law_pool (v_script : List Int) (v_k : Int) (v_many : Int) : Cmp (List Int) :=
  .bnd ((0 : Int) : Int) fun v_cell => .bind (if (decide (v_k < (v_script.length : Int))) = true then (.req ((0 ≤ v_k ∧ v_k < (v_script.length : Int))) (.bnd ((ixL v_script v_k) : Int) fun v_cell => .ret v_cell)) else (.ret v_cell) : Cmp Int) (fun (v_cell : Int) => .bnd ((decide (v_cell ≥ (((10 : Int) : Int) ^ ((18 : Int) : Int).toNat))) : Bool) fun v_great => .bnd ([] : List Int) fun v_pool_here => .req ((-(2 ^ 62) ≤ v_many ∧ v_many < 2 ^ 62)) (.bind (forN (fun (v_j : Int) ((v_cell, v_pool_here) : Int × (List Int)) => if (v_great && (decide (v_cell > (0 : Int)))) = true then (.req ((v_pool_here.length < sizeLine)) (.bnd (v_pool_here ++ [(v_cell % (1000 : Int))]) fun v_pool_here => .bnd ((v_cell / (1000 : Int)) : Int) fun v_cell => .ret (v_cell, v_pool_here))) else (.bnd ((v_j + ((11 : Int) * v_k)) : Int) fun v_i => .bnd (((((v_cell * (37 : Int)) + (v_i * (71 : Int))) + (5 : Int)) % (509 : Int)) : Int) fun v_first => .req ((CMul v_first v_first) ∧ (v_pool_here.length < sizeLine)) (.bnd (v_pool_here ++ [((((v_first * v_first) + v_cell) + (v_i * (13 : Int))) % (499 : Int))]) fun v_pool_here => .ret (v_cell, v_pool_here)))) (rangeL 0 v_many) (v_cell, v_pool_here)) (fun ((v_cell, v_pool_here) : Int × (List Int)) => .ret v_pool_here)))
def m_law_frame (v_pool_here : List Int) (v_shapes : Int) : Cmp (Str × (List (Str × Int)) × Int) :=
  .req ((0 ≤ (0 : Int) ∧ (0 : Int) < (v_pool_here.length : Int)) ∧ (0 < v_shapes)) (.bnd (((ixL v_pool_here (0 : Int)) % v_shapes) : Int) fun v_shape => .req ((0 ≤ v_shape ∧ v_shape < (9 : Int))) (.bnd ((ixL ([(2 : Int), (1 : Int), (2 : Int), (1 : Int), (3 : Int), (2 : Int), (2 : Int), (3 : Int), (1 : Int)] : List Int) v_shape) : Int) fun v_many => .bnd ((ixL ([(1 : Int), (1 : Int), (0 : Int), (2 : Int), (0 : Int), (2 : Int), (1 : Int), (1 : Int), (3 : Int)] : List Int) v_shape) : Int) fun v_count => .req ((0 ≤ (1 : Int) ∧ (1 : Int) < (v_pool_here.length : Int)) ∧ ((ixL ([(Str.ofString "abc"), (Str.ofString "acb"), (Str.ofString "bac"), (Str.ofString "bca"), (Str.ofString "cab"), (Str.ofString "cba")] : List Str) ((ixL v_pool_here (1 : Int)) % (6 : Int))).length ≤ sizeLine)) (.bnd ((cutS (ixL ([(Str.ofString "abc"), (Str.ofString "acb"), (Str.ofString "bac"), (Str.ofString "bca"), (Str.ofString "cab"), (Str.ofString "cba")] : List Str) ((ixL v_pool_here (1 : Int)) % (6 : Int))) none (some v_many)) : Str) fun v_letters => .req ((0 ≤ (2 : Int) ∧ (2 : Int) < (v_pool_here.length : Int))) (.bnd ((ixL ([(0 : Int), (0 : Int), (1000 : Int), (-(((10 : Int) : Int) ^ ((15 : Int) : Int).toNat))] : List Int) ((ixL v_pool_here (2 : Int)) % (4 : Int))) : Int) fun v_base => .bnd ((ixL ([(0 : Int), (0 : Int), (0 : Int), (20 : Int), (((10 : Int) : Int) ^ ((16 : Int) : Int).toNat)] : List Int) (((ixL v_pool_here (2 : Int)) / (4 : Int)) % (5 : Int))) : Int) fun v_far => .bnd ([] : List (Str × Int)) fun v_marks => .req ((-(2 ^ 62) ≤ v_count ∧ v_count < 2 ^ 62)) (.bind (forN (fun (v_k : Int) (v_marks : (List (Str × Int))) => .req ((0 ≤ ((4 : Int) + ((2 : Int) * v_k)) ∧ ((4 : Int) + ((2 : Int) * v_k)) < (v_pool_here.length : Int)) ∧ (CMul v_k v_far)) (.bnd ((((v_base + ((ixL v_pool_here ((4 : Int) + ((2 : Int) * v_k))) % (7 : Int))) - (3 : Int)) + (v_k * v_far)) : Int) fun v_constant => .req ((0 ≤ ((3 : Int) + ((2 : Int) * v_k)) ∧ ((3 : Int) + ((2 : Int) * v_k)) < (v_pool_here.length : Int)) ∧ (0 < v_many) ∧ (0 ≤ ((ixL v_pool_here ((3 : Int) + ((2 : Int) * v_k))) % v_many) ∧ ((ixL v_pool_here ((3 : Int) + ((2 : Int) * v_k))) % v_many) < (v_letters.length : Int)) ∧ (v_letters.length ≤ sizeLine) ∧ (v_marks.length < sizeLine)) (.bnd (v_marks ++ [((cS (ixS v_letters ((ixL v_pool_here ((3 : Int) + ((2 : Int) * v_k))) % v_many))), v_constant)]) fun v_marks => .ret v_marks))) (rangeL 0 v_count) v_marks) (fun (v_marks : (List (Str × Int))) => .ret (v_letters, v_marks, v_base)))))))
def m_law_ordered (v_marks : List (Str × Int)) : Cmp (List (Str × Int)) :=
  .bnd ([] : List (Str × Int)) fun v_result => .bind (forN (fun (v_letter : Nat) (v_result : (List (Str × Int))) => .req ((v_marks.length < sizeLine)) (.bind (forN (fun (v_constant : Int) (v_result : (List (Str × Int))) => .req ((∀ y9, ∀ (hy10 : y9 ∈ v_result), PyData.strOk y9.1 = true) ∧ (PyData.strOk (((cS v_letter), v_constant).1) = true)) (if (!decide ((((cS v_letter), v_constant) : Str × Int) ∈ v_result)) = true then (.req ((v_result.length < sizeLine)) (.bnd (v_result ++ [((cS v_letter), v_constant)]) fun v_result => .ret v_result)) else (.ret v_result))) (sortI ((v_marks.filter (fun (x2 : (Str × Int)) => (decide (x2.1 = (cS v_letter))))).map (fun (x2 : (Str × Int)) => x2.2))) v_result) (fun (v_result : (List (Str × Int))) => .ret v_result))) (charsL (Str.ofString "abc")) v_result) (fun (v_result : (List (Str × Int))) => .ret v_result)
def m_law_columns (v_letters : Str) : Cmp Str :=
  .req (((((((charsL (Str.ofString "abc")).filter (fun (x1 : Nat) => (decide (x1 ∈ charsL v_letters)))).map (fun (x1 : Nat) => x1)).map cS).map (·.length)).sum + ((((charsL (Str.ofString "abc")).filter (fun (x1 : Nat) => (decide (x1 ∈ charsL v_letters)))).map (fun (x1 : Nat) => x1)).map cS).length * (Str.ofString "").length ≤ 16777216)) (.ret (Txt.join (Str.ofString "") ((((charsL (Str.ofString "abc")).filter (fun (x1 : Nat) => (decide (x1 ∈ charsL v_letters)))).map (fun (x1 : Nat) => x1)).map cS)))
def m_law_pack (v_values : List Int) (v_constants : List Int) : Cmp (List Int) :=
  .bnd ([] : List Int) fun v_once => .bind (forN (fun (v_value : Int) (v_once : (List Int)) => if (!decide (v_value ∈ v_once)) = true then (.req ((v_once.length < sizeLine)) (.bnd (v_once ++ [v_value]) fun v_once => .ret v_once)) else (.ret v_once)) v_values v_once) (fun (v_once : (List Int)) => .bnd ([] : List Int) fun v_image => .bind (forN (fun (v_value : Int) (v_image : (List Int)) => .req ((v_constants.length < sizeLine)) (.bnd ((v_constants.filter (fun (x5 : Int) => (decide (x5 < v_value)))).map (fun (x5 : Int) => x5)) fun (v_below : List Int) => if (decide (v_value ∈ v_constants)) = true then (.req ((v_image.length < sizeLine)) (.bnd (v_image ++ [v_value]) fun v_image => .ret v_image)) else (if (decide ((v_constants.length : Int) = (0 : Int))) = true then (.req ((v_once.length < sizeLine) ∧ (v_image.length < sizeLine)) (.bnd (v_image ++ [(((v_once.filter (fun (x12 : Int) => (decide (x12 < v_value)))).map (fun (x12 : Int) => x12)).length : Int)]) fun v_image => .ret v_image)) else (if (decide ((v_below.length : Int) = (0 : Int))) = true then (.req ((0 < ((v_constants.filter (fun _ => true)).map (fun (x18 : Int) => x18)).length)) (.bnd ((minL ((v_constants.filter (fun _ => true)).map (fun (x18 : Int) => x18))) : Int) fun v_least => .req ((v_once.length < sizeLine) ∧ (v_image.length < sizeLine)) (.bnd (v_image ++ [(v_least - (((v_once.filter (fun (x21 : Int) => (decide (v_value ≤ x21) && decide (x21 < v_least)))).map (fun (x21 : Int) => x21)).length : Int))]) fun v_image => .ret v_image))) else (.req ((v_below.length < sizeLine) ∧ (0 < ((v_below.filter (fun _ => true)).map (fun (x26 : Int) => x26)).length)) (.bnd ((maxL ((v_below.filter (fun _ => true)).map (fun (x26 : Int) => x26))) : Int) fun v_most => .req ((v_once.length < sizeLine) ∧ (v_image.length < sizeLine)) (.bnd (v_image ++ [(v_most + (((v_once.filter (fun (x30 : Int) => (decide (v_most < x30) && decide (x30 ≤ v_value)))).map (fun (x30 : Int) => x30)).length : Int))]) fun v_image => .ret v_image))))))) v_values v_image) (fun (v_image : (List Int)) => .ret v_image))
def m_law_is_row (v_row : Row) : Cmp Bool :=
  if ((!true) || (!decide ((3 : Int) = (3 : Int)))) = true then (.ret false) else (.bindR (forC (L := Unit) (R := Bool) (fun (v_value : Int) (_ : Unit) => if ((!true) || false) = true then (.ret (.rt false)) else (.ret (.nx ()))) [v_row.1, v_row.2.1, v_row.2.2] ()) (fun (_ : Unit) => .ret true))
def m_law_heavy (v_one : Int) (v_two : Int) : Cmp (Str × (List (Str × Int))) :=
  .bnd ((ixL ([(Str.ofString "a"), (Str.ofString "b"), (Str.ofString "c"), (Str.ofString "ab"), (Str.ofString "ac"), (Str.ofString "bc"), (Str.ofString "abc")] : List Str) (v_one % (7 : Int))) : Str) fun v_letters => .req ((v_letters.length ≤ sizeLine)) (.bnd ((v_letters.length : Int) : Int) fun v_many => .bnd ([] : List (Str × Int)) fun v_marks => .req ((-(2 ^ 62) ≤ (((5 : Int) - v_many) + (v_two % (3 : Int))) ∧ (((5 : Int) - v_many) + (v_two % (3 : Int))) < 2 ^ 62)) (.bind (forN (fun (v_k : Int) (v_marks : (List (Str × Int))) => .req ((CDiv v_k v_many)) (.bnd (((((10 : Int) * (v_k / v_many)) + ((v_two / (3 : Int)) % (5 : Int))) - (2 : Int)) : Int) fun v_constant => .req ((0 < v_many) ∧ (0 ≤ (v_k % v_many) ∧ (v_k % v_many) < (v_letters.length : Int)) ∧ (v_marks.length < sizeLine)) (.bnd (v_marks ++ [((cS (ixS v_letters (v_k % v_many))), v_constant)]) fun v_marks => .ret v_marks))) (rangeL 0 (((5 : Int) - v_many) + (v_two % (3 : Int)))) v_marks) (fun (v_marks : (List (Str × Int))) => .ret (v_letters, v_marks))))
def m_law_fine (v_table : List Row) (v_columns_here : Str) (v_marks : List (Str × Int)) : Cmp Bool :=
  if ((!true) || ((decide ((v_table.length : Int) < (1 : Int))) || (decide ((v_table.length : Int) > (3 : Int))))) = true then (.ret false) else (.bindR (forC (L := Unit) (R := Bool) (fun (v_row : Row) (_ : Unit) => .req (((m_law_is_row v_row).ok)) (if (!((m_law_is_row v_row).val)) = true then (.ret (.rt false)) else (.ret (.nx ())))) v_table ()) (fun (_ : Unit) => .req ((-(2 ^ 62) ≤ (1 : Int) ∧ (1 : Int) < 2 ^ 62 ∧ -(2 ^ 62) ≤ (v_table.length : Int) ∧ (v_table.length : Int) < 2 ^ 62)) (.bindR (forC (L := Unit) (R := Bool) (fun (v_k : Int) (_ : Unit) => .req ((0 ≤ (v_k - (1 : Int)) ∧ (v_k - (1 : Int)) < (v_table.length : Int)) ∧ (0 ≤ v_k ∧ v_k < (v_table.length : Int))) (if (!(ltRow (ixL v_table (v_k - (1 : Int))) (ixL v_table v_k))) = true then (.ret (.rt false)) else (.ret (.nx ())))) (rangeL (1 : Int) (v_table.length : Int)) ()) (fun (_ : Unit) => .bindR (forC (L := Unit) (R := Bool) (fun (v_at : Int) (_ : Unit) => .req ((∀ x10, ∀ (hx11 : x10 ∈ v_table), 0 ≤ v_at ∧ v_at < 3) ∧ (v_table.length < sizeLine)) (.bnd ((v_table.filter (fun _ => true)).map (fun (x10 : Row) => (rowAt x10 v_at))) fun (v_values : List Int) => .req ((∀ x14, ∀ (hx15 : x14 ∈ v_marks), 0 ≤ v_at ∧ v_at < ((Str.ofString "abc").length : Int)) ∧ (v_marks.length < sizeLine)) (.bnd ((v_marks.filter (fun (x14 : (Str × Int)) => (decide (x14.1 = (cS (ixS (Str.ofString "abc") v_at)))))).map (fun (x14 : (Str × Int)) => x14.2)) fun (v_constants : List Int) => .req ((0 ≤ v_at ∧ v_at < ((Str.ofString "abc").length : Int)) ∧ (∀ (hb20 : (!decide ((ixS (Str.ofString "abc") v_at) ∈ charsL v_columns_here)) = true), -(2 ^ 63) ≤ (v_table.length : Int) ∧ (v_table.length : Int) < 2 ^ 63) ∧ (∀ (hb20 : (!decide ((ixS (Str.ofString "abc") v_at) ∈ charsL v_columns_here)) = true), [(0 : Int)].length * (v_table.length : Int).toNat ≤ sizeLine)) (if ((!decide ((ixS (Str.ofString "abc") v_at) ∈ charsL v_columns_here)) && (!decide ((v_values : List Int) = (List.replicate (v_table.length : Int).toNat [(0 : Int)]).flatten))) = true then (.ret (.rt false)) else (.req ((∀ (hb24 : (decide ((ixS (Str.ofString "abc") v_at) ∈ charsL v_columns_here)) = true), (m_law_pack v_values v_constants).ok)) (if ((decide ((ixS (Str.ofString "abc") v_at) ∈ charsL v_columns_here)) && (!decide ((v_values : List Int) = (m_law_pack v_values v_constants).val))) = true then (.ret (.rt false)) else (.ret (.nx ())))))))) (rangeL 0 (3 : Int)) ()) (fun (_ : Unit) => .ret true)))))
def m_law_told (v_columns_here : Str) (v_marks : List (Str × Int)) : Cmp (List (List Row)) :=
  .bnd ([] : List (List Row)) fun v_tables => .req (((m_packed_a v_columns_here v_marks).ok) ∧ (TbOk (m_packed_a v_columns_here v_marks).val)) (.bindR (forC (L := Unit) (R := List (List Row)) (fun (v_table : List Row) (v_tables : (List (List Row))) => .req ((∀ (hb5 : (decide ((v_tables.length : Int) > (3000 : Int))) = false), (m_law_fine v_table v_columns_here v_marks).ok)) (if ((decide ((v_tables.length : Int) > (3000 : Int))) || (!((m_law_fine v_table v_columns_here v_marks).val))) = true then (.ret (.rt ([] : List (List Row)))) else (.bindC (if (decide ((v_tables.length : Int) > (0 : Int))) = true then (.req ((0 < v_tables.length)) (.bnd ((lastL v_tables) : List Row) fun v_last => if ((decide ((v_last.length : Int) > (v_table.length : Int))) || ((decide ((v_last.length : Int) = (v_table.length : Int))) && (!(ltRows v_last v_table)))) = true then (.ret (.rt ([] : List (List Row)))) else (.ret (.nx ())))) else (.ret (.nx ())) : Cmp (Ctl Unit (List (List Row)) (List (List Row)))) (fun (_ : Unit) => .req ((v_tables.length < sizeLine)) (.bnd (v_tables ++ [v_table]) fun v_tables => .ret (.nx v_tables)))))) (m_packed_a v_columns_here v_marks).val v_tables) (fun (v_tables : (List (List Row))) => if (!decide (((m_packed_a v_columns_here v_marks).val : List (List Row)) = v_tables)) = true then (.ret ([] : List (List Row))) else (.ret v_tables)))
def m_law_refused (v_columns_here : Str) (v_marks : List (Str × Int)) : Cmp Int :=
  .bindR (tryM (S := Unit) (L := Unit) (R := Int) ((onlyE 4 (mx_packed v_columns_here v_marks)).bindX fun o_ => .bndO o_ (fun (_ : Unit) => .ret (.nx ())) (fun (v_table : List Row) => .ret (.rt (0 : Int)))) (fun er => onErr 4 er fun v_e_weight => if (false || ((!true) || (!true))) = true then (.ret (0 : Int)) else (.ret v_e_weight))) (fun (_ : Unit) => .ret (0 : Int))
def m_law (v_script : List Int) : Cmp Bool :=
  .req (((m_law_pool v_script (0 : Int) (10 : Int)).ok)) (.bnd ((m_law_pool v_script (0 : Int) (10 : Int)).val : List Int) fun v_pool_here => .req (((m_law_frame v_pool_here (9 : Int)).ok)) (.bnd ((m_law_frame v_pool_here (9 : Int)).val) fun ((v_letters, v_marks, v_base) : Str × (List (Str × Int)) × Int) => .req (((m_law_ordered v_marks).ok)) (.bnd ((m_law_ordered v_marks).val : List (Str × Int)) fun v_marks => .bnd (v_marks : List (Str × Int)) fun v_given => .req (((m_law_columns v_letters).ok) ∧ ((m_law_told ((m_law_columns v_letters).val) v_given).ok)) (.bnd ((m_law_told ((m_law_columns v_letters).val) v_given).val : List (List Row)) fun v_tables => .req ((∀ (hb6 : (decide ((v_tables.length : Int) = (0 : Int))) = false), ∀ y7 ∈ v_given, (PyData.strOk y7.1 = true) ∧ True) ∧ (∀ (hb6 : (decide ((v_tables.length : Int) = (0 : Int))) = false), ∀ y7 ∈ v_marks, (PyData.strOk y7.1 = true) ∧ True)) (if ((decide ((v_tables.length : Int) = (0 : Int))) || ((!decide ((v_given : List (Str × Int)) = v_marks)) || (!decide (((m_law_told ((m_law_columns v_letters).val) v_given).val : List (List Row)) = v_tables)))) = true then (.ret false) else (.req (((m_law_told (Str.ofString "") []).ok)) (if (!decide (((m_law_told (Str.ofString "") []).val : List (List Row)) = [[((0 : Int), (0 : Int), (0 : Int))]])) = true then (.ret false) else (.req ((0 ≤ (1 : Int) ∧ (1 : Int) < (v_pool_here.length : Int)) ∧ ((m_law_told (cS (ixS (Str.ofString "abc") ((ixL v_pool_here (1 : Int)) % (3 : Int)))) []).ok)) (if (!decide ((((m_law_told (cS (ixS (Str.ofString "abc") ((ixL v_pool_here (1 : Int)) % (3 : Int)))) []).val).length : Int) = (3 : Int))) = true then (.ret false) else (.req ((0 ≤ (9 : Int) ∧ (9 : Int) < (v_pool_here.length : Int)) ∧ (0 ≤ (8 : Int) ∧ (8 : Int) < (v_pool_here.length : Int)) ∧ ((m_law_heavy (ixL v_pool_here (9 : Int)) (ixL v_pool_here (8 : Int))).ok)) (.bnd ((m_law_heavy (ixL v_pool_here (9 : Int)) (ixL v_pool_here (8 : Int))).val) fun ((v_columns_here, v_heavy_here) : Str × (List (Str × Int))) => .req (((m_law_ordered v_heavy_here).ok) ∧ ((m_law_refused v_columns_here ((m_law_ordered v_heavy_here).val)).ok)) (.bnd ((m_law_refused v_columns_here ((m_law_ordered v_heavy_here).val)).val : Int) fun v_weight => .req ((∀ (hb22 : true = true), ∀ (hb23 : (!false) = true), v_columns_here.length ≤ sizeLine)) (.ret (true && ((!false) && (decide (v_weight = ((v_columns_here.length : Int) + (v_heavy_here.length : Int)))))))))))))))))))
end DL

set_option Elab.async false
set_option linter.all false
set_option maxRecDepth 100000
set_option maxHeartbeats 4000000
namespace DL
open PySem PySem.Spec PyProof.Rows L2 TL
def top (i : Nat) : Stmt := PySem.Challenge.pw_unbettered_k10_packed_tables.main.body.getD i (.Pass ⟨0, 0, 0, 0⟩)
section
variable {P : Program} {w : World} {K : PySem.W.Frag} {mg : Str → Option Value} {base : Heap} {ad : Ads}
def ax_check_weight (ad : Ads) (L : Om) (ds : List D) (out : Out) : Prop := ∃ (v_columns : Str) (d_marks : D) (v_marks : List (Str × Int)), ds = [D.str v_columns, d_marks] ∧ Vs L d_marks (v_marks.map (dP2 D.str D.int)) ∧ (mx_check_weight v_columns v_marks).ok ∧ out = outX (ceT ad) dUnit (mx_check_weight v_columns v_marks).val
def ar_check_weight (ad : Ads) (L : Om) (ds : List D) (d : D) : Prop := ∃ (v_columns : Str) (d_marks : D) (v_marks : List (Str × Int)), ds = [D.str v_columns, d_marks] ∧ Vs L d_marks (v_marks.map (dP2 D.str D.int)) ∧ (m_check_weight v_columns v_marks).ok ∧ d = dUnit ((m_check_weight v_columns v_marks).val)
abbrev s_check_weight : Stmt := top 7
abbrev N_check_weight : List Str := ["columns", "marks", "weight"]
theorem sc_check_weight : FnScope N_check_weight ["columns", "marks"] (defScope s_check_weight) := ⟨rfl, rfl, rfl, by decide +kernel, rfl, by decide +kernel, by decide +kernel⟩
theorem okx_check_weight {f : Addr} {fd : FuncData} (F : Fun K "check_weight" "check_weight" s_check_weight f fd) (b_len : mg "len" = none) (g_HEAVIEST : ∃ t, mg "HEAVIEST" = some (.int 4 t)) (e_TooHeavy : PySem.ErX.ErrT P K mg ad.CTooHeavy ad.f_TooHeavy___init__ "weight") (g_TooHeavy : mg "TooHeavy" = some (.ref ad.CTooHeavy)) : FnOk P w K mg base (L2.CX P w) (1) f fd ["columns", "marks"] (spX K (ax_check_weight ad)) := by
  refine fn_pureX F sc_check_weight (fun L ds out h => ?_) (fun cdv A outer s H E B ds out hr tk po_ h => ?_)
  · obtain ⟨v_columns, d_marks, v_marks, rfl, _⟩ := h; rfl
  · obtain ⟨v_columns, d_marks, v_marks, rfl, w_marks, hok, rfl⟩ := h
    have nd := sc_check_weight.nd
    refine j_outXN ((show JC _ B (defBody s_check_weight) [some (D.str v_columns), some (d_marks), none] [] (aCN dUnit (ceT ad)) (mx_check_weight v_columns v_marks) from ?_) hok)
    unfold mx_check_weight
    refine jc_req fun h2 => ?_
    refine jc_set (E := D.int) (v := (((v_columns.length : Int) + (v_marks.length : Int)) : Int)) 2 nd (ev_op op_add rd_I0 (ev_callB call_len_str (rc_lenS h2) rfl b_len PySem.boot_len (ea_cons (nm 0 rfl) ea_nil)) (ev_conv (ev_callB call_len_seq (rc_len (Vw.vq (Vs.vw (vsL w_marks)))) (by rfl) b_len PySem.boot_len (ea_cons (nm 1 rfl) ea_nil)) (by rw [List.length_map]))) (fun v_weight => ?_)
    show JC _ _ _ [some (D.str v_columns), some (d_marks), some (D.int v_weight)] _ _ _
    refine jc_one (jc1_ite (et_cmp op_gt rd_B0 (nm 2 rfl) (ev_globI rfl g_HEAVIEST) (nomark _)) (fun hc3 => ?_) (fun hc3 => ?_))
    · exact jc_raise (ce := ceT ad) (er := 4) (m := .non) rfl e_TooHeavy g_TooHeavy hr tk rfl (nm 2 rfl) (And.intro rfl (And.intro rfl rfl))
    · exact jc_nil (.refl _)
theorem okc_check_weight {f : Addr} {fd : FuncData} (F : FnOk P w K mg base (L2.CX P w) (1) f fd ["columns", "marks"] (spX K (ax_check_weight ad))) : FnOk P w K mg base CX0 (1) f fd ["columns", "marks"] (spP K (ar_check_weight ad)) := fn_calmP F fun L ds d h => by
  obtain ⟨v_columns, d_marks, v_marks, rfl, w_marks, hok, rfl⟩ := h
  obtain ⟨h1, h2⟩ := calm_ok hok
  exact ⟨v_columns, d_marks, v_marks, rfl, w_marks, h1, by rw [h2]; rfl⟩
def ar_values_near (ad : Ads) (L : Om) (ds : List D) (es : List D) : Prop := ∃ (v_letter : Str) (v_columns : Str) (d_marks : D) (v_marks : List (Str × Int)) (v_many : Int), ds = [D.str v_letter, D.str v_columns, d_marks, D.int v_many] ∧ Vs L d_marks (v_marks.map (dP2 D.str D.int)) ∧ (m_values_near v_letter v_columns v_marks v_many).ok ∧ es = (m_values_near v_letter v_columns v_marks v_many).val.map D.int
abbrev s_values_near : Stmt := top 8
abbrev N_values_near : List Str := ["letter", "columns", "marks", "many", "constants", "column", "constant", "values", "step", "value"]
theorem sc_values_near : FnScope N_values_near ["letter", "columns", "marks", "many"] (defScope s_values_near) := ⟨rfl, rfl, rfl, by decide +kernel, rfl, by decide +kernel, by decide +kernel⟩
theorem ok_values_near {f : Addr} {fd : FuncData} (F : Fun K "values_near" "values_near" s_values_near f fd) (b_list : mg "list" = none) (b_range : mg "range" = none) (b_int : mg "int" = none) (b_sorted : mg "sorted" = none) : FnOk P w K mg base CX0 (1) f fd ["letter", "columns", "marks", "many"] (spN K (ar_values_near ad)) := by
  refine fn_newV F sc_values_near (fun L ds d h => ?_) (fun cdv A outer s H E B ds d hr h => ?_)
  · obtain ⟨v_letter, v_columns, d_marks, v_marks, v_many, rfl, _⟩ := h; rfl
  · obtain ⟨v_letter, v_columns, d_marks, v_marks, v_many, rfl, w_marks, hok, rfl⟩ := h
    have nd := sc_values_near.nd
    refine (show JC _ B (defBody s_values_near) [some (D.str v_letter), some (D.str v_columns), some (d_marks), some (D.int v_many), none, none, none, none, none, none] [] (aR (rtN D.int)) (m_values_near v_letter v_columns v_marks v_many) from ?_) hok
    unfold m_values_near
    refine jc_ifr (et_cmp op_notIn_str rd_notinStr (nm 0 rfl) (nm 1 rfl) (by rfl)) (fun hc1 => ?_) (fun hc1 => ?_)
    · exact jc_retEN (E := D.int) (v := ([(0 : Int)] : List Int)) (en_lst (ea_cons ev_int ea_nil) (by show 1 ≤ sizeLine; decide)) (fun q => ⟨q, rfl, rfl⟩)
    · refine jc_req fun h5 => ?_
      refine jc_set (E := dL D.int) (v := (((v_marks.filter (fun (x2 : (Str × Int)) => (decide (x2.1 = v_letter)))).map (fun (x2 : (Str × Int)) => x2.2)) : List Int)) 4 nd (ev_new (en_lcT  (g := (gTup K 2 (gCons (gName 5) (gCons (gName 6) gNil)))) (F := D.int) (pr := fun (x2 : (Str × Int)) => (decide (x2.1 = v_letter))) (el := fun (x2 : (Str × Int)) => x2.2) [("column", 5), ("constant", 6)] rfl nd (ei_list (nm 2 rfl) (Vs.vw (vsL w_marks))) (Vs.vw (vsL w_marks)) (blkOk_by (by rfl)) (by rintro _ ⟨s, H, C, cl, fp, rfl⟩; exact (eb_tup rfl (ebs_cons (bnm 5 nd) (ebs_cons (bnm 6 nd) ebs_nil)) (bcons_len (bcons_len bnil_len)))) (by decide) (fun x2 hx3 => ⟨_, rfl, fun X' B' eL hX' => by obtain ⟨s, H, C, cl, fp, rfl⟩ := hX'; exact (ets_one (et_cmp op_eq rd_eqS (nm 5 rfl) (nm 0 rfl) (nomark _))), fun hp4 X' B' eL hX' => by obtain ⟨s, H, C, cl, fp, rfl⟩ := hX'; exact (nm 6 rfl)⟩) h5)) (fun v_constants => ?_)
      show JC _ _ _ [some (D.str v_letter), some (D.str v_columns), some (d_marks), some (D.int v_many), some (dL D.int v_constants), none, none, none, none, none] _ _ _
      refine jc_ifr (et_not (et_lstT (E := D.int) (xs := v_constants) (nm 4 rfl) (Vs.vw vsI))) (fun hc6 => ?_) (fun hc6 => ?_)
      · refine jc_req fun h7 => ?_
        exact jc_retEN (E := D.int) (v := ((rangeL 0 v_many) : List Int)) (en_range1 rfl rfl b_list rfl b_range (nm 3 rfl) h7) (fun q => ⟨q, rfl, rfl⟩)
      · refine jc_req fun ⟨h8, h11, h12⟩ => ?_
        refine jc_setLcN (F := D.int) (pr := fun _ => true) (el := fun (x9 : Int) => ((ixL v_constants (0 : Int)) - x9)) [("step", 8)] rfl nd (ei_rng2 (by rfl) b_range (ea_cons ev_int (ea_cons (ev_op op_add rd_I0 (nm 3 rfl) ev_int) ea_nil)) h8) trivial (blkOk_by (by rfl)) (by rintro _ ⟨s, H, C, cl, fp, rfl⟩; exact (bnm 8 nd)) (by decide) (fun x9 hx10 => ⟨_, rfl, fun X' B' eL hX' => by obtain ⟨s, H, C, cl, fp, rfl⟩ := hX'; exact ets_nil, fun _ X' B' eL hX' => by obtain ⟨s, H, C, cl, fp, rfl⟩ := hX'; exact (ev_op op_sub rd_I0 (ev_ixL (nm 4 rfl) ev_int (Vs.vw vsI) (atG (E := D.int) (h11 x9 hx10))) (nm 8 rfl))⟩) h12 7 rfl rfl rfl (fun q13 v_values _ => ?_)
        show JC _ _ _ [some (D.str v_letter), some (D.str v_columns), some (d_marks), some (D.int v_many), some (dL D.int v_constants), none, none, some (.rf q13), none, none] _ _ _
        refine jc_seqN (st1 := (fun (v_values : (List Int)) (ρ : List (Option D)) (O : Om) => ρ = [some (D.str v_letter), some (D.str v_columns), some (d_marks), some (D.int v_many), some (dL D.int v_constants), none, none, some (.rf q13), none, none] ∧ O = [(q13, M.lst (v_values.map D.int))])) (jc1_for (E := D.int) PassesOwn.never rfl (ei_list (nm 4 rfl) (Vs.vw vsI)) (bnm 6 nd) (fun v_values _ _ hst => by obtain ⟨rfl, rfl⟩ := hst; exact (Vs.vw vsI)) ⟨_, (wk_some rfl (wk_some rfl (wk_some rfl (wk_some rfl (wk_some rfl (wk_nn (wk_nn (wk_some rfl (wk_nn (wk_nn wk_nil)))))))))), rfl, rfl⟩ (fun v_constant v_values _ _ hst => ?_)) (fun v_values _ _ hst => ?_)
        · obtain ⟨rfl, rfl⟩ := hst
          refine ⟨_, rfl, ?_⟩
          show JC _ _ _ [some (D.str v_letter), some (D.str v_columns), some (d_marks), some (D.int v_many), some (dL D.int v_constants), none, some (D.int v_constant), some (.rf q13), none, none] _ _ _
          refine jc_req fun h14 => ?_
          refine jc_seqN (st1 := (fun (v_values : (List Int)) (ρ : List (Option D)) (O : Om) => ρ = [some (D.str v_letter), some (D.str v_columns), some (d_marks), some (D.int v_many), some (dL D.int v_constants), none, some (D.int v_constant), some (.rf q13), none, none] ∧ O = [(q13, M.lst (v_values.map D.int))])) (jc1_for (E := D.int) PassesOwn.never rfl (ei_rng1 (by rfl) b_range (ea_cons (ev_op op_add rd_I0 (nm 3 rfl) ev_int) ea_nil) h14) (bnm 8 nd) (fun v_values _ _ hst => by obtain ⟨rfl, rfl⟩ := hst; exact trivial) ⟨_, (wk_some rfl (wk_some rfl (wk_some rfl (wk_some rfl (wk_some rfl (wk_nn (wk_some rfl (wk_some rfl (wk_nn (wk_nn wk_nil)))))))))), rfl, rfl⟩ (fun v_step v_values _ _ hst => ?_)) (fun v_values _ _ hst => ?_)
          · obtain ⟨rfl, rfl⟩ := hst
            refine ⟨_, rfl, ?_⟩
            show JC _ _ _ [some (D.str v_letter), some (D.str v_columns), some (d_marks), some (D.int v_many), some (dL D.int v_constants), none, some (D.int v_constant), some (.rf q13), some (D.int v_step), none] _ _ _
            refine jc_one (jc1_ite (et_cmp op_notIn_seq (rd_notinI (Vw.vq (Vs.vw (vsM (.head _))))) (ev_op op_add rd_I0 (nm 6 rfl) (nm 8 rfl)) (nm 7 rfl) (by rfl)) (fun hc15 => ?_) (fun hc15 => ?_))
            · refine jc_req fun h16 => ?_
              refine jc_append (E := D.int) (v := (v_constant + v_step)) (nm 7 rfl) (.head _) (ev_op op_add rd_I0 (nm 6 rfl) (nm 8 rfl)) (fun _ => .head) h16 (fun v_values => ?_)
              exact jc_nil ⟨_, (wk_some rfl (wk_some rfl (wk_some rfl (wk_some rfl (wk_some rfl (wk_nn (wk_some rfl (wk_some rfl (wk_none (wk_nn wk_nil)))))))))), rfl, rfl⟩
            · exact jc_nil ⟨_, (wk_some rfl (wk_some rfl (wk_some rfl (wk_some rfl (wk_some rfl (wk_nn (wk_some rfl (wk_some rfl (wk_none (wk_nn wk_nil)))))))))), rfl, rfl⟩
          obtain ⟨rfl, rfl⟩ := hst
          show JC _ _ _ [some (D.str v_letter), some (D.str v_columns), some (d_marks), some (D.int v_many), some (dL D.int v_constants), none, some (D.int v_constant), some (.rf q13), none, none] _ _ _
          exact jc_nil ⟨_, (wk_some rfl (wk_some rfl (wk_some rfl (wk_some rfl (wk_some rfl (wk_nn (wk_none (wk_some rfl (wk_nn (wk_nn wk_nil)))))))))), rfl, rfl⟩
        obtain ⟨rfl, rfl⟩ := hst
        show JC _ _ _ [some (D.str v_letter), some (D.str v_columns), some (d_marks), some (D.int v_many), some (dL D.int v_constants), none, none, some (.rf q13), none, none] _ _ _
        refine jc_frz 7 (.head) rfl ?_
        show JC _ _ _ [some (D.str v_letter), some (D.str v_columns), some (d_marks), some (D.int v_many), some (dL D.int v_constants), none, none, some (dL D.int v_values), none, none] _ _ _
        refine jc_req fun h19 => ?_
        exact jc_retEN (E := D.int) (v := ((sortI ((v_values.filter (fun _ => true)).map (fun (x17 : Int) => x17))) : List Int)) (en_callB cr_sortedI (rcn_sorted (Vs.vw vsI)) rfl b_sorted (by decide +kernel) (ea_cons (ev_new (en_lcT (F := D.int) (pr := fun _ => true) (el := fun (x17 : Int) => x17) [("value", 9)] rfl nd (ei_list (nm 7 rfl) (Vs.vw vsI)) (Vs.vw vsI) (blkOk_by (by rfl)) (by rintro _ ⟨s, H, C, cl, fp, rfl⟩; exact (bnm 9 nd)) (by decide) (fun x17 hx18 => ⟨_, rfl, fun X' B' eL hX' => by obtain ⟨s, H, C, cl, fp, rfl⟩ := hX'; exact ets_nil, fun _ X' B' eL hX' => by obtain ⟨s, H, C, cl, fp, rfl⟩ := hX'; exact (ev_callTy call_int1 rc_int (by rfl) b_int (by decide +kernel) (ea_cons (nm 9 rfl) ea_nil))⟩) h19)) ea_nil)) (fun q => ⟨q, rfl, rfl⟩)
def ar_candidate_rows (ad : Ads) (L : Om) (ds : List D) (es : List D) : Prop := ∃ (v_columns : Str) (d_marks : D) (v_marks : List (Str × Int)) (v_many : Int), ds = [D.str v_columns, d_marks, D.int v_many] ∧ Vs L d_marks (v_marks.map (dP2 D.str D.int)) ∧ (m_candidate_rows v_columns v_marks v_many).ok ∧ es = (m_candidate_rows v_columns v_marks v_many).val.map dRow
abbrev s_candidate_rows : Stmt := top 9
abbrev N_candidate_rows : List Str := ["columns", "marks", "many", "first", "second", "third", "letter", "one", "two", "three"]
theorem sc_candidate_rows : FnScope N_candidate_rows ["columns", "marks", "many"] (defScope s_candidate_rows) := ⟨rfl, rfl, rfl, by decide +kernel, rfl, by decide +kernel, by decide +kernel⟩
theorem ok_candidate_rows {f : Addr} {fd : FuncData} (F : Fun K "candidate_rows" "candidate_rows" s_candidate_rows f fd) (g_COLUMNS : ∃ t, mg "COLUMNS" = some (.str "abc" t)) (c_values_near : Cal P w K mg base CX0 1 "values_near" (spN K (ar_values_near ad))) : FnOk P w K mg base CX0 (2) f fd ["columns", "marks", "many"] (spN K (ar_candidate_rows ad)) := by
  refine fn_newV F sc_candidate_rows (fun L ds d h => ?_) (fun cdv A outer s H E B ds d hr h => ?_)
  · obtain ⟨v_columns, d_marks, v_marks, v_many, rfl, _⟩ := h; rfl
  · obtain ⟨v_columns, d_marks, v_marks, v_many, rfl, w_marks, hok, rfl⟩ := h
    have nd := sc_candidate_rows.nd
    refine (show JC _ B (defBody s_candidate_rows) [some (D.str v_columns), some (d_marks), some (D.int v_many), none, none, none, none, none, none, none] [] (aR (rtN dRow)) (m_candidate_rows v_columns v_marks v_many) from ?_) hok
    unfold m_candidate_rows
    refine jc_req fun ⟨h3, h4⟩ => ?_
    refine jc_asg (E := dL3 (dL D.int)) (ev_lst3 (F := dL D.int) (ev_new (en_lcT (F := dL D.int) (pr := fun _ => true) (el := fun (x1 : Nat) => (m_values_near (cS x1) v_columns v_marks v_many).val) [("letter", 6)] rfl nd (ei_chars (ev_globS rfl g_COLUMNS)) trivial (blkOk_by (by rfl)) (by rintro _ ⟨s, H, C, cl, fp, rfl⟩; exact (bnm 6 nd)) (by decide) (fun x1 hx2 => ⟨_, rfl, fun X' B' eL hX' => by obtain ⟨s, H, C, cl, fp, rfl⟩ := hX'; exact ets_nil, fun _ X' B' eL hX' => by obtain ⟨s, H, C, cl, fp, rfl⟩ := hX'; exact (ev_new (en_call c_values_near (hr.mono (by first | decide | omega)) (by rfl) (ea_cons (nm 6 rfl) (ea_cons (nm 0 rfl) (ea_cons (nm 1 rfl) (ea_cons (nm 2 rfl) ea_nil)))) (by exact ⟨(cS x1), v_columns, _, v_marks, v_many, rfl, (vsL (by rw [eL]; exact w_marks)), (h3 x1 hx2), rfl⟩)))⟩) (by first | decide | (show 3 < sizeLine; decide)))) h4) (eb_lst rfl (ebs_cons (bnm 3 nd) (ebs_cons (bnm 4 nd) (ebs_cons (bnm 5 nd) ebs_nil))) (bcons_len (bcons_len (bcons_len bnil_len)))) (fun ⟨v_first, v_second, v_third⟩ => ⟨_, rfl, ?_⟩)
    show JC _ _ _ [some (D.str v_columns), some (d_marks), some (D.int v_many), some (dL D.int v_first), some (dL D.int v_second), some (dL D.int v_third), none, none, none, none] _ _ _
    refine jc_req fun h11 => ?_
    exact jc_retEN (E := dRow) (v := (((v_first.filter (fun _ => true)).flatMap (fun (x5 : Int) => ((v_second.filter (fun _ => true)).flatMap (fun (x7 : Int) => ((v_third.filter (fun _ => true)).map (fun (x9 : Int) => (x5, x7, x9))))))) : List Row)) (en_lcr (lcn3T (h := D.int) (pr := fun (x5 : Int) => true) (ys := fun (x5 : Int) => v_second) (h2 := fun _ => D.int) (pr2 := fun (x5 : Int) (x7 : Int) => true) (zs := fun (x5 : Int) (x7 : Int) => v_third) (h3 := fun _ _ => D.int) (pr3 := fun (x5 : Int) (x7 : Int) (x9 : Int) => true) (el := fun (x5 : Int) (x7 : Int) (x9 : Int) => (x5, x7, x9)) (F := dRow) [("one", 7), ("two", 8), ("three", 9)] [("two", 8), ("three", 9)] [("three", 9)] rfl nd (ei_list (nm 3 rfl) (Vs.vw vsI)) (Vs.vw vsI) (blkOk_by (by rfl)) (by rintro _ ⟨s, H, C, cl, fp, rfl⟩; exact (bnm 7 nd)) (by decide) (by rintro _ ⟨s, H, C, cl, fp, rfl⟩; exact (bnm 8 nd)) (by decide) (by rintro _ ⟨s, H, C, cl, fp, rfl⟩; exact (bnm 9 nd)) (by decide) (by decide) (by decide) (fun x5 hx6 => ⟨_, rfl, fun X' B' eL hX' => by obtain ⟨s, H, C, cl, fp, rfl⟩ := hX'; exact ets_nil, fun _ => ⟨fun X' B' eL hX' => by obtain ⟨s, H, C, cl, fp, rfl⟩ := hX'; exact ⟨_, _, (ei_list (nm 4 rfl) (Vs.vw vsI)), (Vs.vw vsI)⟩, fun x7 hx8 => ⟨_, rfl, fun X' B' eL hX' => by obtain ⟨s, H, C, cl, fp, rfl⟩ := hX'; exact ets_nil, fun _ => ⟨fun X' B' eL hX' => by obtain ⟨s, H, C, cl, fp, rfl⟩ := hX'; exact ⟨_, _, (ei_list (nm 5 rfl) (Vs.vw vsI)), (Vs.vw vsI)⟩, fun x9 hx10 => ⟨_, rfl, fun X' B' eL hX' => by obtain ⟨s, H, C, cl, fp, rfl⟩ := hX'; exact ets_nil, fun _ => fun X' B' eL hX' => by obtain ⟨s, H, C, cl, fp, rfl⟩ := hX'; exact (ev_tup (ea_cons (nm 7 rfl) (ea_cons (nm 8 rfl) (ea_cons (nm 9 rfl) ea_nil))) (by show 3 ≤ sizeLine; decide))⟩⟩⟩⟩⟩) h11)) (fun q => ⟨q, rfl, rfl⟩)
def ar_is_packed (ad : Ads) (L : Om) (ds : List D) (d : D) : Prop := ∃ (v_values : List Int) (d_constants : D) (v_constants : List Int), ds = [dU D.int v_values, d_constants] ∧ Vs L d_constants (v_constants.map D.int) ∧ (m_is_packed v_values v_constants).ok ∧ d = D.bl ((m_is_packed v_values v_constants).val)
abbrev s_is_packed : Stmt := top 10
abbrev N_is_packed : List Str := ["values", "constants", "value", "supported"]
theorem sc_is_packed : FnScope N_is_packed ["values", "constants"] (defScope s_is_packed) := ⟨rfl, rfl, rfl, by decide +kernel, rfl, by decide +kernel, by decide +kernel⟩
theorem ok_is_packed {f : Addr} {fd : FuncData} (F : Fun K "is_packed" "is_packed" s_is_packed f fd)  : FnOk P w K mg base CX0 (1) f fd ["values", "constants"] (spP K (ar_is_packed ad)) := by
  refine fn_pureV F sc_is_packed (fun L ds d h => ?_) (fun cdv A outer s H E B ds d hr h => ?_)
  · obtain ⟨v_values, d_constants, v_constants, rfl, _⟩ := h; rfl
  · obtain ⟨v_values, d_constants, v_constants, rfl, w_constants, hok, rfl⟩ := h
    have nd := sc_is_packed.nd
    refine (show JC _ B (defBody s_is_packed) [some (dU D.int v_values), some (d_constants), none, none] [] (aR (rtP D.bl)) (m_is_packed v_values v_constants) from ?_) hok
    unfold m_is_packed
    refine jc_seqR (st1 := (fun (_ : Unit) (ρ : List (Option D)) (O : Om) => ρ = [some (dU D.int v_values), some (d_constants), none, none] ∧ O = [])) (sl := fun (_ : Unit) _ _ => False) (ex := fun _ _ _ _ _ _ => False) (jc1_forC (E := D.int) PassesOwn.never rfl (ei_tup (nm 0 rfl)) (bnm 2 nd) (fun _ _ _ hst => by obtain ⟨rfl, rfl⟩ := hst; exact trivial) ⟨_, (wk_some rfl (wk_some rfl (wk_nn (wk_nn wk_nil)))), rfl, rfl⟩ (fun v_value _ _ _ hst => ?_)) (fun _ _ _ hst => ?_)
    · obtain ⟨rfl, rfl⟩ := hst
      refine ⟨_, rfl, ?_⟩
      show JC _ _ _ [some (dU D.int v_values), some (d_constants), some (D.int v_value), none] _ _ _
      refine jc_ifr (et_cmp op_in_seq (rd_inI (Vw.vq (Vs.vw (vsL w_constants)))) (nm 2 rfl) (nm 1 rfl) (by rfl)) (fun hc1 => ?_) (fun hc1 => ?_)
      · exact jc_continue ⟨_, (wk_some rfl (wk_some rfl (wk_none (wk_nn wk_nil)))), rfl, rfl⟩
      · refine jc_seqN (st1 := (fun (v_supported : Bool) (ρ : List (Option D)) (O : Om) => ρ = [some (dU D.int v_values), some (d_constants), some (D.int v_value), some (D.bl v_supported)] ∧ O = [])) (jc1_ite (et_not (et_lstT (E := D.int) (xs := v_constants) (nm 1 rfl) (Vs.vw (vsL w_constants)))) (fun hc2 => ?_) (fun hc2 => ?_)) (fun v_supported _ _ hst => ?_)
        · refine jc_set (E := D.bl) (v := (((decide (v_value = (0 : Int))) || (decide ((v_value - (1 : Int)) ∈ v_values))) : Bool)) 3 nd (ev_or (ev_cmp op_eq rd_eqI (nm 2 rfl) ev_int (nomark _)) (fun hb3 => (ev_one (ev_cmp op_in_seq (rd_inI (.inr rfl)) (ev_op op_sub rd_I0 (nm 2 rfl) ev_int) (nm 0 rfl) (by rfl))))) (fun v_supported => ?_)
          show JC _ _ _ [some (dU D.int v_values), some (d_constants), some (D.int v_value), some (D.bl v_supported)] _ _ _
          exact jc_nil ⟨_, (wk_some rfl (wk_some rfl (wk_some rfl (wk_some rfl wk_nil)))), rfl, rfl⟩
        · refine jc_req fun h4 => ?_
          refine jc_one (jc1_ite (et_cmp op_lt rd_B0 (nm 2 rfl) (ev_ixL (nm 1 rfl) ev_int (Vs.vw (vsL w_constants)) (atG (E := D.int) h4)) (nomark _)) (fun hc5 => ?_) (fun hc5 => ?_))
          · refine jc_set (E := D.bl) (v := (((decide ((v_value + (1 : Int)) ∈ v_values)) || (decide ((v_value + (1 : Int)) ∈ v_constants))) : Bool)) 3 nd (ev_or (ev_cmp op_in_seq (rd_inI (.inr rfl)) (ev_op op_add rd_I0 (nm 2 rfl) ev_int) (nm 0 rfl) (by rfl)) (fun hb6 => (ev_one (ev_cmp op_in_seq (rd_inI (Vw.vq (Vs.vw (vsL w_constants)))) (ev_op op_add rd_I0 (nm 2 rfl) ev_int) (nm 1 rfl) (by rfl))))) (fun v_supported => ?_)
            show JC _ _ _ [some (dU D.int v_values), some (d_constants), some (D.int v_value), some (D.bl v_supported)] _ _ _
            exact jc_nil ⟨_, (wk_some rfl (wk_some rfl (wk_some rfl (wk_some rfl wk_nil)))), rfl, rfl⟩
          · refine jc_set (E := D.bl) (v := (((decide ((v_value - (1 : Int)) ∈ v_values)) || (decide ((v_value - (1 : Int)) ∈ v_constants))) : Bool)) 3 nd (ev_or (ev_cmp op_in_seq (rd_inI (.inr rfl)) (ev_op op_sub rd_I0 (nm 2 rfl) ev_int) (nm 0 rfl) (by rfl)) (fun hb7 => (ev_one (ev_cmp op_in_seq (rd_inI (Vw.vq (Vs.vw (vsL w_constants)))) (ev_op op_sub rd_I0 (nm 2 rfl) ev_int) (nm 1 rfl) (by rfl))))) (fun v_supported => ?_)
            show JC _ _ _ [some (dU D.int v_values), some (d_constants), some (D.int v_value), some (D.bl v_supported)] _ _ _
            exact jc_nil ⟨_, (wk_some rfl (wk_some rfl (wk_some rfl (wk_some rfl wk_nil)))), rfl, rfl⟩
        obtain ⟨rfl, rfl⟩ := hst
        show JC _ _ _ [some (dU D.int v_values), some (d_constants), some (D.int v_value), some (D.bl v_supported)] _ _ _
        refine jc_one (jc1_ite (et_not (et_of (nm 3 rfl))) (fun hc8 => ?_) (fun hc8 => ?_))
        · exact jc_ret (d := D.bl (false : Bool)) ev_bl (.refl _)
        · exact jc_nil ⟨_, (wk_some rfl (wk_some rfl (wk_none (wk_none wk_nil)))), rfl, rfl⟩
    obtain ⟨rfl, rfl⟩ := hst
    show JC _ _ _ [some (dU D.int v_values), some (d_constants), none, none] _ _ _
    exact jc_ret (d := D.bl (true : Bool)) ev_bl (.refl _)
def ar_column_shapes (ad : Ads) (L : Om) (ds : List D) (d : D) : Prop := ∃ (v_letter : Str) (v_columns : Str) (d_marks : D) (v_marks : List (Str × Int)), ds = [D.str v_letter, D.str v_columns, d_marks] ∧ Vs L d_marks (v_marks.map (dP2 D.str D.int)) ∧ (m_column_shapes v_letter v_columns v_marks).ok ∧ d = dK kUI ((m_column_shapes v_letter v_columns v_marks).val)
abbrev s_column_shapes : Stmt := top 11
abbrev N_column_shapes : List Str := ["letter", "columns", "marks", "near", "constants", "column", "constant", "ones", "one", "twos", "two", "threes", "three", "values"]
theorem sc_column_shapes : FnScope N_column_shapes ["letter", "columns", "marks"] (defScope s_column_shapes) := ⟨rfl, rfl, rfl, by decide +kernel, rfl, by decide +kernel, by decide +kernel⟩
theorem ok_column_shapes {f : Addr} {fd : FuncData} (F : Fun K "column_shapes" "column_shapes" s_column_shapes f fd) (c_values_near : Cal P w K mg base CX0 1 "values_near" (spN K (ar_values_near ad))) (c_is_packed : Cal P w K mg base CX0 1 "is_packed" (spP K (ar_is_packed ad))) : FnOk P w K mg base CX0 (2) f fd ["letter", "columns", "marks"] (spP K (ar_column_shapes ad)) := by
  refine fn_pureV F sc_column_shapes (fun L ds d h => ?_) (fun cdv A outer s H E B ds d hr h => ?_)
  · obtain ⟨v_letter, v_columns, d_marks, v_marks, rfl, _⟩ := h; rfl
  · obtain ⟨v_letter, v_columns, d_marks, v_marks, rfl, w_marks, hok, rfl⟩ := h
    have nd := sc_column_shapes.nd
    refine (show JC _ B (defBody s_column_shapes) [some (D.str v_letter), some (D.str v_columns), some (d_marks), none, none, none, none, none, none, none, none, none, none, none] [] (aR (rtP (dK kUI))) (m_column_shapes v_letter v_columns v_marks) from ?_) hok
    unfold m_column_shapes
    refine jc_req fun h1 => ?_
    refine jc_set (E := dL D.int) (v := ((m_values_near v_letter v_columns v_marks (3 : Int)).val : List Int)) 3 nd (ev_new (en_call c_values_near (hr.mono (by first | decide | omega)) (by rfl) (ea_cons (nm 0 rfl) (ea_cons (nm 1 rfl) (ea_cons (nm 2 rfl) (ea_cons ev_int ea_nil)))) (by exact ⟨v_letter, v_columns, _, v_marks, (3 : Int), rfl, (vsL w_marks), h1, rfl⟩))) (fun v_near => ?_)
    show JC _ _ _ [some (D.str v_letter), some (D.str v_columns), some (d_marks), some (dL D.int v_near), none, none, none, none, none, none, none, none, none, none] _ _ _
    refine jc_req fun h5 => ?_
    refine jc_set (E := dL D.int) (v := (((v_marks.filter (fun (x2 : (Str × Int)) => (decide (x2.1 = v_letter)))).map (fun (x2 : (Str × Int)) => x2.2)) : List Int)) 4 nd (ev_new (en_lcT  (g := (gTup K 2 (gCons (gName 5) (gCons (gName 6) gNil)))) (F := D.int) (pr := fun (x2 : (Str × Int)) => (decide (x2.1 = v_letter))) (el := fun (x2 : (Str × Int)) => x2.2) [("column", 5), ("constant", 6)] rfl nd (ei_list (nm 2 rfl) (Vs.vw (vsL w_marks))) (Vs.vw (vsL w_marks)) (blkOk_by (by rfl)) (by rintro _ ⟨s, H, C, cl, fp, rfl⟩; exact (eb_tup rfl (ebs_cons (bnm 5 nd) (ebs_cons (bnm 6 nd) ebs_nil)) (bcons_len (bcons_len bnil_len)))) (by decide) (fun x2 hx3 => ⟨_, rfl, fun X' B' eL hX' => by obtain ⟨s, H, C, cl, fp, rfl⟩ := hX'; exact (ets_one (et_cmp op_eq rd_eqS (nm 5 rfl) (nm 0 rfl) (nomark _))), fun hp4 X' B' eL hX' => by obtain ⟨s, H, C, cl, fp, rfl⟩ := hX'; exact (nm 6 rfl)⟩) h5)) (fun v_constants => ?_)
    show JC _ _ _ [some (D.str v_letter), some (D.str v_columns), some (d_marks), some (dL D.int v_near), some (dL D.int v_constants), none, none, none, none, none, none, none, none, none] _ _ _
    refine jc_req fun h8 => ?_
    refine jc_setLc (F := dU D.int) (pr := fun _ => true) (el := fun (x6 : Int) => [x6]) [("one", 8)] rfl nd (ei_list (nm 3 rfl) (Vs.vw vsI)) (Vs.vw vsI) (blkOk_by (by rfl)) (by rintro _ ⟨s, H, C, cl, fp, rfl⟩; exact (bnm 8 nd)) (by decide) (fun x6 hx7 => ⟨_, rfl, fun X' B' eL hX' => by obtain ⟨s, H, C, cl, fp, rfl⟩ := hX'; exact ets_nil, fun _ X' B' eL hX' => by obtain ⟨s, H, C, cl, fp, rfl⟩ := hX'; exact (ev_tup (ea_cons (nm 8 rfl) ea_nil) (by show 1 ≤ sizeLine; decide))⟩) h8 7 rfl rfl rfl (fun v_ones => ?_)
    show JC _ _ _ [some (D.str v_letter), some (D.str v_columns), some (d_marks), some (dL D.int v_near), some (dL D.int v_constants), none, none, some (dL (dU D.int) v_ones), none, none, none, none, none, none] _ _ _
    refine jc_req fun h13 => ?_
    refine jc_setLcr 9 (lcn2T (h := D.int) (pr := fun (x9 : Int) => true) (ys := fun (x9 : Int) => v_near) (h2 := fun _ => D.int) (pr2 := fun (x9 : Int) (x11 : Int) => true) (el := fun (x9 : Int) (x11 : Int) => [x9, x11]) (F := dU D.int) [("one", 8), ("two", 10)] [("two", 10)] rfl nd (ei_list (nm 3 rfl) (Vs.vw vsI)) (Vs.vw vsI) (blkOk_by (by rfl)) (by rintro _ ⟨s, H, C, cl, fp, rfl⟩; exact (bnm 8 nd)) (by decide) (by rintro _ ⟨s, H, C, cl, fp, rfl⟩; exact (bnm 10 nd)) (by decide) (by decide) (fun x9 hx10 => ⟨_, rfl, fun X' B' eL hX' => by obtain ⟨s, H, C, cl, fp, rfl⟩ := hX'; exact ets_nil, fun _ => ⟨fun X' B' eL hX' => by obtain ⟨s, H, C, cl, fp, rfl⟩ := hX'; exact ⟨_, _, (ei_list (nm 3 rfl) (Vs.vw vsI)), (Vs.vw vsI)⟩, fun x11 hx12 => ⟨_, rfl, fun X' B' eL hX' => by obtain ⟨s, H, C, cl, fp, rfl⟩ := hX'; exact ets_nil, fun _ => fun X' B' eL hX' => by obtain ⟨s, H, C, cl, fp, rfl⟩ := hX'; exact (ev_tup (ea_cons (nm 8 rfl) (ea_cons (nm 10 rfl) ea_nil)) (by show 2 ≤ sizeLine; decide))⟩⟩⟩) h13) nd rfl rfl rfl (fun v_twos => ?_)
    show JC _ _ _ [some (D.str v_letter), some (D.str v_columns), some (d_marks), some (dL D.int v_near), some (dL D.int v_constants), none, none, some (dL (dU D.int) v_ones), none, some (dL (dU D.int) v_twos), none, none, none, none] _ _ _
    refine jc_req fun h20 => ?_
    refine jc_setLcr 11 (lcn3T (h := D.int) (pr := fun (x14 : Int) => true) (ys := fun (x14 : Int) => v_near) (h2 := fun _ => D.int) (pr2 := fun (x14 : Int) (x16 : Int) => true) (zs := fun (x14 : Int) (x16 : Int) => v_near) (h3 := fun _ _ => D.int) (pr3 := fun (x14 : Int) (x16 : Int) (x18 : Int) => true) (el := fun (x14 : Int) (x16 : Int) (x18 : Int) => [x14, x16, x18]) (F := dU D.int) [("one", 8), ("two", 10), ("three", 12)] [("two", 10), ("three", 12)] [("three", 12)] rfl nd (ei_list (nm 3 rfl) (Vs.vw vsI)) (Vs.vw vsI) (blkOk_by (by rfl)) (by rintro _ ⟨s, H, C, cl, fp, rfl⟩; exact (bnm 8 nd)) (by decide) (by rintro _ ⟨s, H, C, cl, fp, rfl⟩; exact (bnm 10 nd)) (by decide) (by rintro _ ⟨s, H, C, cl, fp, rfl⟩; exact (bnm 12 nd)) (by decide) (by decide) (by decide) (fun x14 hx15 => ⟨_, rfl, fun X' B' eL hX' => by obtain ⟨s, H, C, cl, fp, rfl⟩ := hX'; exact ets_nil, fun _ => ⟨fun X' B' eL hX' => by obtain ⟨s, H, C, cl, fp, rfl⟩ := hX'; exact ⟨_, _, (ei_list (nm 3 rfl) (Vs.vw vsI)), (Vs.vw vsI)⟩, fun x16 hx17 => ⟨_, rfl, fun X' B' eL hX' => by obtain ⟨s, H, C, cl, fp, rfl⟩ := hX'; exact ets_nil, fun _ => ⟨fun X' B' eL hX' => by obtain ⟨s, H, C, cl, fp, rfl⟩ := hX'; exact ⟨_, _, (ei_list (nm 3 rfl) (Vs.vw vsI)), (Vs.vw vsI)⟩, fun x18 hx19 => ⟨_, rfl, fun X' B' eL hX' => by obtain ⟨s, H, C, cl, fp, rfl⟩ := hX'; exact ets_nil, fun _ => fun X' B' eL hX' => by obtain ⟨s, H, C, cl, fp, rfl⟩ := hX'; exact (ev_tup (ea_cons (nm 8 rfl) (ea_cons (nm 10 rfl) (ea_cons (nm 12 rfl) ea_nil))) (by show 3 ≤ sizeLine; decide))⟩⟩⟩⟩⟩) h20) nd rfl rfl rfl (fun v_threes => ?_)
    show JC _ _ _ [some (D.str v_letter), some (D.str v_columns), some (d_marks), some (dL D.int v_near), some (dL D.int v_constants), none, none, some (dL (dU D.int) v_ones), none, some (dL (dU D.int) v_twos), none, some (dL (dU D.int) v_threes), none, none] _ _ _
    refine jc_req fun ⟨h21, h22, h25, h27⟩ => ?_
    exact jc_ret (d := dK kUI ((onceL ((((v_ones ++ v_twos) ++ v_threes).filter (fun (x23 : (List Int)) => (m_is_packed x23 v_constants).val)).map (fun (x23 : (List Int)) => x23))) : List (List Int))) (ev_dc1T (h := dU D.int) (pr := fun (x23 : (List Int)) => (m_is_packed x23 v_constants).val) (el := fun (x23 : (List Int)) => x23) (F := dU D.int) (kf := kUI) [("values", 13)] (un65 hr) rfl nd (ei_list (ev_new (en_cat (E := dU D.int) (xs := (v_ones ++ v_twos)) (ys := v_threes) (ev_new (en_cat (E := dU D.int) (xs := v_ones) (ys := v_twos) (nm 7 rfl) (nm 9 rfl) vsI vsI h21)) (nm 11 rfl) vsI vsI h22)) (Vs.vw vsI)) (Vs.vw vsI) (blkOk_by (by rfl)) (by rintro _ ⟨s, H, C, cl, fp, rfl⟩; exact (bnm 13 nd)) (by decide) key_ui (fun x23 hx24 => ⟨_, rfl, fun X' B' eL hX' => by obtain ⟨s, H, C, cl, fp, rfl⟩ := hX'; exact (ets_one (et_of (ev_call c_is_packed (hr.mono (by first | decide | omega)) rfl (ea_cons (nm 13 rfl) (ea_cons (nm 4 rfl) ea_nil)) (by exact ⟨x23, _, v_constants, rfl, vsI, (h25 x23 hx24), rfl⟩)))), fun hp26 => ⟨fun X' B' eL hX' => by obtain ⟨s, H, C, cl, fp, rfl⟩ := hX'; exact (nm 13 rfl), fun X' B' eL hX' => by obtain ⟨s, H, C, cl, fp, rfl⟩ := hX'; exact ev_bl⟩⟩) h27) (.refl _)
def ar_small_tables (ad : Ads) (L : Om) (ds : List D) (es : List D) : Prop := ∃ (d_rows : D) (v_rows : List Row), ds = [d_rows] ∧ Vs L d_rows (v_rows.map dRow) ∧ (m_small_tables v_rows).ok ∧ es = (m_small_tables v_rows).val.map (dL dRow)
abbrev s_small_tables : Stmt := top 12
abbrev N_small_tables : List Str := ["rows", "many", "ones", "row", "twos", "at", "later", "threes", "last"]
theorem sc_small_tables : FnScope N_small_tables ["rows"] (defScope s_small_tables) := ⟨rfl, rfl, rfl, by decide +kernel, rfl, by decide +kernel, by decide +kernel⟩
theorem ok_small_tables {f : Addr} {fd : FuncData} (F : Fun K "small_tables" "small_tables" s_small_tables f fd) (b_len : mg "len" = none) (b_range : mg "range" = none) : FnOk P w K mg base CX0 (1) f fd ["rows"] (spN K (ar_small_tables ad)) := by
  refine fn_newV F sc_small_tables (fun L ds d h => ?_) (fun cdv A outer s H E B ds d hr h => ?_)
  · obtain ⟨d_rows, v_rows, rfl, _⟩ := h; rfl
  · obtain ⟨d_rows, v_rows, rfl, w_rows, hok, rfl⟩ := h
    have nd := sc_small_tables.nd
    refine (show JC _ B (defBody s_small_tables) [some (d_rows), none, none, none, none, none, none, none, none] [] (aR (rtN (dL dRow))) (m_small_tables v_rows) from ?_) hok
    unfold m_small_tables
    refine jc_set (E := D.int) (v := ((v_rows.length : Int) : Int)) 1 nd (ev_conv (ev_callB call_len_seq (rc_len (Vw.vq (Vs.vw (vsL w_rows)))) (by rfl) b_len PySem.boot_len (ea_cons (nm 0 rfl) ea_nil)) (by rw [List.length_map])) (fun v_many => ?_)
    show JC _ _ _ [some (d_rows), some (D.int v_many), none, none, none, none, none, none, none] _ _ _
    refine jc_req fun h3 => ?_
    refine jc_setLc (F := dL dRow) (pr := fun _ => true) (el := fun (x1 : Row) => [x1]) [("row", 3)] rfl nd (ei_list (nm 0 rfl) (Vs.vw (vsL w_rows))) (Vs.vw (vsL w_rows)) (blkOk_by (by rfl)) (by rintro _ ⟨s, H, C, cl, fp, rfl⟩; exact (bnm 3 nd)) (by decide) (fun x1 hx2 => ⟨_, rfl, fun X' B' eL hX' => by obtain ⟨s, H, C, cl, fp, rfl⟩ := hX'; exact ets_nil, fun _ X' B' eL hX' => by obtain ⟨s, H, C, cl, fp, rfl⟩ := hX'; exact (ev_new (en_lst (ea_cons (nm 3 rfl) ea_nil) (by show 1 ≤ sizeLine; decide)))⟩) h3 2 rfl rfl rfl (fun v_ones => ?_)
    show JC _ _ _ [some (d_rows), some (D.int v_many), some (dL (dL dRow) v_ones), none, none, none, none, none, none] _ _ _
    refine jc_req fun ⟨h4, h7, h10, h11, h12⟩ => ?_
    refine jc_setLcr 4 (lcn2T (h := D.int) (pr := fun (x5 : Int) => true) (ys := fun (x5 : Int) => (rangeL (x5 + (1 : Int)) v_many)) (h2 := fun _ => D.int) (pr2 := fun (x5 : Int) (x8 : Int) => true) (el := fun (x5 : Int) (x8 : Int) => [(ixL v_rows x5), (ixL v_rows x8)]) (F := dL dRow) [("at", 5), ("later", 6)] [("later", 6)] rfl nd (ei_rng1 (by rfl) b_range (ea_cons (nm 1 rfl) ea_nil) h4) trivial (blkOk_by (by rfl)) (by rintro _ ⟨s, H, C, cl, fp, rfl⟩; exact (bnm 5 nd)) (by decide) (by rintro _ ⟨s, H, C, cl, fp, rfl⟩; exact (bnm 6 nd)) (by decide) (by decide) (fun x5 hx6 => ⟨_, rfl, fun X' B' eL hX' => by obtain ⟨s, H, C, cl, fp, rfl⟩ := hX'; exact ets_nil, fun _ => ⟨fun X' B' eL hX' => by obtain ⟨s, H, C, cl, fp, rfl⟩ := hX'; exact ⟨_, _, (ei_rng2 (by rfl) b_range (ea_cons (ev_op op_add rd_I0 (nm 5 rfl) ev_int) (ea_cons (nm 1 rfl) ea_nil)) (h7 x5 hx6)), trivial⟩, fun x8 hx9 => ⟨_, rfl, fun X' B' eL hX' => by obtain ⟨s, H, C, cl, fp, rfl⟩ := hX'; exact ets_nil, fun _ => fun X' B' eL hX' => by obtain ⟨s, H, C, cl, fp, rfl⟩ := hX'; exact (ev_new (en_lst (ea_cons (ev_ixL (nm 0 rfl) (nm 5 rfl) (Vs.vw (vsL (by rw [eL]; exact w_rows))) (atG (E := dRow) (h10 x5 hx6 x8 hx9))) (ea_cons (ev_ixL (nm 0 rfl) (nm 6 rfl) (Vs.vw (vsL (by rw [eL]; exact w_rows))) (atG (E := dRow) (h11 x5 hx6 x8 hx9))) ea_nil)) (by show 2 ≤ sizeLine; decide)))⟩⟩⟩) h12) nd rfl rfl rfl (fun v_twos => ?_)
    show JC _ _ _ [some (d_rows), some (D.int v_many), some (dL (dL dRow) v_ones), none, some (dL (dL dRow) v_twos), none, none, none, none] _ _ _
    refine jc_req fun ⟨h15, h18, h21, h22, h23, h24⟩ => ?_
    refine jc_setLcr 7 (lcn3T (h := D.int) (pr := fun (x13 : Int) => true) (ys := fun (x13 : Int) => (rangeL (x13 + (1 : Int)) v_many)) (h2 := fun _ => D.int) (pr2 := fun (x13 : Int) (x16 : Int) => true) (zs := fun (x13 : Int) (x16 : Int) => (rangeL (x16 + (1 : Int)) v_many)) (h3 := fun _ _ => D.int) (pr3 := fun (x13 : Int) (x16 : Int) (x19 : Int) => true) (el := fun (x13 : Int) (x16 : Int) (x19 : Int) => [(ixL v_rows x13), (ixL v_rows x16), (ixL v_rows x19)]) (F := dL dRow) [("at", 5), ("later", 6), ("last", 8)] [("later", 6), ("last", 8)] [("last", 8)] rfl nd (ei_rng1 (by rfl) b_range (ea_cons (nm 1 rfl) ea_nil) h4) trivial (blkOk_by (by rfl)) (by rintro _ ⟨s, H, C, cl, fp, rfl⟩; exact (bnm 5 nd)) (by decide) (by rintro _ ⟨s, H, C, cl, fp, rfl⟩; exact (bnm 6 nd)) (by decide) (by rintro _ ⟨s, H, C, cl, fp, rfl⟩; exact (bnm 8 nd)) (by decide) (by decide) (by decide) (fun x13 hx14 => ⟨_, rfl, fun X' B' eL hX' => by obtain ⟨s, H, C, cl, fp, rfl⟩ := hX'; exact ets_nil, fun _ => ⟨fun X' B' eL hX' => by obtain ⟨s, H, C, cl, fp, rfl⟩ := hX'; exact ⟨_, _, (ei_rng2 (by rfl) b_range (ea_cons (ev_op op_add rd_I0 (nm 5 rfl) ev_int) (ea_cons (nm 1 rfl) ea_nil)) (h15 x13 hx14)), trivial⟩, fun x16 hx17 => ⟨_, rfl, fun X' B' eL hX' => by obtain ⟨s, H, C, cl, fp, rfl⟩ := hX'; exact ets_nil, fun _ => ⟨fun X' B' eL hX' => by obtain ⟨s, H, C, cl, fp, rfl⟩ := hX'; exact ⟨_, _, (ei_rng2 (by rfl) b_range (ea_cons (ev_op op_add rd_I0 (nm 6 rfl) ev_int) (ea_cons (nm 1 rfl) ea_nil)) (h18 x13 hx14 x16 hx17)), trivial⟩, fun x19 hx20 => ⟨_, rfl, fun X' B' eL hX' => by obtain ⟨s, H, C, cl, fp, rfl⟩ := hX'; exact ets_nil, fun _ => fun X' B' eL hX' => by obtain ⟨s, H, C, cl, fp, rfl⟩ := hX'; exact (ev_new (en_lst (ea_cons (ev_ixL (nm 0 rfl) (nm 5 rfl) (Vs.vw (vsL (by rw [eL]; exact w_rows))) (atG (E := dRow) (h21 x13 hx14 x16 hx17 x19 hx20))) (ea_cons (ev_ixL (nm 0 rfl) (nm 6 rfl) (Vs.vw (vsL (by rw [eL]; exact w_rows))) (atG (E := dRow) (h22 x13 hx14 x16 hx17 x19 hx20))) (ea_cons (ev_ixL (nm 0 rfl) (nm 8 rfl) (Vs.vw (vsL (by rw [eL]; exact w_rows))) (atG (E := dRow) (h23 x13 hx14 x16 hx17 x19 hx20))) ea_nil))) (by show 3 ≤ sizeLine; decide)))⟩⟩⟩⟩⟩) h24) nd rfl rfl rfl (fun v_threes => ?_)
    show JC _ _ _ [some (d_rows), some (D.int v_many), some (dL (dL dRow) v_ones), none, some (dL (dL dRow) v_twos), none, none, some (dL (dL dRow) v_threes), none] _ _ _
    refine jc_req fun ⟨h25, h26⟩ => ?_
    exact jc_retEN (E := dL dRow) (v := (((v_ones ++ v_twos) ++ v_threes) : List (List Row))) (en_cat (E := dL dRow) (xs := (v_ones ++ v_twos)) (ys := v_threes) (ev_new (en_cat (E := dL dRow) (xs := v_ones) (ys := v_twos) (nm 2 rfl) (nm 4 rfl) vsI vsI h25)) (nm 7 rfl) vsI vsI h26) (fun q => ⟨q, rfl, rfl⟩)
def ax_packed_tables (ad : Ads) (L : Om) (ds : List D) (out : Out) : Prop := ∃ (v_columns : Str) (d_marks : D) (v_marks : List (Str × Int)), ds = [D.str v_columns, d_marks] ∧ Vs L d_marks (v_marks.map (dP2 D.str D.int)) ∧ (mx_packed_tables v_columns v_marks).ok ∧ out = outX (ceT ad) (dL (dL dRow)) (mx_packed_tables v_columns v_marks).val
def ar_packed_tables (ad : Ads) (L : Om) (ds : List D) (d : D) : Prop := ∃ (v_columns : Str) (d_marks : D) (v_marks : List (Str × Int)), ds = [D.str v_columns, d_marks] ∧ Vs L d_marks (v_marks.map (dP2 D.str D.int)) ∧ (m_packed_tables v_columns v_marks).ok ∧ d = dL (dL dRow) ((m_packed_tables v_columns v_marks).val)
abbrev s_packed_tables : Stmt := top 13
abbrev N_packed_tables : List Str := ["columns", "marks", "first", "second", "third", "letter", "table", "row"]
theorem sc_packed_tables : FnScope N_packed_tables ["columns", "marks"] (defScope s_packed_tables) := ⟨rfl, rfl, rfl, by decide +kernel, rfl, by decide +kernel, by decide +kernel⟩
theorem okx_packed_tables {f : Addr} {fd : FuncData} (F : Fun K "packed_tables" "packed_tables" s_packed_tables f fd) (cx_check_weight : Cal P w K mg base (L2.CX P w) 1 "check_weight" (spX K (ax_check_weight ad))) (g_COLUMNS : ∃ t, mg "COLUMNS" = some (.str "abc" t)) (c_column_shapes : Cal P w K mg base CX0 2 "column_shapes" (spP K (ar_column_shapes ad))) (c_candidate_rows : Cal P w K mg base CX0 2 "candidate_rows" (spN K (ar_candidate_rows ad))) (c_small_tables : Cal P w K mg base CX0 1 "small_tables" (spN K (ar_small_tables ad))) (b_tuple : mg "tuple" = none) : FnOk P w K mg base (L2.CX P w) (3) f fd ["columns", "marks"] (spX K (ax_packed_tables ad)) := by
  refine fn_pureX F sc_packed_tables (fun L ds out h => ?_) (fun cdv A outer s H E B ds out hr tk po_ h => ?_)
  · obtain ⟨v_columns, d_marks, v_marks, rfl, _⟩ := h; rfl
  · obtain ⟨v_columns, d_marks, v_marks, rfl, w_marks, hok, rfl⟩ := h
    have nd := sc_packed_tables.nd
    refine j_outX ((show JC _ B (defBody s_packed_tables) [some (D.str v_columns), some (d_marks), none, none, none, none, none, none] [] (aC (S := Unit) (L := Unit) (R := (List (List Row))) (fun _ _ _ => False) (fun _ _ _ => False) (rtP (dL (dL dRow))) (exq (ceT ad))) (mx_packed_tables v_columns v_marks) from ?_) hok)
    unfold mx_packed_tables
    refine jc_exprX (ce := ceT ad) (E := dUnit) (fun v hok hm => ev_call cx_check_weight.xP (hr.mono (by first | decide | omega)) rfl (ea_cons (nm 0 rfl) (ea_cons (nm 1 rfl) ea_nil)) (by exact ⟨v_columns, _, v_marks, rfl, (vsL w_marks), hok, by rw [hm]; rfl⟩)) (fun er hok hm => er_call cx_check_weight.xR (hr.mono (by first | decide | omega)) tk rfl (ea_cons (nm 0 rfl) (ea_cons (nm 1 rfl) ea_nil)) (by exact ⟨v_columns, _, v_marks, rfl, (vsL w_marks), hok, by rw [hm]; rfl⟩)) ?_ (fun er => (And.intro rfl (And.intro rfl rfl)))
    refine jc_req fun ⟨h3, h4⟩ => ?_
    refine jc_asg (E := dL3 (dK kUI)) (ev_lst3 (F := dK kUI) (ev_new (en_lcT (F := dK kUI) (pr := fun _ => true) (el := fun (x1 : Nat) => (m_column_shapes (cS x1) v_columns v_marks).val) [("letter", 5)] rfl nd (ei_chars (ev_globS rfl g_COLUMNS)) trivial (blkOk_by (by rfl)) (by rintro _ ⟨s, H, C, cl, fp, rfl⟩; exact (bnm 5 nd)) (by decide) (fun x1 hx2 => ⟨_, rfl, fun X' B' eL hX' => by obtain ⟨s, H, C, cl, fp, rfl⟩ := hX'; exact ets_nil, fun _ X' B' eL hX' => by obtain ⟨s, H, C, cl, fp, rfl⟩ := hX'; exact (ev_call c_column_shapes (hr.mono (by first | decide | omega)) rfl (ea_cons (nm 5 rfl) (ea_cons (nm 0 rfl) (ea_cons (nm 1 rfl) ea_nil))) (by exact ⟨(cS x1), v_columns, _, v_marks, rfl, (vsL (by rw [eL]; exact w_marks)), (h3 x1 hx2), rfl⟩))⟩) (by first | decide | (show 3 < sizeLine; decide)))) h4) (eb_lst rfl (ebs_cons (bnm 2 nd) (ebs_cons (bnm 3 nd) (ebs_cons (bnm 4 nd) ebs_nil))) (bcons_len (bcons_len (bcons_len bnil_len)))) (fun ⟨v_first, v_second, v_third⟩ => ⟨_, rfl, ?_⟩)
    show JC _ _ _ [some (D.str v_columns), some (d_marks), some (dK kUI v_first), some (dK kUI v_second), some (dK kUI v_third), none, none, none] _ _ _
    refine jc_req fun ⟨h5, h6, h11, h15, h19, h21⟩ => ?_
    exact jc_ret (d := dL (dL dRow) (((((m_small_tables ((m_candidate_rows v_columns v_marks (3 : Int)).val)).val).filter (fun (x7 : (List Row)) => ((decide ((((x7.filter (fun _ => true)).map (fun (x9 : Row) => x9.1)) : List Int) ∈ v_first)) && ((decide ((((x7.filter (fun _ => true)).map (fun (x13 : Row) => x13.2.1)) : List Int) ∈ v_second)) && (decide ((((x7.filter (fun _ => true)).map (fun (x17 : Row) => x17.2.2)) : List Int) ∈ v_third)))))).map (fun (x7 : (List Row)) => x7)) : List (List Row))) (ev_new (en_lcT (F := dL dRow) (pr := fun (x7 : (List Row)) => ((decide ((((x7.filter (fun _ => true)).map (fun (x9 : Row) => x9.1)) : List Int) ∈ v_first)) && ((decide ((((x7.filter (fun _ => true)).map (fun (x13 : Row) => x13.2.1)) : List Int) ∈ v_second)) && (decide ((((x7.filter (fun _ => true)).map (fun (x17 : Row) => x17.2.2)) : List Int) ∈ v_third))))) (el := fun (x7 : (List Row)) => x7) [("table", 6)] rfl nd (ei_list (ev_new (en_call c_small_tables (hr.mono (by first | decide | omega)) (by rfl) (ea_cons (ev_new (en_call c_candidate_rows (hr.mono (by first | decide | omega)) (by rfl) (ea_cons (nm 0 rfl) (ea_cons (nm 1 rfl) (ea_cons ev_int ea_nil))) (by exact ⟨v_columns, _, v_marks, (3 : Int), rfl, (vsL w_marks), h5, rfl⟩))) ea_nil) (by exact ⟨_, (m_candidate_rows v_columns v_marks (3 : Int)).val, rfl, vsI, h6, rfl⟩))) (Vs.vw vsI)) (Vs.vw vsI) (blkOk_by (by rfl)) (by rintro _ ⟨s, H, C, cl, fp, rfl⟩; exact (bnm 6 nd)) (by decide) (fun x7 hx8 => ⟨_, rfl, fun X' B' eL hX' => by obtain ⟨s, H, C, cl, fp, rfl⟩ := hX'; exact (ets_cons (et_cmp (op_inK (un65 hr)) (rd_inKE (x := (((x7.filter (fun _ => true)).map (fun (x9 : Row) => x9.1)) : List Int)) (xs := v_first) key_ui) (ev_callTy call_tuple_of (rc_tuple (Vw.vq (Vs.vw vsI))) rfl b_tuple (by decide +kernel) (ea_cons (ev_new (en_lcT (F := D.int) (pr := fun _ => true) (el := fun (x9 : Row) => x9.1) [("row", 7)] rfl nd (ei_list (nm 6 rfl) (Vs.vw vsI)) (Vs.vw vsI) (blkOk_by (by rfl)) (by rintro _ ⟨s, H, C, cl, fp, rfl⟩; exact (bnm 7 nd)) (by decide) (fun x9 hx10 => ⟨_, rfl, fun X' B' eL hX' => by obtain ⟨s, H, C, cl, fp, rfl⟩ := hX'; exact ets_nil, fun _ X' B' eL hX' => by obtain ⟨s, H, C, cl, fp, rfl⟩ := hX'; exact (ev_ixT (nm 7 rfl) ev_int (by rfl))⟩) (h11 x7 hx8))) ea_nil)) (nm 2 rfl) (by rfl)) (fun hb12 => (ets_cons (et_cmp (op_inK (un65 hr)) (rd_inKE (x := (((x7.filter (fun _ => true)).map (fun (x13 : Row) => x13.2.1)) : List Int)) (xs := v_second) key_ui) (ev_callTy call_tuple_of (rc_tuple (Vw.vq (Vs.vw vsI))) rfl b_tuple (by decide +kernel) (ea_cons (ev_new (en_lcT (F := D.int) (pr := fun _ => true) (el := fun (x13 : Row) => x13.2.1) [("row", 7)] rfl nd (ei_list (nm 6 rfl) (Vs.vw vsI)) (Vs.vw vsI) (blkOk_by (by rfl)) (by rintro _ ⟨s, H, C, cl, fp, rfl⟩; exact (bnm 7 nd)) (by decide) (fun x13 hx14 => ⟨_, rfl, fun X' B' eL hX' => by obtain ⟨s, H, C, cl, fp, rfl⟩ := hX'; exact ets_nil, fun _ X' B' eL hX' => by obtain ⟨s, H, C, cl, fp, rfl⟩ := hX'; exact (ev_ixT (nm 7 rfl) ev_int (by rfl))⟩) (h15 x7 hx8 hb12))) ea_nil)) (nm 3 rfl) (by rfl)) (fun hb16 => (ets_one (et_cmp (op_inK (un65 hr)) (rd_inKE (x := (((x7.filter (fun _ => true)).map (fun (x17 : Row) => x17.2.2)) : List Int)) (xs := v_third) key_ui) (ev_callTy call_tuple_of (rc_tuple (Vw.vq (Vs.vw vsI))) rfl b_tuple (by decide +kernel) (ea_cons (ev_new (en_lcT (F := D.int) (pr := fun _ => true) (el := fun (x17 : Row) => x17.2.2) [("row", 7)] rfl nd (ei_list (nm 6 rfl) (Vs.vw vsI)) (Vs.vw vsI) (blkOk_by (by rfl)) (by rintro _ ⟨s, H, C, cl, fp, rfl⟩; exact (bnm 7 nd)) (by decide) (fun x17 hx18 => ⟨_, rfl, fun X' B' eL hX' => by obtain ⟨s, H, C, cl, fp, rfl⟩ := hX'; exact ets_nil, fun _ X' B' eL hX' => by obtain ⟨s, H, C, cl, fp, rfl⟩ := hX'; exact (ev_ixT (nm 7 rfl) ev_int (by rfl))⟩) (h19 x7 hx8 hb12 hb16))) ea_nil)) (nm 4 rfl) (by rfl))))))), fun hp20 X' B' eL hX' => by obtain ⟨s, H, C, cl, fp, rfl⟩ := hX'; exact (nm 6 rfl)⟩) h21)) (.refl _)
theorem okc_packed_tables {f : Addr} {fd : FuncData} (F : FnOk P w K mg base (L2.CX P w) (3) f fd ["columns", "marks"] (spX K (ax_packed_tables ad))) : FnOk P w K mg base CX0 (3) f fd ["columns", "marks"] (spP K (ar_packed_tables ad)) := fn_calmP F fun L ds d h => by
  obtain ⟨v_columns, d_marks, v_marks, rfl, w_marks, hok, rfl⟩ := h
  obtain ⟨h1, h2⟩ := calm_ok hok
  exact ⟨v_columns, d_marks, v_marks, rfl, w_marks, h1, by rw [h2]; rfl⟩
def ar_packed_a (ad : Ads) (ds es : List D) : Prop := ∃ (v_columns : Str) (d_marks : D) (v_marks : List (Str × Int)), ds = [D.str v_columns, d_marks] ∧ Vs [] d_marks (v_marks.map (dP2 D.str D.int)) ∧ (m_packed_a v_columns v_marks).ok ∧ es = (m_packed_a v_columns v_marks).val.map (dL dRow)
abbrev s_packed_a : Stmt := top 14
abbrev N_packed_a : List Str := ["columns", "marks", "table"]
theorem sc_packed_a : GScope N_packed_a ["columns", "marks"] (defScope s_packed_a) := ⟨rfl, rfl, rfl, by decide +kernel, rfl, by decide +kernel, by decide +kernel⟩
theorem ok_packed_a {f : Addr} {fd : FuncData} (F : FunG K "packed" "packed" s_packed_a f fd) (c_packed_tables : Cal P w K mg base CX0 3 "packed_tables" (spP K (ar_packed_tables ad))) : NFn P w K mg base (4) f fd ["columns", "marks"] (ar_packed_a ad) := by
  refine fn_genN F sc_packed_a (fun ds es h => ?_) (fun cdv A outer n0 pn W ok ds es hr h => ?_)
  · obtain ⟨v_columns, d_marks, v_marks, rfl, _⟩ := h; rfl
  · obtain ⟨v_columns, d_marks, v_marks, rfl, w_marks, hok, rfl⟩ := h
    have nd := sc_packed_a.nd
    refine (show NJC _ n0 W _ (defBody s_packed_a) [some (D.str v_columns), some (d_marks), none] [] (dL dRow) (m_packed_a v_columns v_marks) from ?_) hok
    unfold m_packed_a
    refine njc_req fun h1 => ?_
    refine njc_for (E' := dL dRow) 2 nd rfl (ei_list (ev_call c_packed_tables (hr.mono (by first | decide | omega)) rfl (ea_cons (nm 0 rfl) (ea_cons (nm 1 rfl) ea_nil)) (by exact ⟨v_columns, _, v_marks, rfl, (vsL w_marks), h1, rfl⟩)) (Vs.vw vsI)) (Vs.vw vsI) rfl (fun v_table W ok j N es hok => ?_)
    exact nb_yield (d := dL dRow v_table) (nm 2 rfl)
def ax_packed (ad : Ads) (L : Om) (ds : List D) (out : OutF) : Prop := ∃ (v_columns : Str) (d_marks : D) (v_marks : List (Str × Int)), ds = [D.str v_columns, d_marks] ∧ Vs L d_marks (v_marks.map (dP2 D.str D.int)) ∧ (mx_packed v_columns v_marks).ok ∧ out = outG (ceT ad) (dL dRow) (mx_packed v_columns v_marks).val
abbrev s_packed : Stmt := top 14
abbrev N_packed : List Str := ["columns", "marks", "table"]
theorem sc_packed : GScope N_packed ["columns", "marks"] (defScope s_packed) := ⟨rfl, rfl, rfl, by decide +kernel, rfl, by decide +kernel, by decide +kernel⟩
theorem ok_packed {f : Addr} {fd : FuncData} (F : FunG K "packed" "packed" s_packed f fd) (cx_packed_tables : Cal P w K mg base (L2.CX P w) 3 "packed_tables" (spX K (ax_packed_tables ad))) : FFnX P w K mg base (4) f fd ["columns", "marks"] (spFX K (ax_packed ad)) := by
  refine fn_genFXG (ce := ceT ad) (E0 := dL dRow) F sc_packed (fun L ds d h => ?_) (fun cdv A outer s H E pn B ds out hr tk h => ?_)
  · obtain ⟨v_columns, d_marks, v_marks, rfl, _⟩ := h; rfl
  · obtain ⟨v_columns, d_marks, v_marks, rfl, w_marks, hok, rfl⟩ := h
    have nd := sc_packed.nd
    refine ⟨mx_packed v_columns v_marks, hok, rfl, bindXG hok, ?_⟩
    show FJCX _ B (defBody s_packed) [some (D.str v_columns), some (d_marks), none] [] (ceT ad) (dL dRow) (mx_packed v_columns v_marks)
    unfold mx_packed
    refine fjcX_for (ce := ceT ad) (fun er hok hm => er_call cx_packed_tables.xR (hr.mono (by first | decide | omega)) tk rfl (ea_cons (nm 0 rfl) (ea_cons (nm 1 rfl) ea_nil)) (by exact ⟨v_columns, _, v_marks, rfl, (vsL w_marks), hok, by rw [hm]; rfl⟩)) (fun y_ hok_ hm_ => ?_)
    refine fjc_seqR (st1 := (fun (_ : Unit) (ρ : List (Option D)) (O : Om) => ρ = [some (D.str v_columns), some (d_marks), none] ∧ O = [])) (fjc_for (L := Unit) (E' := dL dRow) rfl (ei_listX y_ hok_ hm_ (fun v hok hm => ev_call cx_packed_tables.xP (hr.mono (by first | decide | omega)) rfl (ea_cons (nm 0 rfl) (ea_cons (nm 1 rfl) ea_nil)) (by exact ⟨v_columns, _, v_marks, rfl, (vsL w_marks), hok, by rw [hm]; rfl⟩))) (bnm 2 nd) (fun _ _ _ hst => by obtain ⟨rfl, rfl⟩ := hst; exact Vs.vw vsI) ⟨_, (wk_some rfl (wk_some rfl (wk_nn wk_nil))), rfl, rfl⟩ (fun v_table _ _ _ hst => ?_)) (fun _ _ _ hst => ?_)
    · obtain ⟨rfl, rfl⟩ := hst
      refine ⟨_, rfl, ?_⟩
      show FJC _ _ _ [some (D.str v_columns), some (d_marks), some (dL dRow v_table)] _ _ _ _
      exact fjc_yield (d := dL dRow v_table) (nm 2 rfl) ⟨_, rfl, .refl _⟩
    obtain ⟨rfl, rfl⟩ := hst
    show FJC _ _ _ [some (D.str v_columns), some (d_marks), none] _ _ _ _
    exact fjc_nil rfl
def ar_law_pool (ad : Ads) (L : Om) (ds : List D) (es : List D) : Prop := ∃ (d_script : D) (v_script : List Int) (v_k : Int) (v_many : Int), ds = [d_script, D.int v_k, D.int v_many] ∧ Vw L d_script (v_script.map D.int) ∧ (m_law_pool v_script v_k v_many).ok ∧ es = (m_law_pool v_script v_k v_many).val.map D.int
abbrev s_law_pool : Stmt := top 16
abbrev N_law_pool : List Str := ["_law_script", "_law_k", "_law_many", "_law_cell", "_law_great", "_law_pool_here", "_law_j", "_law_i", "_law_first"]
theorem sc_law_pool : FnScope N_law_pool ["_law_script", "_law_k", "_law_many"] (defScope s_law_pool) := ⟨rfl, rfl, rfl, by decide +kernel, rfl, by decide +kernel, by decide +kernel⟩
theorem ok_law_pool {f : Addr} {fd : FuncData} (F : Fun K "_law_pool" "_law_pool" s_law_pool f fd) (b_len : mg "len" = none) (b_range : mg "range" = none) (b_int : mg "int" = none) : FnOk P w K mg base CX0 (1) f fd ["_law_script", "_law_k", "_law_many"] (spN K (ar_law_pool ad)) := by
  refine fn_newV F sc_law_pool (fun L ds d h => ?_) (fun cdv A outer s H E B ds d hr h => ?_)
  · obtain ⟨d_script, v_script, v_k, v_many, rfl, _⟩ := h; rfl
  · obtain ⟨d_script, v_script, v_k, v_many, rfl, w_script, hok, rfl⟩ := h
    have nd := sc_law_pool.nd
    refine (show JC _ B (defBody s_law_pool) [some (d_script), some (D.int v_k), some (D.int v_many), none, none, none, none, none, none] [] (aR (rtN D.int)) (m_law_pool v_script v_k v_many) from ?_) hok
    unfold m_law_pool
    refine jc_set (E := D.int) (v := ((0 : Int) : Int)) 3 nd ev_int (fun v_cell => ?_)
    show JC _ _ _ [some (d_script), some (D.int v_k), some (D.int v_many), some (D.int v_cell), none, none, none, none, none] _ _ _
    refine jc_seqN (st1 := (fun (v_cell : Int) (ρ : List (Option D)) (O : Om) => ρ = [some (d_script), some (D.int v_k), some (D.int v_many), some (D.int v_cell), none, none, none, none, none] ∧ O = [])) (jc1_ite (et_cmp op_lt rd_B0 (nm 1 rfl) (ev_conv (ev_callB call_len_seq (rc_len (Vw.vq (vwL w_script))) (by rfl) b_len PySem.boot_len (ea_cons (nm 0 rfl) ea_nil)) (by rw [List.length_map])) (nomark _)) (fun hc1 => ?_) (fun hc1 => ?_)) (fun v_cell _ _ hst => ?_)
    · refine jc_req fun h2 => ?_
      refine jc_set (E := D.int) (v := ((ixL v_script v_k) : Int)) 3 nd (ev_ixL (nm 0 rfl) (nm 1 rfl) (vwL w_script) (atG (E := D.int) h2)) (fun v_cell => ?_)
      show JC _ _ _ [some (d_script), some (D.int v_k), some (D.int v_many), some (D.int v_cell), none, none, none, none, none] _ _ _
      exact jc_nil ⟨_, (wk_some rfl (wk_some rfl (wk_some rfl (wk_some rfl (wk_nn (wk_nn (wk_nn (wk_nn (wk_nn wk_nil))))))))), rfl, rfl⟩
    · exact jc_nil ⟨_, (wk_some rfl (wk_some rfl (wk_some rfl (wk_some rfl (wk_nn (wk_nn (wk_nn (wk_nn (wk_nn wk_nil))))))))), rfl, rfl⟩
    obtain ⟨rfl, rfl⟩ := hst
    show JC _ _ _ [some (d_script), some (D.int v_k), some (D.int v_many), some (D.int v_cell), none, none, none, none, none] _ _ _
    refine jc_set (E := D.bl) (v := ((decide (v_cell ≥ (((10 : Int) : Int) ^ ((18 : Int) : Int).toNat))) : Bool)) 4 nd (ev_cmp op_ge rd_B0 (nm 3 rfl) (ev_op op_pow (rd_I ⟨by decide, by decide, by decide⟩) ev_int ev_int) (nomark _)) (fun v_great => ?_)
    show JC _ _ _ [some (d_script), some (D.int v_k), some (D.int v_many), some (D.int v_cell), some (D.bl v_great), none, none, none, none] _ _ _
    refine jc_setN (E := D.int) 5 nd (en_lst ea_nil (by show 0 ≤ sizeLine; decide)) (fun q3 v_pool_here _ => ?_)
    show JC _ _ _ [some (d_script), some (D.int v_k), some (D.int v_many), some (D.int v_cell), some (D.bl v_great), some (.rf q3), none, none, none] _ _ _
    refine jc_req fun h4 => ?_
    refine jc_seqN (st1 := (fun ((v_cell, v_pool_here) : Int × (List Int)) (ρ : List (Option D)) (O : Om) => ρ = [some (d_script), some (D.int v_k), some (D.int v_many), some (D.int v_cell), some (D.bl v_great), some (.rf q3), none, none, none] ∧ O = [(q3, M.lst (v_pool_here.map D.int))])) (jc1_for (E := D.int) PassesOwn.never rfl (ei_rng1 (by rfl) b_range (ea_cons (nm 2 rfl) ea_nil) h4) (bnm 6 nd) (fun ⟨v_cell, v_pool_here⟩ _ _ hst => by obtain ⟨rfl, rfl⟩ := hst; exact trivial) ⟨_, (wk_some rfl (wk_some rfl (wk_some rfl (wk_some rfl (wk_some rfl (wk_some rfl (wk_nn (wk_nn (wk_nn wk_nil))))))))), rfl, rfl⟩ (fun v_j ⟨v_cell, v_pool_here⟩ _ _ hst => ?_)) (fun ⟨v_cell, v_pool_here⟩ _ _ hst => ?_)
    · obtain ⟨rfl, rfl⟩ := hst
      refine ⟨_, rfl, ?_⟩
      show JC _ _ _ [some (d_script), some (D.int v_k), some (D.int v_many), some (D.int v_cell), some (D.bl v_great), some (.rf q3), some (D.int v_j), none, none] _ _ _
      refine jc_one (jc1_ite (et_w (ew_and (et_of (nm 4 rfl)) (fun hb5 => (ew_and1 (et_cmp op_gt rd_B0 (nm 3 rfl) ev_int (nomark _)))))) (fun hc6 => ?_) (fun hc6 => ?_))
      · refine jc_req fun h7 => ?_
        refine jc_append (E := D.int) (v := (v_cell % (1000 : Int))) (nm 5 rfl) (.head _) (ev_op op_mod (rd_I (by decide)) (ev_callTy call_int1 rc_int (by rfl) b_int (by decide +kernel) (ea_cons (nm 3 rfl) ea_nil)) ev_int) (fun _ => .head) h7 (fun v_pool_here => ?_)
        refine jc_set (E := D.int) (v := ((v_cell / (1000 : Int)) : Int)) 3 nd (ev_op op_fdiv (rd_I ⟨by decide, by decide⟩) (nm 3 rfl) ev_int) (fun v_cell => ?_)
        show JC _ _ _ [some (d_script), some (D.int v_k), some (D.int v_many), some (D.int v_cell), some (D.bl v_great), some (.rf q3), some (D.int v_j), none, none] _ _ _
        exact jc_nil ⟨_, (wk_some rfl (wk_some rfl (wk_some rfl (wk_some rfl (wk_some rfl (wk_some rfl (wk_none (wk_nn (wk_nn wk_nil))))))))), rfl, rfl⟩
      · refine jc_set (E := D.int) (v := ((v_j + ((11 : Int) * v_k)) : Int)) 7 nd (ev_op op_add rd_I0 (nm 6 rfl) (ev_op op_mul (rd_I (.inl ⟨by decide, by decide⟩)) ev_int (nm 1 rfl))) (fun v_i => ?_)
        show JC _ _ _ [some (d_script), some (D.int v_k), some (D.int v_many), some (D.int v_cell), some (D.bl v_great), some (.rf q3), some (D.int v_j), some (D.int v_i), none] _ _ _
        refine jc_set (E := D.int) (v := (((((v_cell * (37 : Int)) + (v_i * (71 : Int))) + (5 : Int)) % (509 : Int)) : Int)) 8 nd (ev_op op_mod (rd_I (by decide)) (ev_callTy call_int1 rc_int (by rfl) b_int (by decide +kernel) (ea_cons (ev_op op_add rd_I0 (ev_op op_add rd_I0 (ev_op op_mul (rd_I (.inr ⟨by decide, by decide⟩)) (nm 3 rfl) ev_int) (ev_op op_mul (rd_I (.inr ⟨by decide, by decide⟩)) (nm 7 rfl) ev_int)) ev_int) ea_nil)) ev_int) (fun v_first => ?_)
        show JC _ _ _ [some (d_script), some (D.int v_k), some (D.int v_many), some (D.int v_cell), some (D.bl v_great), some (.rf q3), some (D.int v_j), some (D.int v_i), some (D.int v_first)] _ _ _
        refine jc_req fun ⟨h8, h9⟩ => ?_
        refine jc_append (E := D.int) (v := ((((v_first * v_first) + v_cell) + (v_i * (13 : Int))) % (499 : Int))) (nm 5 rfl) (.head _) (ev_op op_mod (rd_I (by decide)) (ev_callTy call_int1 rc_int (by rfl) b_int (by decide +kernel) (ea_cons (ev_op op_add rd_I0 (ev_op op_add rd_I0 (ev_op op_mul (rd_I h8) (nm 8 rfl) (nm 8 rfl)) (nm 3 rfl)) (ev_op op_mul (rd_I (.inr ⟨by decide, by decide⟩)) (nm 7 rfl) ev_int)) ea_nil)) ev_int) (fun _ => .head) h9 (fun v_pool_here => ?_)
        exact jc_nil ⟨_, (wk_some rfl (wk_some rfl (wk_some rfl (wk_some rfl (wk_some rfl (wk_some rfl (wk_none (wk_none (wk_none wk_nil))))))))), rfl, rfl⟩
    obtain ⟨rfl, rfl⟩ := hst
    show JC _ _ _ [some (d_script), some (D.int v_k), some (D.int v_many), some (D.int v_cell), some (D.bl v_great), some (.rf q3), none, none, none] _ _ _
    exact jc_ret (nm 5 rfl) ⟨_, rfl, rfl⟩
def ar_law_frame (ad : Ads) (L : Om) (ds : List D) (d : D) : Prop := ∃ (d_pool_here : D) (v_pool_here : List Int) (v_shapes : Int), ds = [d_pool_here, D.int v_shapes] ∧ Vs L d_pool_here (v_pool_here.map D.int) ∧ (m_law_frame v_pool_here v_shapes).ok ∧ d = dP3 D.str (dL (dP2 D.str D.int)) D.int ((m_law_frame v_pool_here v_shapes).val)
abbrev s_law_frame : Stmt := top 17
abbrev N_law_frame : List Str := ["_law_pool_here", "_law_shapes", "_law_shape", "_law_many", "_law_count", "_law_letters", "_law_base", "_law_far", "_law_marks", "_law_k", "_law_constant"]
theorem sc_law_frame : FnScope N_law_frame ["_law_pool_here", "_law_shapes"] (defScope s_law_frame) := ⟨rfl, rfl, rfl, by decide +kernel, rfl, by decide +kernel, by decide +kernel⟩
theorem ok_law_frame {f : Addr} {fd : FuncData} (F : Fun K "_law_frame" "_law_frame" s_law_frame f fd) (b_int : mg "int" = none) (b_range : mg "range" = none) : FnOk P w K mg base CX0 (1) f fd ["_law_pool_here", "_law_shapes"] (spP K (ar_law_frame ad)) := by
  refine fn_pureV F sc_law_frame (fun L ds d h => ?_) (fun cdv A outer s H E B ds d hr h => ?_)
  · obtain ⟨d_pool_here, v_pool_here, v_shapes, rfl, _⟩ := h; rfl
  · obtain ⟨d_pool_here, v_pool_here, v_shapes, rfl, w_pool_here, hok, rfl⟩ := h
    have nd := sc_law_frame.nd
    refine (show JC _ B (defBody s_law_frame) [some (d_pool_here), some (D.int v_shapes), none, none, none, none, none, none, none, none, none] [] (aR (rtP (dP3 D.str (dL (dP2 D.str D.int)) D.int))) (m_law_frame v_pool_here v_shapes) from ?_) hok
    unfold m_law_frame
    refine jc_req fun ⟨h1, h2⟩ => ?_
    refine jc_set (E := D.int) (v := (((ixL v_pool_here (0 : Int)) % v_shapes) : Int)) 2 nd (ev_op op_mod (rd_I h2) (ev_callTy call_int1 rc_int (by rfl) b_int (by decide +kernel) (ea_cons (ev_ixL (nm 0 rfl) ev_int (Vs.vw (vsL w_pool_here)) (atG (E := D.int) h1)) ea_nil)) (nm 1 rfl)) (fun v_shape => ?_)
    show JC _ _ _ [some (d_pool_here), some (D.int v_shapes), some (D.int v_shape), none, none, none, none, none, none, none, none] _ _ _
    refine jc_req fun h3 => ?_
    refine jc_set (E := D.int) (v := ((ixL ([(2 : Int), (1 : Int), (2 : Int), (1 : Int), (3 : Int), (2 : Int), (2 : Int), (3 : Int), (1 : Int)] : List Int) v_shape) : Int)) 3 nd (ev_ixL (ev_new (en_lst (ea_cons ev_int (ea_cons ev_int (ea_cons ev_int (ea_cons ev_int (ea_cons ev_int (ea_cons ev_int (ea_cons ev_int (ea_cons ev_int (ea_cons ev_int ea_nil))))))))) (by show 9 ≤ sizeLine; decide))) (nm 2 rfl) (Vs.vw vsI) (atG (xs := ([(2 : Int), (1 : Int), (2 : Int), (1 : Int), (3 : Int), (2 : Int), (2 : Int), (3 : Int), (1 : Int)] : List Int)) (E := D.int) h3)) (fun v_many => ?_)
    show JC _ _ _ [some (d_pool_here), some (D.int v_shapes), some (D.int v_shape), some (D.int v_many), none, none, none, none, none, none, none] _ _ _
    refine jc_set (E := D.int) (v := ((ixL ([(1 : Int), (1 : Int), (0 : Int), (2 : Int), (0 : Int), (2 : Int), (1 : Int), (1 : Int), (3 : Int)] : List Int) v_shape) : Int)) 4 nd (ev_ixL (ev_new (en_lst (ea_cons ev_int (ea_cons ev_int (ea_cons ev_int (ea_cons ev_int (ea_cons ev_int (ea_cons ev_int (ea_cons ev_int (ea_cons ev_int (ea_cons ev_int ea_nil))))))))) (by show 9 ≤ sizeLine; decide))) (nm 2 rfl) (Vs.vw vsI) (atG (xs := ([(1 : Int), (1 : Int), (0 : Int), (2 : Int), (0 : Int), (2 : Int), (1 : Int), (1 : Int), (3 : Int)] : List Int)) (E := D.int) h3)) (fun v_count => ?_)
    show JC _ _ _ [some (d_pool_here), some (D.int v_shapes), some (D.int v_shape), some (D.int v_many), some (D.int v_count), none, none, none, none, none, none] _ _ _
    refine jc_req fun ⟨h4, h5⟩ => ?_
    refine jc_set (E := D.str) (v := ((cutS (ixL ([(Str.ofString "abc"), (Str.ofString "acb"), (Str.ofString "bac"), (Str.ofString "bca"), (Str.ofString "cab"), (Str.ofString "cba")] : List Str) ((ixL v_pool_here (1 : Int)) % (6 : Int))) none (some v_many)) : Str)) 5 nd (ev_sliceS (ev_ixL (ev_new (en_lst (ea_cons ev_str (ea_cons ev_str (ea_cons ev_str (ea_cons ev_str (ea_cons ev_str (ea_cons ev_str ea_nil)))))) (by show 6 ≤ sizeLine; decide))) (ev_op op_mod (rd_I (by decide)) (ev_callTy call_int1 rc_int (by rfl) b_int (by decide +kernel) (ea_cons (ev_ixL (nm 0 rfl) ev_int (Vs.vw (vsL w_pool_here)) (atG (E := D.int) h4)) ea_nil)) ev_int) (Vs.vw vsI) (atG (xs := ([(Str.ofString "abc"), (Str.ofString "acb"), (Str.ofString "bac"), (Str.ofString "bca"), (Str.ofString "cab"), (Str.ofString "cba")] : List Str)) (E := D.str) (mod_ix (k := 6) (by decide) (by decide)))) eo_none (eo_some (nm 3 rfl)) h5) (fun v_letters => ?_)
    show JC _ _ _ [some (d_pool_here), some (D.int v_shapes), some (D.int v_shape), some (D.int v_many), some (D.int v_count), some (D.str v_letters), none, none, none, none, none] _ _ _
    refine jc_req fun h6 => ?_
    refine jc_set (E := D.int) (v := ((ixL ([(0 : Int), (0 : Int), (1000 : Int), (-(((10 : Int) : Int) ^ ((15 : Int) : Int).toNat))] : List Int) ((ixL v_pool_here (2 : Int)) % (4 : Int))) : Int)) 6 nd (ev_ixL (ev_new (en_lst (ea_cons ev_int (ea_cons ev_int (ea_cons ev_int (ea_cons (ev_neg (ev_op op_pow (rd_I ⟨by decide, by decide, by decide⟩) ev_int ev_int)) ea_nil)))) (by show 4 ≤ sizeLine; decide))) (ev_op op_mod (rd_I (by decide)) (ev_callTy call_int1 rc_int (by rfl) b_int (by decide +kernel) (ea_cons (ev_ixL (nm 0 rfl) ev_int (Vs.vw (vsL w_pool_here)) (atG (E := D.int) h6)) ea_nil)) ev_int) (Vs.vw vsI) (atG (xs := ([(0 : Int), (0 : Int), (1000 : Int), (-(((10 : Int) : Int) ^ ((15 : Int) : Int).toNat))] : List Int)) (E := D.int) (mod_ix (k := 4) (by decide) (by decide)))) (fun v_base => ?_)
    show JC _ _ _ [some (d_pool_here), some (D.int v_shapes), some (D.int v_shape), some (D.int v_many), some (D.int v_count), some (D.str v_letters), some (D.int v_base), none, none, none, none] _ _ _
    refine jc_set (E := D.int) (v := ((ixL ([(0 : Int), (0 : Int), (0 : Int), (20 : Int), (((10 : Int) : Int) ^ ((16 : Int) : Int).toNat)] : List Int) (((ixL v_pool_here (2 : Int)) / (4 : Int)) % (5 : Int))) : Int)) 7 nd (ev_ixL (ev_new (en_lst (ea_cons ev_int (ea_cons ev_int (ea_cons ev_int (ea_cons ev_int (ea_cons (ev_op op_pow (rd_I ⟨by decide, by decide, by decide⟩) ev_int ev_int) ea_nil))))) (by show 5 ≤ sizeLine; decide))) (ev_op op_mod (rd_I (by decide)) (ev_op op_fdiv (rd_I ⟨by decide, by decide⟩) (ev_ixL (nm 0 rfl) ev_int (Vs.vw (vsL w_pool_here)) (atG (E := D.int) h6)) ev_int) ev_int) (Vs.vw vsI) (atG (xs := ([(0 : Int), (0 : Int), (0 : Int), (20 : Int), (((10 : Int) : Int) ^ ((16 : Int) : Int).toNat)] : List Int)) (E := D.int) (mod_ix (k := 5) (by decide) (by decide)))) (fun v_far => ?_)
    show JC _ _ _ [some (d_pool_here), some (D.int v_shapes), some (D.int v_shape), some (D.int v_many), some (D.int v_count), some (D.str v_letters), some (D.int v_base), some (D.int v_far), none, none, none] _ _ _
    refine jc_setN (E := dP2 D.str D.int) 8 nd (en_lst ea_nil (by show 0 ≤ sizeLine; decide)) (fun q7 v_marks _ => ?_)
    show JC _ _ _ [some (d_pool_here), some (D.int v_shapes), some (D.int v_shape), some (D.int v_many), some (D.int v_count), some (D.str v_letters), some (D.int v_base), some (D.int v_far), some (.rf q7), none, none] _ _ _
    refine jc_req fun h8 => ?_
    refine jc_seqN (st1 := (fun (v_marks : (List (Str × Int))) (ρ : List (Option D)) (O : Om) => ρ = [some (d_pool_here), some (D.int v_shapes), some (D.int v_shape), some (D.int v_many), some (D.int v_count), some (D.str v_letters), some (D.int v_base), some (D.int v_far), some (.rf q7), none, none] ∧ O = [(q7, M.lst (v_marks.map (dP2 D.str D.int)))])) (jc1_for (E := D.int) PassesOwn.never rfl (ei_rng1 (by rfl) b_range (ea_cons (nm 4 rfl) ea_nil) h8) (bnm 9 nd) (fun v_marks _ _ hst => by obtain ⟨rfl, rfl⟩ := hst; exact trivial) ⟨_, (wk_some rfl (wk_some rfl (wk_some rfl (wk_some rfl (wk_some rfl (wk_some rfl (wk_some rfl (wk_some rfl (wk_some rfl (wk_nn (wk_nn wk_nil))))))))))), rfl, rfl⟩ (fun v_k v_marks _ _ hst => ?_)) (fun v_marks _ _ hst => ?_)
    · obtain ⟨rfl, rfl⟩ := hst
      refine ⟨_, rfl, ?_⟩
      show JC _ _ _ [some (d_pool_here), some (D.int v_shapes), some (D.int v_shape), some (D.int v_many), some (D.int v_count), some (D.str v_letters), some (D.int v_base), some (D.int v_far), some (.rf q7), some (D.int v_k), none] _ _ _
      refine jc_req fun ⟨h9, h10⟩ => ?_
      refine jc_set (E := D.int) (v := ((((v_base + ((ixL v_pool_here ((4 : Int) + ((2 : Int) * v_k))) % (7 : Int))) - (3 : Int)) + (v_k * v_far)) : Int)) 10 nd (ev_op op_add rd_I0 (ev_op op_sub rd_I0 (ev_op op_add rd_I0 (nm 6 rfl) (ev_op op_mod (rd_I (by decide)) (ev_callTy call_int1 rc_int (by rfl) b_int (by decide +kernel) (ea_cons (ev_ixL (nm 0 rfl) (ev_op op_add rd_I0 ev_int (ev_op op_mul (rd_I (.inl ⟨by decide, by decide⟩)) ev_int (nm 9 rfl))) (Vs.vw (vsL w_pool_here)) (atG (E := D.int) h9)) ea_nil)) ev_int)) ev_int) (ev_op op_mul (rd_I h10) (nm 9 rfl) (nm 7 rfl))) (fun v_constant => ?_)
      show JC _ _ _ [some (d_pool_here), some (D.int v_shapes), some (D.int v_shape), some (D.int v_many), some (D.int v_count), some (D.str v_letters), some (D.int v_base), some (D.int v_far), some (.rf q7), some (D.int v_k), some (D.int v_constant)] _ _ _
      refine jc_req fun ⟨h11, h12, h13, h14, h15⟩ => ?_
      refine jc_append (E := dP2 D.str D.int) (v := ((cS (ixS v_letters ((ixL v_pool_here ((3 : Int) + ((2 : Int) * v_k))) % v_many))), v_constant)) (nm 8 rfl) (.head _) (ev_tup (ea_cons (ev_ixS (nm 5 rfl) (ev_op op_mod (rd_I h12) (ev_callTy call_int1 rc_int (by rfl) b_int (by decide +kernel) (ea_cons (ev_ixL (nm 0 rfl) (ev_op op_add rd_I0 ev_int (ev_op op_mul (rd_I (.inl ⟨by decide, by decide⟩)) ev_int (nm 9 rfl))) (Vs.vw (vsL w_pool_here)) (atG (E := D.int) h11)) ea_nil)) (nm 3 rfl)) h14 (atS2 h13)) (ea_cons (nm 10 rfl) ea_nil)) (by show 2 ≤ sizeLine; decide)) (fun _ => .head) h15 (fun v_marks => ?_)
      exact jc_nil ⟨_, (wk_some rfl (wk_some rfl (wk_some rfl (wk_some rfl (wk_some rfl (wk_some rfl (wk_some rfl (wk_some rfl (wk_some rfl (wk_none (wk_none wk_nil))))))))))), rfl, rfl⟩
    obtain ⟨rfl, rfl⟩ := hst
    show JC _ _ _ [some (d_pool_here), some (D.int v_shapes), some (D.int v_shape), some (D.int v_many), some (D.int v_count), some (D.str v_letters), some (D.int v_base), some (D.int v_far), some (.rf q7), none, none] _ _ _
    refine jc_frz 8 (.head) rfl ?_
    show JC _ _ _ [some (d_pool_here), some (D.int v_shapes), some (D.int v_shape), some (D.int v_many), some (D.int v_count), some (D.str v_letters), some (D.int v_base), some (D.int v_far), some (dL (dP2 D.str D.int) v_marks), none, none] _ _ _
    exact jc_ret (d := dP3 D.str (dL (dP2 D.str D.int)) D.int ((v_letters, v_marks, v_base) : Str × (List (Str × Int)) × Int)) (ev_tup (ea_cons (nm 5 rfl) (ea_cons (nm 8 rfl) (ea_cons (nm 6 rfl) ea_nil))) (by show 3 ≤ sizeLine; decide)) (.refl _)
def ar_law_ordered (ad : Ads) (L : Om) (ds : List D) (es : List D) : Prop := ∃ (d_marks : D) (v_marks : List (Str × Int)), ds = [d_marks] ∧ Vs L d_marks (v_marks.map (dP2 D.str D.int)) ∧ (m_law_ordered v_marks).ok ∧ es = (m_law_ordered v_marks).val.map (dP2 D.str D.int)
abbrev s_law_ordered : Stmt := top 18
abbrev N_law_ordered : List Str := ["_law_marks", "_law_result", "_law_letter", "_law_constant", "_law_mark"]
theorem sc_law_ordered : FnScope N_law_ordered ["_law_marks"] (defScope s_law_ordered) := ⟨rfl, rfl, rfl, by decide +kernel, rfl, by decide +kernel, by decide +kernel⟩
theorem ok_law_ordered {f : Addr} {fd : FuncData} (F : Fun K "_law_ordered" "_law_ordered" s_law_ordered f fd) (b_int : mg "int" = none) (b_sorted : mg "sorted" = none) : FnOk P w K mg base CX0 (1) f fd ["_law_marks"] (spN K (ar_law_ordered ad)) := by
  refine fn_newV F sc_law_ordered (fun L ds d h => ?_) (fun cdv A outer s H E B ds d hr h => ?_)
  · obtain ⟨d_marks, v_marks, rfl, _⟩ := h; rfl
  · obtain ⟨d_marks, v_marks, rfl, w_marks, hok, rfl⟩ := h
    have nd := sc_law_ordered.nd
    refine (show JC _ B (defBody s_law_ordered) [some (d_marks), none, none, none, none] [] (aR (rtN (dP2 D.str D.int))) (m_law_ordered v_marks) from ?_) hok
    unfold m_law_ordered
    refine jc_setN (E := dP2 D.str D.int) 1 nd (en_lst ea_nil (by show 0 ≤ sizeLine; decide)) (fun q1 v_result _ => ?_)
    show JC _ _ _ [some (d_marks), some (.rf q1), none, none, none] _ _ _
    refine jc_seqN (st1 := (fun (v_result : (List (Str × Int))) (ρ : List (Option D)) (O : Om) => ρ = [some (d_marks), some (.rf q1), none, none, none] ∧ O = [(q1, M.lst (v_result.map (dP2 D.str D.int)))])) (jc1_for (E := eC) PassesOwn.never rfl (ei_chars ev_str) (bnm 2 nd) (fun v_result _ _ hst => by obtain ⟨rfl, rfl⟩ := hst; exact trivial) ⟨_, (wk_some rfl (wk_some rfl (wk_nn (wk_nn (wk_nn wk_nil))))), rfl, rfl⟩ (fun v_letter v_result _ _ hst => ?_)) (fun v_result _ _ hst => ?_)
    · obtain ⟨rfl, rfl⟩ := hst
      refine ⟨_, rfl, ?_⟩
      show JC _ _ _ [some (d_marks), some (.rf q1), some (eC v_letter), none, none] _ _ _
      refine jc_req fun h5 => ?_
      refine jc_seqN (st1 := (fun (v_result : (List (Str × Int))) (ρ : List (Option D)) (O : Om) => ρ = [some (d_marks), some (.rf q1), some (eC v_letter), none, none] ∧ O = [(q1, M.lst (v_result.map (dP2 D.str D.int)))])) (jc1_for (E := D.int) PassesOwn.never rfl (ei_list (ev_new (en_callB cr_sortedI (rcn_sorted (Vs.vw vsI)) rfl b_sorted (by decide +kernel) (ea_cons (ev_new (en_lcT (F := D.int) (pr := fun (x2 : (Str × Int)) => (decide (x2.1 = (cS v_letter)))) (el := fun (x2 : (Str × Int)) => x2.2) [("_law_mark", 4)] rfl nd (ei_list (nm 0 rfl) (Vs.vw (vsL w_marks))) (Vs.vw (vsL w_marks)) (blkOk_by (by rfl)) (by rintro _ ⟨s, H, C, cl, fp, rfl⟩; exact (bnm 4 nd)) (by decide) (fun x2 hx3 => ⟨_, rfl, fun X' B' eL hX' => by obtain ⟨s, H, C, cl, fp, rfl⟩ := hX'; exact (ets_one (et_cmp op_eq rd_eqS (ev_ixT (nm 4 rfl) ev_int (by rfl)) (nm 2 rfl) (nomark _))), fun hp4 X' B' eL hX' => by obtain ⟨s, H, C, cl, fp, rfl⟩ := hX'; exact (ev_callTy call_int1 rc_int (by rfl) b_int (by decide +kernel) (ea_cons (ev_ixT (nm 4 rfl) ev_int (by rfl)) ea_nil))⟩) h5)) ea_nil))) (Vs.vw vsI)) (bnm 3 nd) (fun v_result _ _ hst => by obtain ⟨rfl, rfl⟩ := hst; exact (Vs.vw vsI)) ⟨_, (wk_some rfl (wk_some rfl (wk_some rfl (wk_nn (wk_nn wk_nil))))), rfl, rfl⟩ (fun v_constant v_result _ _ hst => ?_)) (fun v_result _ _ hst => ?_)
      · obtain ⟨rfl, rfl⟩ := hst
        refine ⟨_, rfl, ?_⟩
        show JC _ _ _ [some (d_marks), some (.rf q1), some (eC v_letter), some (D.int v_constant), none] _ _ _
        refine jc_req fun ⟨h11, h12⟩ => ?_
        refine jc_one (jc1_ite (et_cmp (op_notInD (un65 hr)) (rd_notinH (x := ((cS v_letter), v_constant)) (xs := v_result) (EqOk.p2 EqOk.str EqOk.int) (by decide) (vdM (.head _)) ⟨h12, trivial⟩ (fun y9 hy10 => ⟨(h11 y9 hy10), trivial⟩)) (ev_tup (ea_cons (nm 2 rfl) (ea_cons (nm 3 rfl) ea_nil)) (by show 2 ≤ sizeLine; decide)) (nm 1 rfl) (by rfl)) (fun hc13 => ?_) (fun hc13 => ?_))
        · refine jc_req fun h14 => ?_
          refine jc_append (E := dP2 D.str D.int) (v := ((cS v_letter), v_constant)) (nm 1 rfl) (.head _) (ev_tup (ea_cons (nm 2 rfl) (ea_cons (nm 3 rfl) ea_nil)) (by show 2 ≤ sizeLine; decide)) (fun _ => .head) h14 (fun v_result => ?_)
          exact jc_nil ⟨_, (wk_some rfl (wk_some rfl (wk_some rfl (wk_none (wk_nn wk_nil))))), rfl, rfl⟩
        · exact jc_nil ⟨_, (wk_some rfl (wk_some rfl (wk_some rfl (wk_none (wk_nn wk_nil))))), rfl, rfl⟩
      obtain ⟨rfl, rfl⟩ := hst
      show JC _ _ _ [some (d_marks), some (.rf q1), some (eC v_letter), none, none] _ _ _
      exact jc_nil ⟨_, (wk_some rfl (wk_some rfl (wk_none (wk_nn (wk_nn wk_nil))))), rfl, rfl⟩
    obtain ⟨rfl, rfl⟩ := hst
    show JC _ _ _ [some (d_marks), some (.rf q1), none, none, none] _ _ _
    exact jc_ret (nm 1 rfl) ⟨_, rfl, rfl⟩
def ar_law_columns (ad : Ads) (L : Om) (ds : List D) (d : D) : Prop := ∃ (v_letters : Str), ds = [D.str v_letters] ∧ (m_law_columns v_letters).ok ∧ d = D.str ((m_law_columns v_letters).val)
abbrev s_law_columns : Stmt := top 19
abbrev N_law_columns : List Str := ["_law_letters", "_law_letter"]
theorem sc_law_columns : FnScope N_law_columns ["_law_letters"] (defScope s_law_columns) := ⟨rfl, rfl, rfl, by decide +kernel, rfl, by decide +kernel, by decide +kernel⟩
theorem ok_law_columns {f : Addr} {fd : FuncData} (F : Fun K "_law_columns" "_law_columns" s_law_columns f fd)  : FnOk P w K mg base CX0 (1) f fd ["_law_letters"] (spP K (ar_law_columns ad)) := by
  refine fn_pureV F sc_law_columns (fun L ds d h => ?_) (fun cdv A outer s H E B ds d hr h => ?_)
  · obtain ⟨v_letters, rfl, _⟩ := h; rfl
  · obtain ⟨v_letters, rfl, hok, rfl⟩ := h
    have nd := sc_law_columns.nd
    refine (show JC _ B (defBody s_law_columns) [some (D.str v_letters), none] [] (aR (rtP D.str)) (m_law_columns v_letters) from ?_) hok
    unfold m_law_columns
    refine jc_req fun h4 => ?_
    exact jc_ret (d := D.str ((Txt.join (Str.ofString "") ((((charsL (Str.ofString "abc")).filter (fun (x1 : Nat) => (decide (x1 ∈ charsL v_letters)))).map (fun (x1 : Nat) => x1)).map cS)) : Str)) (ev_join (ys := (((charsL (Str.ofString "abc")).filter (fun (x1 : Nat) => (decide (x1 ∈ charsL v_letters)))).map (fun (x1 : Nat) => x1)).map cS) ev_str (ev_conv (d' := .lst (((((charsL (Str.ofString "abc")).filter (fun (x1 : Nat) => (decide (x1 ∈ charsL v_letters)))).map (fun (x1 : Nat) => x1)).map cS).map D.str)) (ev_new (en_lcT (F := eC) (pr := fun (x1 : Nat) => (decide (x1 ∈ charsL v_letters))) (el := fun (x1 : Nat) => x1) [("_law_letter", 1)] rfl nd (ei_chars ev_str) trivial (blkOk_by (by rfl)) (by rintro _ ⟨s, H, C, cl, fp, rfl⟩; exact (bnm 1 nd)) (by decide) (fun x1 hx2 => ⟨_, rfl, fun X' B' eL hX' => by obtain ⟨s, H, C, cl, fp, rfl⟩ := hX'; exact (ets_one (et_cmp op_in_sign rd_inC (nm 1 rfl) (nm 0 rfl) (by rfl))), fun hp3 X' B' eL hX' => by obtain ⟨s, H, C, cl, fp, rfl⟩ := hX'; exact (nm 1 rfl)⟩) (by first | decide | (show 3 < sizeLine; decide)))) (by simp only [List.map_map]; rfl)) (Vw.vq (Vs.vw vsI)) h4) (.refl _)
def ar_law_pack (ad : Ads) (L : Om) (ds : List D) (es : List D) : Prop := ∃ (d_values : D) (v_values : List Int) (d_constants : D) (v_constants : List Int), ds = [d_values, d_constants] ∧ Vs L d_values (v_values.map D.int) ∧ Vs L d_constants (v_constants.map D.int) ∧ (m_law_pack v_values v_constants).ok ∧ es = (m_law_pack v_values v_constants).val.map D.int
abbrev s_law_pack : Stmt := top 20
abbrev N_law_pack : List Str := ["_law_values", "_law_constants", "_law_once", "_law_value", "_law_image", "_law_below", "_law_constant", "_law_least", "_law_most", "_law_one"]
theorem sc_law_pack : FnScope N_law_pack ["_law_values", "_law_constants"] (defScope s_law_pack) := ⟨rfl, rfl, rfl, by decide +kernel, rfl, by decide +kernel, by decide +kernel⟩
theorem ok_law_pack {f : Addr} {fd : FuncData} (F : Fun K "_law_pack" "_law_pack" s_law_pack f fd) (b_len : mg "len" = none) (b_int : mg "int" = none) (b_min : mg "min" = none) (b_max : mg "max" = none) : FnOk P w K mg base CX0 (1) f fd ["_law_values", "_law_constants"] (spN K (ar_law_pack ad)) := by
  refine fn_newV F sc_law_pack (fun L ds d h => ?_) (fun cdv A outer s H E B ds d hr h => ?_)
  · obtain ⟨d_values, v_values, d_constants, v_constants, rfl, _⟩ := h; rfl
  · obtain ⟨d_values, v_values, d_constants, v_constants, rfl, w_values, w_constants, hok, rfl⟩ := h
    have nd := sc_law_pack.nd
    refine (show JC _ B (defBody s_law_pack) [some (d_values), some (d_constants), none, none, none, none, none, none, none, none] [] (aR (rtN D.int)) (m_law_pack v_values v_constants) from ?_) hok
    unfold m_law_pack
    refine jc_setN (E := D.int) 2 nd (en_lst ea_nil (by show 0 ≤ sizeLine; decide)) (fun q1 v_once _ => ?_)
    show JC _ _ _ [some (d_values), some (d_constants), some (.rf q1), none, none, none, none, none, none, none] _ _ _
    refine jc_seqN (st1 := (fun (v_once : (List Int)) (ρ : List (Option D)) (O : Om) => ρ = [some (d_values), some (d_constants), some (.rf q1), none, none, none, none, none, none, none] ∧ O = [(q1, M.lst (v_once.map D.int))])) (jc1_for (E := D.int) PassesOwn.never rfl (ei_list (nm 0 rfl) (Vs.vw (vsL w_values))) (bnm 3 nd) (fun v_once _ _ hst => by obtain ⟨rfl, rfl⟩ := hst; exact (Vs.vw (vsL w_values))) ⟨_, (wk_some rfl (wk_some rfl (wk_some rfl (wk_nn (wk_nn (wk_nn (wk_nn (wk_nn (wk_nn (wk_nn wk_nil)))))))))), rfl, rfl⟩ (fun v_value v_once _ _ hst => ?_)) (fun v_once _ _ hst => ?_)
    · obtain ⟨rfl, rfl⟩ := hst
      refine ⟨_, rfl, ?_⟩
      show JC _ _ _ [some (d_values), some (d_constants), some (.rf q1), some (D.int v_value), none, none, none, none, none, none] _ _ _
      refine jc_one (jc1_ite (et_cmp op_notIn_seq (rd_notinI (Vw.vq (Vs.vw (vsM (.head _))))) (nm 3 rfl) (nm 2 rfl) (by rfl)) (fun hc2 => ?_) (fun hc2 => ?_))
      · refine jc_req fun h3 => ?_
        refine jc_append (E := D.int) (v := v_value) (nm 2 rfl) (.head _) (nm 3 rfl) (fun _ => .head) h3 (fun v_once => ?_)
        exact jc_nil ⟨_, (wk_some rfl (wk_some rfl (wk_some rfl (wk_none (wk_nn (wk_nn (wk_nn (wk_nn (wk_nn (wk_nn wk_nil)))))))))), rfl, rfl⟩
      · exact jc_nil ⟨_, (wk_some rfl (wk_some rfl (wk_some rfl (wk_none (wk_nn (wk_nn (wk_nn (wk_nn (wk_nn (wk_nn wk_nil)))))))))), rfl, rfl⟩
    obtain ⟨rfl, rfl⟩ := hst
    show JC _ _ _ [some (d_values), some (d_constants), some (.rf q1), none, none, none, none, none, none, none] _ _ _
    refine jc_setN (E := D.int) 4 nd (en_lst ea_nil (by show 0 ≤ sizeLine; decide)) (fun q4 v_image _ => ?_)
    show JC _ _ _ [some (d_values), some (d_constants), some (.rf q1), none, some (.rf q4), none, none, none, none, none] _ _ _
    refine jc_perm ((.swap _ _ _)) ?_
    refine jc_seqN (st1 := (fun (v_image : (List Int)) (ρ : List (Option D)) (O : Om) => ρ = [some (d_values), some (d_constants), some (.rf q1), none, some (.rf q4), none, none, none, none, none] ∧ O = [(q1, M.lst (v_once.map D.int)), (q4, M.lst (v_image.map D.int))])) (jc1_for (E := D.int) PassesOwn.never rfl (ei_list (nm 0 rfl) (Vs.vw (vsL w_values))) (bnm 3 nd) (fun v_image _ _ hst => by obtain ⟨rfl, rfl⟩ := hst; exact (Vs.vw (vsL w_values))) ⟨_, (wk_some rfl (wk_some rfl (wk_some rfl (wk_nn (wk_some rfl (wk_nn (wk_nn (wk_nn (wk_nn (wk_nn wk_nil)))))))))), rfl, rfl⟩ (fun v_value v_image _ _ hst => ?_)) (fun v_image _ _ hst => ?_)
    · obtain ⟨rfl, rfl⟩ := hst
      refine ⟨_, rfl, ?_⟩
      show JC _ _ _ [some (d_values), some (d_constants), some (.rf q1), some (D.int v_value), some (.rf q4), none, none, none, none, none] _ _ _
      refine jc_req fun h8 => ?_
      refine jc_setLc (F := D.int) (pr := fun (x5 : Int) => (decide (x5 < v_value))) (el := fun (x5 : Int) => x5) [("_law_constant", 6)] rfl nd (ei_list (nm 1 rfl) (Vs.vw (vsL w_constants))) (Vs.vw (vsL w_constants)) (blkOk_by (by rfl)) (by rintro _ ⟨s, H, C, cl, fp, rfl⟩; exact (bnm 6 nd)) (by decide) (fun x5 hx6 => ⟨_, rfl, fun X' B' eL hX' => by obtain ⟨s, H, C, cl, fp, rfl⟩ := hX'; exact (ets_one (et_cmp op_lt rd_B0 (nm 6 rfl) (nm 3 rfl) (nomark _))), fun hp7 X' B' eL hX' => by obtain ⟨s, H, C, cl, fp, rfl⟩ := hX'; exact (nm 6 rfl)⟩) h8 5 rfl rfl rfl (fun v_below => ?_)
      show JC _ _ _ [some (d_values), some (d_constants), some (.rf q1), some (D.int v_value), some (.rf q4), some (dL D.int v_below), none, none, none, none] _ _ _
      refine jc_one (jc1_ite (et_cmp op_in_seq (rd_inI (Vw.vq (Vs.vw (vsL w_constants)))) (nm 3 rfl) (nm 1 rfl) (by rfl)) (fun hc9 => ?_) (fun hc9 => ?_))
      · refine jc_req fun h10 => ?_
        refine jc_append (E := D.int) (v := v_value) (nm 4 rfl) (.tail _ (.head _)) (nm 3 rfl) (fun _ => .tail (.head)) h10 (fun v_image => ?_)
        exact jc_nil ⟨_, (wk_some rfl (wk_some rfl (wk_some rfl (wk_none (wk_some rfl (wk_none (wk_nn (wk_nn (wk_nn (wk_nn wk_nil)))))))))), rfl, rfl⟩
      · refine jc_one (jc1_ite (et_cmp op_eq rd_eqI (ev_conv (ev_callB call_len_seq (rc_len (Vw.vq (Vs.vw (vsL w_constants)))) (by rfl) b_len PySem.boot_len (ea_cons (nm 1 rfl) ea_nil)) (by rw [List.length_map])) ev_int (nomark _)) (fun hc11 => ?_) (fun hc11 => ?_))
        · refine jc_req fun ⟨h15, h16⟩ => ?_
          refine jc_append (E := D.int) (v := (((v_once.filter (fun (x12 : Int) => (decide (x12 < v_value)))).map (fun (x12 : Int) => x12)).length : Int)) (nm 4 rfl) (.tail _ (.head _)) (ev_conv (ev_callB call_len_seq (rc_len (Vw.vq (Vs.vw vsI))) (by rfl) b_len PySem.boot_len (ea_cons (ev_new (en_lcT (F := D.int) (pr := fun (x12 : Int) => (decide (x12 < v_value))) (el := fun (x12 : Int) => x12) [("_law_one", 9)] rfl nd (ei_list (nm 2 rfl) (Vs.vw (vsM (.head _)))) (Vs.vw (vsM (.head _))) (blkOk_by (by rfl)) (by rintro _ ⟨s, H, C, cl, fp, rfl⟩; exact (bnm 9 nd)) (by decide) (fun x12 hx13 => ⟨_, rfl, fun X' B' eL hX' => by obtain ⟨s, H, C, cl, fp, rfl⟩ := hX'; exact (ets_one (et_cmp op_lt rd_B0 (nm 9 rfl) (nm 3 rfl) (nomark _))), fun hp14 X' B' eL hX' => by obtain ⟨s, H, C, cl, fp, rfl⟩ := hX'; exact (nm 9 rfl)⟩) h15)) ea_nil)) (by rw [List.length_map])) (fun _ => .tail (.head)) h16 (fun v_image => ?_)
          exact jc_nil ⟨_, (wk_some rfl (wk_some rfl (wk_some rfl (wk_none (wk_some rfl (wk_none (wk_nn (wk_nn (wk_nn (wk_nn wk_nil)))))))))), rfl, rfl⟩
        · refine jc_one (jc1_ite (et_cmp op_eq rd_eqI (ev_conv (ev_callB call_len_seq (rc_len (Vw.vq (Vs.vw vsI))) (by rfl) b_len PySem.boot_len (ea_cons (nm 5 rfl) ea_nil)) (by rw [List.length_map])) ev_int (nomark _)) (fun hc17 => ?_) (fun hc17 => ?_))
          · refine jc_req fun h20 => ?_
            refine jc_set (E := D.int) (v := ((minL ((v_constants.filter (fun _ => true)).map (fun (x18 : Int) => x18))) : Int)) 7 nd (ev_callB (cr_min rfl) (rc_min (Vs.vw vsI) h20) rfl b_min (by decide +kernel) (ea_cons (ev_new (en_lcT (F := D.int) (pr := fun _ => true) (el := fun (x18 : Int) => x18) [("_law_constant", 6)] rfl nd (ei_list (nm 1 rfl) (Vs.vw (vsL w_constants))) (Vs.vw (vsL w_constants)) (blkOk_by (by rfl)) (by rintro _ ⟨s, H, C, cl, fp, rfl⟩; exact (bnm 6 nd)) (by decide) (fun x18 hx19 => ⟨_, rfl, fun X' B' eL hX' => by obtain ⟨s, H, C, cl, fp, rfl⟩ := hX'; exact ets_nil, fun _ X' B' eL hX' => by obtain ⟨s, H, C, cl, fp, rfl⟩ := hX'; exact (ev_callTy call_int1 rc_int (by rfl) b_int (by decide +kernel) (ea_cons (nm 6 rfl) ea_nil))⟩) h8)) ea_nil)) (fun v_least => ?_)
            show JC _ _ _ [some (d_values), some (d_constants), some (.rf q1), some (D.int v_value), some (.rf q4), some (dL D.int v_below), none, some (D.int v_least), none, none] _ _ _
            refine jc_req fun ⟨h24, h25⟩ => ?_
            refine jc_append (E := D.int) (v := (v_least - (((v_once.filter (fun (x21 : Int) => (decide (v_value ≤ x21) && decide (x21 < v_least)))).map (fun (x21 : Int) => x21)).length : Int))) (nm 4 rfl) (.tail _ (.head _)) (ev_op op_sub rd_I0 (nm 7 rfl) (ev_conv (ev_callB call_len_seq (rc_len (Vw.vq (Vs.vw vsI))) (by rfl) b_len PySem.boot_len (ea_cons (ev_new (en_lcT (F := D.int) (pr := fun (x21 : Int) => (decide (v_value ≤ x21) && decide (x21 < v_least))) (el := fun (x21 : Int) => x21) [("_law_one", 9)] rfl nd (ei_list (nm 2 rfl) (Vs.vw (vsM (.head _)))) (Vs.vw (vsM (.head _))) (blkOk_by (by rfl)) (by rintro _ ⟨s, H, C, cl, fp, rfl⟩; exact (bnm 9 nd)) (by decide) (fun x21 hx22 => ⟨_, rfl, fun X' B' eL hX' => by obtain ⟨s, H, C, cl, fp, rfl⟩ := hX'; exact (ets_one (et_chainI op_le op_lt (nm 3 rfl) (nm 9 rfl) (nm 7 rfl))), fun hp23 X' B' eL hX' => by obtain ⟨s, H, C, cl, fp, rfl⟩ := hX'; exact (nm 9 rfl)⟩) h24)) ea_nil)) (by rw [List.length_map]))) (fun _ => .tail (.head)) h25 (fun v_image => ?_)
            exact jc_nil ⟨_, (wk_some rfl (wk_some rfl (wk_some rfl (wk_none (wk_some rfl (wk_none (wk_nn (wk_none (wk_nn (wk_nn wk_nil)))))))))), rfl, rfl⟩
          · refine jc_req fun ⟨h28, h29⟩ => ?_
            refine jc_set (E := D.int) (v := ((maxL ((v_below.filter (fun _ => true)).map (fun (x26 : Int) => x26))) : Int)) 8 nd (ev_callB (cr_max rfl) (rc_max (Vs.vw vsI) h29) rfl b_max (by decide +kernel) (ea_cons (ev_new (en_lcT (F := D.int) (pr := fun _ => true) (el := fun (x26 : Int) => x26) [("_law_constant", 6)] rfl nd (ei_list (nm 5 rfl) (Vs.vw vsI)) (Vs.vw vsI) (blkOk_by (by rfl)) (by rintro _ ⟨s, H, C, cl, fp, rfl⟩; exact (bnm 6 nd)) (by decide) (fun x26 hx27 => ⟨_, rfl, fun X' B' eL hX' => by obtain ⟨s, H, C, cl, fp, rfl⟩ := hX'; exact ets_nil, fun _ X' B' eL hX' => by obtain ⟨s, H, C, cl, fp, rfl⟩ := hX'; exact (ev_callTy call_int1 rc_int (by rfl) b_int (by decide +kernel) (ea_cons (nm 6 rfl) ea_nil))⟩) h28)) ea_nil)) (fun v_most => ?_)
            show JC _ _ _ [some (d_values), some (d_constants), some (.rf q1), some (D.int v_value), some (.rf q4), some (dL D.int v_below), none, none, some (D.int v_most), none] _ _ _
            refine jc_req fun ⟨h33, h34⟩ => ?_
            refine jc_append (E := D.int) (v := (v_most + (((v_once.filter (fun (x30 : Int) => (decide (v_most < x30) && decide (x30 ≤ v_value)))).map (fun (x30 : Int) => x30)).length : Int))) (nm 4 rfl) (.tail _ (.head _)) (ev_op op_add rd_I0 (nm 8 rfl) (ev_conv (ev_callB call_len_seq (rc_len (Vw.vq (Vs.vw vsI))) (by rfl) b_len PySem.boot_len (ea_cons (ev_new (en_lcT (F := D.int) (pr := fun (x30 : Int) => (decide (v_most < x30) && decide (x30 ≤ v_value))) (el := fun (x30 : Int) => x30) [("_law_one", 9)] rfl nd (ei_list (nm 2 rfl) (Vs.vw (vsM (.head _)))) (Vs.vw (vsM (.head _))) (blkOk_by (by rfl)) (by rintro _ ⟨s, H, C, cl, fp, rfl⟩; exact (bnm 9 nd)) (by decide) (fun x30 hx31 => ⟨_, rfl, fun X' B' eL hX' => by obtain ⟨s, H, C, cl, fp, rfl⟩ := hX'; exact (ets_one (et_chainI op_lt op_le (nm 8 rfl) (nm 9 rfl) (nm 3 rfl))), fun hp32 X' B' eL hX' => by obtain ⟨s, H, C, cl, fp, rfl⟩ := hX'; exact (nm 9 rfl)⟩) h33)) ea_nil)) (by rw [List.length_map]))) (fun _ => .tail (.head)) h34 (fun v_image => ?_)
            exact jc_nil ⟨_, (wk_some rfl (wk_some rfl (wk_some rfl (wk_none (wk_some rfl (wk_none (wk_nn (wk_nn (wk_none (wk_nn wk_nil)))))))))), rfl, rfl⟩
    obtain ⟨rfl, rfl⟩ := hst
    show JC _ _ _ [some (d_values), some (d_constants), some (.rf q1), none, some (.rf q4), none, none, none, none, none] _ _ _
    refine jc_drp (.head) ?_
    exact jc_ret (nm 4 rfl) ⟨_, rfl, rfl⟩
def ar_law_is_row (ad : Ads) (L : Om) (ds : List D) (d : D) : Prop := ∃ (v_row : Row), ds = [dRow v_row] ∧ (m_law_is_row v_row).ok ∧ d = D.bl ((m_law_is_row v_row).val)
abbrev s_law_is_row : Stmt := top 21
abbrev N_law_is_row : List Str := ["_law_row", "_law_value"]
theorem sc_law_is_row : FnScope N_law_is_row ["_law_row"] (defScope s_law_is_row) := ⟨rfl, rfl, rfl, by decide +kernel, rfl, by decide +kernel, by decide +kernel⟩
theorem ok_law_is_row {f : Addr} {fd : FuncData} (F : Fun K "_law_is_row" "_law_is_row" s_law_is_row f fd) (b_isinstance : mg "isinstance" = none) (b_tuple : mg "tuple" = none) (b_len : mg "len" = none) (b_int : mg "int" = none) (b_bool : mg "bool" = none) : FnOk P w K mg base CX0 (1) f fd ["_law_row"] (spP K (ar_law_is_row ad)) := by
  refine fn_pureV F sc_law_is_row (fun L ds d h => ?_) (fun cdv A outer s H E B ds d hr h => ?_)
  · obtain ⟨v_row, rfl, _⟩ := h; rfl
  · obtain ⟨v_row, rfl, hok, rfl⟩ := h
    have nd := sc_law_is_row.nd
    refine (show JC _ B (defBody s_law_is_row) [some (dRow v_row), none] [] (aR (rtP D.bl)) (m_law_is_row v_row) from ?_) hok
    unfold m_law_is_row
    refine jc_ifr (et_w (ew_or (et_not (et_of (ev_callB call_isi (rc_isi (c := "tuple") .tup (by rfl)) rfl b_isinstance (by decide +kernel) (ea_cons (nm 0 rfl) (ea_cons (ev_bltn (v := .ty "tuple") (u := .type "tuple") rfl b_tuple (by decide +kernel) rfl (fun _ => .ty _)) ea_nil))))) (fun hb1 => (ew_or1 (et_cmp op_ne rd_neI (ev_callB call_len_seq (rc_len (.inr rfl)) rfl b_len PySem.boot_len (ea_cons (nm 0 rfl) ea_nil)) ev_int (nomark _)))))) (fun hc2 => ?_) (fun hc2 => ?_)
    · exact jc_ret (d := D.bl (false : Bool)) ev_bl (.refl _)
    · refine jc_seqR (st1 := (fun (_ : Unit) (ρ : List (Option D)) (O : Om) => ρ = [some (dRow v_row), none] ∧ O = [])) (sl := fun (_ : Unit) _ _ => False) (ex := fun _ _ _ _ _ _ => False) (jc1_forC (E := D.int) PassesOwn.never rfl (ei_row (nm 0 rfl)) (bnm 1 nd) (fun _ _ _ hst => by obtain ⟨rfl, rfl⟩ := hst; exact trivial) ⟨_, (wk_some rfl (wk_nn wk_nil)), rfl, rfl⟩ (fun v_value _ _ _ hst => ?_)) (fun _ _ _ hst => ?_)
      · obtain ⟨rfl, rfl⟩ := hst
        refine ⟨_, rfl, ?_⟩
        show JC _ _ _ [some (dRow v_row), some (D.int v_value)] _ _ _
        refine jc_one (jc1_ite (et_w (ew_or (et_not (et_of (ev_callB call_isi (rc_isi (c := "int") .int (by rfl)) rfl b_isinstance (by decide +kernel) (ea_cons (nm 1 rfl) (ea_cons (ev_bltn (v := .ty "int") (u := .type "int") rfl b_int (by decide +kernel) rfl (fun _ => .ty _)) ea_nil))))) (fun hb3 => (ew_or1 (et_of (ev_callB call_isi (rc_isi (c := "bool") .int (by rfl)) rfl b_isinstance (by decide +kernel) (ea_cons (nm 1 rfl) (ea_cons (ev_bltn (v := .ty "bool") (u := .type "bool") rfl b_bool (by decide +kernel) rfl (fun _ => .ty _)) ea_nil)))))))) (fun hc4 => ?_) (fun hc4 => ?_))
        · exact jc_ret (d := D.bl (false : Bool)) ev_bl (.refl _)
        · exact jc_nil ⟨_, (wk_some rfl (wk_none wk_nil)), rfl, rfl⟩
      obtain ⟨rfl, rfl⟩ := hst
      show JC _ _ _ [some (dRow v_row), none] _ _ _
      exact jc_ret (d := D.bl (true : Bool)) ev_bl (.refl _)
def ar_law_heavy (ad : Ads) (L : Om) (ds : List D) (d : D) : Prop := ∃ (v_one : Int) (v_two : Int), ds = [D.int v_one, D.int v_two] ∧ (m_law_heavy v_one v_two).ok ∧ d = dP2 D.str (dL (dP2 D.str D.int)) ((m_law_heavy v_one v_two).val)
abbrev s_law_heavy : Stmt := top 22
abbrev N_law_heavy : List Str := ["_law_one", "_law_two", "_law_letters", "_law_many", "_law_marks", "_law_k", "_law_constant"]
theorem sc_law_heavy : FnScope N_law_heavy ["_law_one", "_law_two"] (defScope s_law_heavy) := ⟨rfl, rfl, rfl, by decide +kernel, rfl, by decide +kernel, by decide +kernel⟩
theorem ok_law_heavy {f : Addr} {fd : FuncData} (F : Fun K "_law_heavy" "_law_heavy" s_law_heavy f fd) (b_int : mg "int" = none) (b_len : mg "len" = none) (b_range : mg "range" = none) : FnOk P w K mg base CX0 (1) f fd ["_law_one", "_law_two"] (spP K (ar_law_heavy ad)) := by
  refine fn_pureV F sc_law_heavy (fun L ds d h => ?_) (fun cdv A outer s H E B ds d hr h => ?_)
  · obtain ⟨v_one, v_two, rfl, _⟩ := h; rfl
  · obtain ⟨v_one, v_two, rfl, hok, rfl⟩ := h
    have nd := sc_law_heavy.nd
    refine (show JC _ B (defBody s_law_heavy) [some (D.int v_one), some (D.int v_two), none, none, none, none, none] [] (aR (rtP (dP2 D.str (dL (dP2 D.str D.int))))) (m_law_heavy v_one v_two) from ?_) hok
    unfold m_law_heavy
    refine jc_set (E := D.str) (v := ((ixL ([(Str.ofString "a"), (Str.ofString "b"), (Str.ofString "c"), (Str.ofString "ab"), (Str.ofString "ac"), (Str.ofString "bc"), (Str.ofString "abc")] : List Str) (v_one % (7 : Int))) : Str)) 2 nd (ev_ixL (ev_new (en_lst (ea_cons ev_str (ea_cons ev_str (ea_cons ev_str (ea_cons ev_str (ea_cons ev_str (ea_cons ev_str (ea_cons ev_str ea_nil))))))) (by show 7 ≤ sizeLine; decide))) (ev_op op_mod (rd_I (by decide)) (ev_callTy call_int1 rc_int (by rfl) b_int (by decide +kernel) (ea_cons (nm 0 rfl) ea_nil)) ev_int) (Vs.vw vsI) (atG (xs := ([(Str.ofString "a"), (Str.ofString "b"), (Str.ofString "c"), (Str.ofString "ab"), (Str.ofString "ac"), (Str.ofString "bc"), (Str.ofString "abc")] : List Str)) (E := D.str) (mod_ix (k := 7) (by decide) (by decide)))) (fun v_letters => ?_)
    show JC _ _ _ [some (D.int v_one), some (D.int v_two), some (D.str v_letters), none, none, none, none] _ _ _
    refine jc_req fun h1 => ?_
    refine jc_set (E := D.int) (v := ((v_letters.length : Int) : Int)) 3 nd (ev_callB call_len_str (rc_lenS h1) rfl b_len PySem.boot_len (ea_cons (nm 2 rfl) ea_nil)) (fun v_many => ?_)
    show JC _ _ _ [some (D.int v_one), some (D.int v_two), some (D.str v_letters), some (D.int v_many), none, none, none] _ _ _
    refine jc_setN (E := dP2 D.str D.int) 4 nd (en_lst ea_nil (by show 0 ≤ sizeLine; decide)) (fun q2 v_marks _ => ?_)
    show JC _ _ _ [some (D.int v_one), some (D.int v_two), some (D.str v_letters), some (D.int v_many), some (.rf q2), none, none] _ _ _
    refine jc_req fun h3 => ?_
    refine jc_seqN (st1 := (fun (v_marks : (List (Str × Int))) (ρ : List (Option D)) (O : Om) => ρ = [some (D.int v_one), some (D.int v_two), some (D.str v_letters), some (D.int v_many), some (.rf q2), none, none] ∧ O = [(q2, M.lst (v_marks.map (dP2 D.str D.int)))])) (jc1_for (E := D.int) PassesOwn.never rfl (ei_rng1 (by rfl) b_range (ea_cons (ev_op op_add rd_I0 (ev_op op_sub rd_I0 ev_int (nm 3 rfl)) (ev_op op_mod (rd_I (by decide)) (ev_callTy call_int1 rc_int (by rfl) b_int (by decide +kernel) (ea_cons (nm 1 rfl) ea_nil)) ev_int)) ea_nil) h3) (bnm 5 nd) (fun v_marks _ _ hst => by obtain ⟨rfl, rfl⟩ := hst; exact trivial) ⟨_, (wk_some rfl (wk_some rfl (wk_some rfl (wk_some rfl (wk_some rfl (wk_nn (wk_nn wk_nil))))))), rfl, rfl⟩ (fun v_k v_marks _ _ hst => ?_)) (fun v_marks _ _ hst => ?_)
    · obtain ⟨rfl, rfl⟩ := hst
      refine ⟨_, rfl, ?_⟩
      show JC _ _ _ [some (D.int v_one), some (D.int v_two), some (D.str v_letters), some (D.int v_many), some (.rf q2), some (D.int v_k), none] _ _ _
      refine jc_req fun h4 => ?_
      refine jc_set (E := D.int) (v := (((((10 : Int) * (v_k / v_many)) + ((v_two / (3 : Int)) % (5 : Int))) - (2 : Int)) : Int)) 6 nd (ev_op op_sub rd_I0 (ev_op op_add rd_I0 (ev_op op_mul (rd_I (.inl ⟨by decide, by decide⟩)) ev_int (ev_op op_fdiv (rd_I h4) (nm 5 rfl) (nm 3 rfl))) (ev_op op_mod (rd_I (by decide)) (ev_op op_fdiv (rd_I ⟨by decide, by decide⟩) (nm 1 rfl) ev_int) ev_int)) ev_int) (fun v_constant => ?_)
      show JC _ _ _ [some (D.int v_one), some (D.int v_two), some (D.str v_letters), some (D.int v_many), some (.rf q2), some (D.int v_k), some (D.int v_constant)] _ _ _
      refine jc_req fun ⟨h5, h6, h7⟩ => ?_
      refine jc_append (E := dP2 D.str D.int) (v := ((cS (ixS v_letters (v_k % v_many))), v_constant)) (nm 4 rfl) (.head _) (ev_tup (ea_cons (ev_ixS (nm 2 rfl) (ev_op op_mod (rd_I h5) (ev_callTy call_int1 rc_int (by rfl) b_int (by decide +kernel) (ea_cons (nm 5 rfl) ea_nil)) (nm 3 rfl)) h1 (atS2 h6)) (ea_cons (nm 6 rfl) ea_nil)) (by show 2 ≤ sizeLine; decide)) (fun _ => .head) h7 (fun v_marks => ?_)
      exact jc_nil ⟨_, (wk_some rfl (wk_some rfl (wk_some rfl (wk_some rfl (wk_some rfl (wk_none (wk_none wk_nil))))))), rfl, rfl⟩
    obtain ⟨rfl, rfl⟩ := hst
    show JC _ _ _ [some (D.int v_one), some (D.int v_two), some (D.str v_letters), some (D.int v_many), some (.rf q2), none, none] _ _ _
    refine jc_frz 4 (.head) rfl ?_
    show JC _ _ _ [some (D.int v_one), some (D.int v_two), some (D.str v_letters), some (D.int v_many), some (dL (dP2 D.str D.int) v_marks), none, none] _ _ _
    exact jc_ret (d := dP2 D.str (dL (dP2 D.str D.int)) ((v_letters, v_marks) : Str × (List (Str × Int)))) (ev_tup (ea_cons (nm 2 rfl) (ea_cons (nm 4 rfl) ea_nil)) (by show 2 ≤ sizeLine; decide)) (.refl _)
def ar_law_fine (ad : Ads) (L : Om) (ds : List D) (d : D) : Prop := ∃ (d_table : D) (v_table : List Row) (v_columns_here : Str) (d_marks : D) (v_marks : List (Str × Int)), ds = [d_table, D.str v_columns_here, d_marks] ∧ Vs L d_table (v_table.map dRow) ∧ Vs L d_marks (v_marks.map (dP2 D.str D.int)) ∧ (m_law_fine v_table v_columns_here v_marks).ok ∧ d = D.bl ((m_law_fine v_table v_columns_here v_marks).val)
abbrev s_law_fine : Stmt := top 23
abbrev N_law_fine : List Str := ["_law_table", "_law_columns_here", "_law_marks", "_law_row", "_law_k", "_law_at", "_law_values", "_law_constants", "_law_mark"]
theorem sc_law_fine : FnScope N_law_fine ["_law_table", "_law_columns_here", "_law_marks"] (defScope s_law_fine) := ⟨rfl, rfl, rfl, by decide +kernel, rfl, by decide +kernel, by decide +kernel⟩
theorem ok_law_fine {f : Addr} {fd : FuncData} (F : Fun K "_law_fine" "_law_fine" s_law_fine f fd) (b_isinstance : mg "isinstance" = none) (b_list : mg "list" = none) (b_len : mg "len" = none) (c_law_is_row : Cal P w K mg base CX0 1 "_law_is_row" (spP K (ar_law_is_row ad))) (b_range : mg "range" = none) (c_law_pack : Cal P w K mg base CX0 1 "_law_pack" (spN K (ar_law_pack ad))) : FnOk P w K mg base CX0 (2) f fd ["_law_table", "_law_columns_here", "_law_marks"] (spP K (ar_law_fine ad)) := by
  refine fn_pureV F sc_law_fine (fun L ds d h => ?_) (fun cdv A outer s H E B ds d hr h => ?_)
  · obtain ⟨d_table, v_table, v_columns_here, d_marks, v_marks, rfl, _⟩ := h; rfl
  · obtain ⟨d_table, v_table, v_columns_here, d_marks, v_marks, rfl, w_table, w_marks, hok, rfl⟩ := h
    have nd := sc_law_fine.nd
    refine (show JC _ B (defBody s_law_fine) [some (d_table), some (D.str v_columns_here), some (d_marks), none, none, none, none, none, none] [] (aR (rtP D.bl)) (m_law_fine v_table v_columns_here v_marks) from ?_) hok
    unfold m_law_fine
    refine jc_ifr (et_w (ew_or (et_not (et_of (ev_callB call_isi (rc_isi (c := "list") (dt_vs (vsL w_table)) (by rfl)) rfl b_isinstance (by decide +kernel) (ea_cons (nm 0 rfl) (ea_cons (ev_bltn (v := .ty "list") (u := .type "list") rfl b_list (by decide +kernel) rfl (fun _ => .ty _)) ea_nil))))) (fun hb1 => (ew_or (et_cmp op_lt rd_B0 (ev_conv (ev_callB call_len_seq (rc_len (Vw.vq (Vs.vw (vsL w_table)))) (by rfl) b_len PySem.boot_len (ea_cons (nm 0 rfl) ea_nil)) (by rw [List.length_map])) ev_int (nomark _)) (fun hb2 => (ew_or1 (et_cmp op_gt rd_B0 (ev_conv (ev_callB call_len_seq (rc_len (Vw.vq (Vs.vw (vsL w_table)))) (by rfl) b_len PySem.boot_len (ea_cons (nm 0 rfl) ea_nil)) (by rw [List.length_map])) ev_int (nomark _)))))))) (fun hc3 => ?_) (fun hc3 => ?_)
    · exact jc_ret (d := D.bl (false : Bool)) ev_bl (.refl _)
    · refine jc_seqR (st1 := (fun (_ : Unit) (ρ : List (Option D)) (O : Om) => ρ = [some (d_table), some (D.str v_columns_here), some (d_marks), none, none, none, none, none, none] ∧ O = [])) (sl := fun (_ : Unit) _ _ => False) (ex := fun _ _ _ _ _ _ => False) (jc1_forC (E := dRow) PassesOwn.never rfl (ei_list (nm 0 rfl) (Vs.vw (vsL w_table))) (bnm 3 nd) (fun _ _ _ hst => by obtain ⟨rfl, rfl⟩ := hst; exact (Vs.vw (vsL w_table))) ⟨_, (wk_some rfl (wk_some rfl (wk_some rfl (wk_nn (wk_nn (wk_nn (wk_nn (wk_nn (wk_nn wk_nil))))))))), rfl, rfl⟩ (fun v_row _ _ _ hst => ?_)) (fun _ _ _ hst => ?_)
      · obtain ⟨rfl, rfl⟩ := hst
        refine ⟨_, rfl, ?_⟩
        show JC _ _ _ [some (d_table), some (D.str v_columns_here), some (d_marks), some (dRow v_row), none, none, none, none, none] _ _ _
        refine jc_req fun h4 => ?_
        refine jc_one (jc1_ite (et_not (et_of (ev_call c_law_is_row (hr.mono (by first | decide | omega)) rfl (ea_cons (nm 3 rfl) ea_nil) (by exact ⟨v_row, rfl, h4, rfl⟩)))) (fun hc5 => ?_) (fun hc5 => ?_))
        · exact jc_ret (d := D.bl (false : Bool)) ev_bl (.refl _)
        · exact jc_nil ⟨_, (wk_some rfl (wk_some rfl (wk_some rfl (wk_none (wk_nn (wk_nn (wk_nn (wk_nn (wk_nn wk_nil))))))))), rfl, rfl⟩
      obtain ⟨rfl, rfl⟩ := hst
      show JC _ _ _ [some (d_table), some (D.str v_columns_here), some (d_marks), none, none, none, none, none, none] _ _ _
      refine jc_req fun h6 => ?_
      refine jc_seqR (st1 := (fun (_ : Unit) (ρ : List (Option D)) (O : Om) => ρ = [some (d_table), some (D.str v_columns_here), some (d_marks), none, none, none, none, none, none] ∧ O = [])) (sl := fun (_ : Unit) _ _ => False) (ex := fun _ _ _ _ _ _ => False) (jc1_forC (E := D.int) PassesOwn.never rfl (ei_rng2 (by rfl) b_range (ea_cons ev_int (ea_cons (ev_conv (ev_callB call_len_seq (rc_len (Vw.vq (Vs.vw (vsL w_table)))) (by rfl) b_len PySem.boot_len (ea_cons (nm 0 rfl) ea_nil)) (by rw [List.length_map])) ea_nil)) h6) (bnm 4 nd) (fun _ _ _ hst => by obtain ⟨rfl, rfl⟩ := hst; exact trivial) ⟨_, (wk_some rfl (wk_some rfl (wk_some rfl (wk_nn (wk_nn (wk_nn (wk_nn (wk_nn (wk_nn wk_nil))))))))), rfl, rfl⟩ (fun v_k _ _ _ hst => ?_)) (fun _ _ _ hst => ?_)
      · obtain ⟨rfl, rfl⟩ := hst
        refine ⟨_, rfl, ?_⟩
        show JC _ _ _ [some (d_table), some (D.str v_columns_here), some (d_marks), none, some (D.int v_k), none, none, none, none] _ _ _
        refine jc_req fun ⟨h7, h8⟩ => ?_
        refine jc_one (jc1_ite (et_not (et_cmp (op_ltD (un65 hr)) (rd_ltD (x := (ixL v_table (v_k - (1 : Int)))) (y := (ixL v_table v_k)) LtOk.row (by decide) vdI vdI) (ev_ixL (nm 0 rfl) (ev_op op_sub rd_I0 (nm 4 rfl) ev_int) (Vs.vw (vsL w_table)) (atG (E := dRow) h7)) (ev_ixL (nm 0 rfl) (nm 4 rfl) (Vs.vw (vsL w_table)) (atG (E := dRow) h8)) (nomark _))) (fun hc9 => ?_) (fun hc9 => ?_))
        · exact jc_ret (d := D.bl (false : Bool)) ev_bl (.refl _)
        · exact jc_nil ⟨_, (wk_some rfl (wk_some rfl (wk_some rfl (wk_nn (wk_none (wk_nn (wk_nn (wk_nn (wk_nn wk_nil))))))))), rfl, rfl⟩
      obtain ⟨rfl, rfl⟩ := hst
      show JC _ _ _ [some (d_table), some (D.str v_columns_here), some (d_marks), none, none, none, none, none, none] _ _ _
      refine jc_seqR (st1 := (fun (_ : Unit) (ρ : List (Option D)) (O : Om) => ρ = [some (d_table), some (D.str v_columns_here), some (d_marks), none, none, none, none, none, none] ∧ O = [])) (sl := fun (_ : Unit) _ _ => False) (ex := fun _ _ _ _ _ _ => False) (jc1_forC (E := D.int) PassesOwn.never rfl (ei_rng1 (by rfl) b_range (ea_cons ev_int ea_nil) ⟨by decide, by decide⟩) (bnm 5 nd) (fun _ _ _ hst => by obtain ⟨rfl, rfl⟩ := hst; exact trivial) ⟨_, (wk_some rfl (wk_some rfl (wk_some rfl (wk_nn (wk_nn (wk_nn (wk_nn (wk_nn (wk_nn wk_nil))))))))), rfl, rfl⟩ (fun v_at _ _ _ hst => ?_)) (fun _ _ _ hst => ?_)
      · obtain ⟨rfl, rfl⟩ := hst
        refine ⟨_, rfl, ?_⟩
        show JC _ _ _ [some (d_table), some (D.str v_columns_here), some (d_marks), none, none, some (D.int v_at), none, none, none] _ _ _
        refine jc_req fun ⟨h12, h13⟩ => ?_
        refine jc_setLc (F := D.int) (pr := fun _ => true) (el := fun (x10 : Row) => (rowAt x10 v_at)) [("_law_row", 3)] rfl nd (ei_list (nm 0 rfl) (Vs.vw (vsL w_table))) (Vs.vw (vsL w_table)) (blkOk_by (by rfl)) (by rintro _ ⟨s, H, C, cl, fp, rfl⟩; exact (bnm 3 nd)) (by decide) (fun x10 hx11 => ⟨_, rfl, fun X' B' eL hX' => by obtain ⟨s, H, C, cl, fp, rfl⟩ := hX'; exact ets_nil, fun _ X' B' eL hX' => by obtain ⟨s, H, C, cl, fp, rfl⟩ := hX'; exact (ev_ixT (nm 3 rfl) (nm 5 rfl) (atRow (h12 x10 hx11)))⟩) h13 6 rfl rfl rfl (fun v_values => ?_)
        show JC _ _ _ [some (d_table), some (D.str v_columns_here), some (d_marks), none, none, some (D.int v_at), some (dL D.int v_values), none, none] _ _ _
        refine jc_req fun ⟨h16, h18⟩ => ?_
        refine jc_setLc (F := D.int) (pr := fun (x14 : (Str × Int)) => (decide (x14.1 = (cS (ixS (Str.ofString "abc") v_at))))) (el := fun (x14 : (Str × Int)) => x14.2) [("_law_mark", 8)] rfl nd (ei_list (nm 2 rfl) (Vs.vw (vsL w_marks))) (Vs.vw (vsL w_marks)) (blkOk_by (by rfl)) (by rintro _ ⟨s, H, C, cl, fp, rfl⟩; exact (bnm 8 nd)) (by decide) (fun x14 hx15 => ⟨_, rfl, fun X' B' eL hX' => by obtain ⟨s, H, C, cl, fp, rfl⟩ := hX'; exact (ets_one (et_cmp op_eq rd_eqS (ev_ixT (nm 8 rfl) ev_int (by rfl)) (ev_ixS ev_str (nm 5 rfl) (by decide) (atS2 (h16 x14 hx15))) (nomark _))), fun hp17 X' B' eL hX' => by obtain ⟨s, H, C, cl, fp, rfl⟩ := hX'; exact (ev_ixT (nm 8 rfl) ev_int (by rfl))⟩) h18 7 rfl rfl rfl (fun v_constants => ?_)
        show JC _ _ _ [some (d_table), some (D.str v_columns_here), some (d_marks), none, none, some (D.int v_at), some (dL D.int v_values), some (dL D.int v_constants), none] _ _ _
        refine jc_req fun ⟨h19, h21, h22⟩ => ?_
        refine jc_ifr (et_w (ew_and (et_cmp op_notIn_sign rd_notinC (ev_ixS ev_str (nm 5 rfl) (by decide) (atS2 h19)) (nm 1 rfl) (by rfl)) (fun hb20 => (ew_and1 (et_cmp (op_neD hr.units) (rd_neD (x := v_values) (y := (List.replicate (v_table.length : Int).toNat [(0 : Int)]).flatten) (EqOk.lst EqOk.int) (by decide) vdI vdI (fun y _ => trivial) (fun y _ => trivial)) (nm 6 rfl) (ev_new (en_rep (E := D.int) (xs := [(0 : Int)]) (ev_new (en_lst (ea_cons ev_int ea_nil) (by show 1 ≤ sizeLine; decide))) (ev_conv (ev_callB call_len_seq (rc_len (Vw.vq (Vs.vw (vsL w_table)))) (by rfl) b_len PySem.boot_len (ea_cons (nm 0 rfl) ea_nil)) (by rw [List.length_map])) vsI (h21 hb20) (h22 hb20))) (nomark _)))))) (fun hc23 => ?_) (fun hc23 => ?_)
        · exact jc_ret (d := D.bl (false : Bool)) ev_bl (.refl _)
        · refine jc_req fun h25 => ?_
          refine jc_one (jc1_ite (et_w (ew_and (et_cmp op_in_sign rd_inC (ev_ixS ev_str (nm 5 rfl) (by decide) (atS2 h19)) (nm 1 rfl) (by rfl)) (fun hb24 => (ew_and1 (et_cmp (op_neD hr.units) (rd_neD (x := v_values) (y := (m_law_pack v_values v_constants).val) (EqOk.lst EqOk.int) (by decide) vdI vdI (fun y _ => trivial) (fun y _ => trivial)) (nm 6 rfl) (ev_new (en_call c_law_pack (hr.mono (by first | decide | omega)) (by rfl) (ea_cons (nm 6 rfl) (ea_cons (nm 7 rfl) ea_nil)) (by exact ⟨_, v_values, _, v_constants, rfl, vsI, vsI, (h25 hb24), rfl⟩))) (nomark _)))))) (fun hc26 => ?_) (fun hc26 => ?_))
          · exact jc_ret (d := D.bl (false : Bool)) ev_bl (.refl _)
          · exact jc_nil ⟨_, (wk_some rfl (wk_some rfl (wk_some rfl (wk_nn (wk_nn (wk_none (wk_none (wk_none (wk_nn wk_nil))))))))), rfl, rfl⟩
      obtain ⟨rfl, rfl⟩ := hst
      show JC _ _ _ [some (d_table), some (D.str v_columns_here), some (d_marks), none, none, none, none, none, none] _ _ _
      exact jc_ret (d := D.bl (true : Bool)) ev_bl (.refl _)
def ar_law_told (ad : Ads) (L : Om) (ds : List D) (es : List D) : Prop := ∃ (v_columns_here : Str) (v_marks : List (Str × Int)), ds = [D.str v_columns_here, dL (dP2 D.str D.int) v_marks] ∧ (m_law_told v_columns_here v_marks).ok ∧ es = (m_law_told v_columns_here v_marks).val.map (dL dRow)
abbrev s_law_told : Stmt := top 24
abbrev N_law_told : List Str := ["_law_columns_here", "_law_marks", "_law_tables", "_law_given", "_law_table", "_law_last", "_law_k"]
theorem sc_law_told : FnScope N_law_told ["_law_columns_here", "_law_marks"] (defScope s_law_told) := ⟨rfl, rfl, rfl, by decide +kernel, rfl, by decide +kernel, by decide +kernel⟩
theorem ok_law_told {f : Addr} {fd : FuncData} (F : Fun K "_law_told" "_law_told" s_law_told f fd) (cn_packed_a : CalN P w K mg base 4 "packed" (ar_packed_a ad)) (b_len : mg "len" = none) (c_law_fine : Cal P w K mg base CX0 2 "_law_fine" (spP K (ar_law_fine ad))) (b_list : mg "list" = none) (b_range : mg "range" = none) : FnOk P w K mg base CX0 (8) f fd ["_law_columns_here", "_law_marks"] (spN K (ar_law_told ad)) := by
  refine fn_newV F sc_law_told (fun L ds d h => ?_) (fun cdv A outer s H E B ds d hr h => ?_)
  · obtain ⟨v_columns_here, v_marks, rfl, _⟩ := h; rfl
  · obtain ⟨v_columns_here, v_marks, rfl, hok, rfl⟩ := h
    have nd := sc_law_told.nd
    refine (show JC _ B (defBody s_law_told) [some (D.str v_columns_here), some (dL (dP2 D.str D.int) v_marks), none, none, none, none, none] [] (aR (rtN (dL dRow))) (m_law_told v_columns_here v_marks) from ?_) hok
    unfold m_law_told
    refine jc_setN (E := dL dRow) 2 nd (en_lst ea_nil (by show 0 ≤ sizeLine; decide)) (fun q1 v_tables _ => ?_)
    show JC _ _ _ [some (D.str v_columns_here), some (dL (dP2 D.str D.int) v_marks), some (.rf q1), none, none, none, none] _ _ _
    refine jc_setQ 3 nd (en_lst ea_nil (by show 0 ≤ sizeLine; decide)) (fun q2 _ => ?_)
    show JC _ _ _ [some (D.str v_columns_here), some (dL (dP2 D.str D.int) v_marks), some (.rf q1), some (.rf q2), none, none, none] _ _ _
    refine jc_req fun ⟨h3, h4⟩ => ?_
    refine jc_forZ (E := rwE) (st := (fun (v_tables : (List (List Row))) (as_ : List Addr) (ρ : List (Option D)) (O : Om) => ρ = [some (D.str v_columns_here), some (dL (dP2 D.str D.int) v_marks), some (.rf q1), some (.rf q2), none, none, none] ∧ O = [(q2, M.lst (as_.map D.rf)), (q1, M.lst (v_tables.map (dL dRow)))])) 4 nd (fun _ _ z => z) rfl (egz_call cn_packed_a (hr.mono (by first | decide | omega)) rfl (ea_cons (nm 0 rfl) (ea_cons (nm 1 rfl) ea_nil)) (argOks_sm _ _) (by exact ⟨v_columns_here, _, v_marks, rfl, vsN, h3, (rw_lst _).symm⟩)) (hr.mono (by first | decide | omega)) (tabs_row h4) ⟨_, (wk_some rfl (wk_some rfl (wk_some rfl (wk_some rfl (wk_nn (wk_nn (wk_nn wk_nil))))))), rfl, rfl⟩ (fun B eW_ v_table v_tables as_ a_ _ _ hy_ eL_ hL_ hst => ?_) (fun v_tables as_ _ _ hlen_ hst => ?_)
    · obtain ⟨rfl, rfl⟩ := hst
      have w_table_ : Vs B.L (.rf a_) (v_table.map dRow) := .inr ⟨a_, rfl, hL_⟩
      have hz_ := keep_lt hy_ h4
      show JC _ _ _ [some (D.str v_columns_here), some (dL (dP2 D.str D.int) v_marks), some (.rf q1), some (.rf q2), some (.rf a_), none, none] _ _ _
      refine jc_req fun h6 => ?_
      refine jc_ifr (et_w (ew_or (et_cmp op_gt rd_B0 (ev_conv (ev_callB call_len_seq (rc_len (Vw.vq (Vs.vw (vsM (.tail _ (.head _)))))) (by rfl) b_len PySem.boot_len (ea_cons (nm 2 rfl) ea_nil)) (by rw [List.length_map])) ev_int (nomark _)) (fun hb5 => (ew_or1 (et_not (et_of (ev_call c_law_fine (hr.mono (by first | decide | omega)) rfl (ea_cons (nm 4 rfl) (ea_cons (nm 0 rfl) (ea_cons (nm 1 rfl) ea_nil))) (by exact ⟨_, v_table, v_columns_here, _, v_marks, rfl, (vsL w_table_), vsI, (h6 hb5), rfl⟩)))))))) (fun hc7 => ?_) (fun hc7 => ?_)
      · refine jc_drp (.head) ?_
        refine jc_drp (.head) ?_
        exact jc_retEN (E := dL dRow) (v := ([] : List (List Row))) (en_lst ea_nil (by show 0 ≤ sizeLine; decide)) (fun q => ⟨q, rfl, rfl⟩)
      · refine jc_seqC (st1 := (fun (_ : Unit) (ρ : List (Option D)) (O : Om) => ρ = [some (D.str v_columns_here), some (dL (dP2 D.str D.int) v_marks), some (.rf q1), some (.rf q2), some (.rf a_), none, none] ∧ O = [(q2, M.lst (as_.map D.rf)), (q1, M.lst (v_tables.map (dL dRow)))])) (jc1_ite (et_cmp op_gt rd_B0 (ev_conv (ev_callB call_len_seq (rc_len (Vw.vq (Vs.vw (vsM (.tail _ (.head _)))))) (by rfl) b_len PySem.boot_len (ea_cons (nm 2 rfl) ea_nil)) (by rw [List.length_map])) ev_int (nomark _)) (fun hc8 => ?_) (fun hc8 => ?_)) (fun _ _ _ hst => ?_)
        · refine jc_req fun h9 => ?_
          refine jc_set (E := dL dRow) (v := ((lastL v_tables) : List Row)) 5 nd (ev_ixL (nm 2 rfl) (ev_neg ev_int) (Vs.vw (vsM (.tail _ (.head _)))) (atLast (E := dL dRow) h9)) (fun v_last => ?_)
          show JC _ _ _ [some (D.str v_columns_here), some (dL (dP2 D.str D.int) v_marks), some (.rf q1), some (.rf q2), some (.rf a_), some (dL dRow v_last), none] _ _ _
          refine jc_one (jc1_ite (et_w (ew_or (et_cmp op_gt rd_B0 (ev_conv (ev_callB call_len_seq (rc_len (Vw.vq (Vs.vw vsI))) (by rfl) b_len PySem.boot_len (ea_cons (nm 5 rfl) ea_nil)) (by rw [List.length_map])) (ev_conv (ev_callB call_len_seq (rc_len (Vw.vq (Vs.vw (vsL w_table_)))) (by rfl) b_len PySem.boot_len (ea_cons (nm 4 rfl) ea_nil)) (by rw [List.length_map])) (nomark _)) (fun hb10 => (ew_or1 (et_w (ew_and (et_cmp op_eq rd_eqI (ev_conv (ev_callB call_len_seq (rc_len (Vw.vq (Vs.vw vsI))) (by rfl) b_len PySem.boot_len (ea_cons (nm 5 rfl) ea_nil)) (by rw [List.length_map])) (ev_conv (ev_callB call_len_seq (rc_len (Vw.vq (Vs.vw (vsL w_table_)))) (by rfl) b_len PySem.boot_len (ea_cons (nm 4 rfl) ea_nil)) (by rw [List.length_map])) (nomark _)) (fun hb11 => (ew_and1 (et_not (et_cmp (op_ltD (un65 hr)) (rd_ltD (x := v_last) (y := v_table) LtOk.rows (by decide) vdI (vdL w_table_)) (nm 5 rfl) (nm 4 rfl) (nomark _))))))))))) (fun hc12 => ?_) (fun hc12 => ?_))
          · refine jc_drp (.head) ?_
            refine jc_drp (.head) ?_
            exact jc_retEN (E := dL dRow) (v := ([] : List (List Row))) (en_lst ea_nil (by show 0 ≤ sizeLine; decide)) (fun q => ⟨q, rfl, rfl⟩)
          · exact jc_nil ⟨_, (wk_some rfl (wk_some rfl (wk_some rfl (wk_some rfl (wk_some rfl (wk_none (wk_nn wk_nil))))))), rfl, rfl⟩
        · exact jc_nil ⟨_, (wk_some rfl (wk_some rfl (wk_some rfl (wk_some rfl (wk_some rfl (wk_nn (wk_nn wk_nil))))))), rfl, rfl⟩
        obtain ⟨rfl, rfl⟩ := hst
        show JC _ _ _ [some (D.str v_columns_here), some (dL (dP2 D.str D.int) v_marks), some (.rf q1), some (.rf q2), some (.rf a_), none, none] _ _ _
        refine jc_req fun h13 => ?_
        refine jc_append (E := dL dRow) (v := v_table) (nm 2 rfl) (.tail _ (.head _)) (ev_new (en_callTy call_list_of (rcn_list (Vw.vq (Vs.vw (vsL w_table_)))) rfl b_list (by decide +kernel) (ea_cons (nm 4 rfl) ea_nil))) (fun _ => .tail (.head)) h13 (fun v_tables => ?_)
        refine jc_appQ (nm 3 rfl) (.head _) (nm 4 rfl) (.head) hz_ ?_
        exact jc_nil ⟨_, (wk_some rfl (wk_some rfl (wk_some rfl (wk_some rfl (wk_none (wk_nn (wk_nn wk_nil))))))), rfl, rfl⟩
    obtain ⟨rfl, rfl⟩ := hst
    refine jzc_ifr hlen_ (et_cmp (op_neD hr.units) (rd_neD (x := (m_packed_a v_columns_here v_marks).val) (y := v_tables) (EqOk.lst (EqOk.lst EqOk.row)) (by decide) (vdM (.head _)) (vdM (.tail _ (.head _))) (fun y _ => (okRs _)) (fun y _ => (okRs _))) (nm 3 rfl) (nm 2 rfl) (nomark _)) (fun hc14 => ?_) (fun hc14 => ?_)
    · refine jc_drp (.head) ?_
      refine jc_drp (.head) ?_
      exact jc_retEN (E := dL dRow) (v := ([] : List (List Row))) (en_lst ea_nil (by show 0 ≤ sizeLine; decide)) (fun q => ⟨q, rfl, rfl⟩)
    refine jzc_mut hlen_ h4 6 nd PassesOwn.never rfl (fun cs_ => by exact ei_range1 (n := (as_.length : Int)) (by rfl) b_range (ea_cons (ev_conv (ev_callB call_len_seq (rc_len (Vw.vq (Vs.vw (vsM (.head _))))) (by rfl) b_len PySem.boot_len (ea_cons (nm 3 rfl) ea_nil)) (by rw [List.length_map])) ea_nil) (keep_bd hlen_ h4)) (fun _ => by trivial) rfl (fun _ _ => by exact nm 3 rfl) (fun _ _ => by exact nm 6 rfl) (fun _ _ => by exact (ev_tup (ea_cons ev_int (ea_cons ev_int (ea_cons ev_int ea_nil))) (by show 3 ≤ sizeLine; decide))) ?_
    refine jc_drp (.head) ?_
    exact jc_ret (nm 2 rfl) ⟨_, rfl, rfl⟩
def ar_law_refused (ad : Ads) (L : Om) (ds : List D) (d : D) : Prop := ∃ (v_columns_here : Str) (d_marks : D) (v_marks : List (Str × Int)), ds = [D.str v_columns_here, d_marks] ∧ Vs L d_marks (v_marks.map (dP2 D.str D.int)) ∧ (m_law_refused v_columns_here v_marks).ok ∧ d = D.int ((m_law_refused v_columns_here v_marks).val)
abbrev s_law_refused : Stmt := top 25
abbrev N_law_refused : List Str := ["_law_columns_here", "_law_marks", "e", "_law_table"]
theorem sc_law_refused : FnScope N_law_refused ["_law_columns_here", "_law_marks"] (defScope s_law_refused) := ⟨rfl, rfl, rfl, by decide +kernel, rfl, by decide +kernel, by decide +kernel⟩
theorem ok_law_refused {f : Addr} {fd : FuncData} (F : Fun K "_law_refused" "_law_refused" s_law_refused f fd) (ns_TooHeavy : PySem.W.subIn K (.ref ad.CTooHeavy) (.type "StopIteration") = some false) (cg_packed : CalGX P w K mg base 4 "packed" (spFX K (ax_packed ad))) (e_TooHeavy : PySem.ErX.ErrT P K mg ad.CTooHeavy ad.f_TooHeavy___init__ "weight") (g_TooHeavy : mg "TooHeavy" = some (.ref ad.CTooHeavy)) (xm_TooHeavy : PySem.W.exmOne K (.ref ad.CTooHeavy) (.ref ad.CTooHeavy) = some true) (xc_TooHeavy : ExcC K ad.CTooHeavy) (g_BadKey : mg "BadKey" = some (.ref ad.CBadKey)) (kt_TooHeavy_BadKey : PySem.W.kitOne K (.ref ad.CTooHeavy) (.ref ad.CBadKey) = some false) (b_isinstance : mg "isinstance" = none) (g_TableError : mg "TableError" = some (.ref ad.CTableError)) (kt_TooHeavy_TableError : PySem.W.kitOne K (.ref ad.CTooHeavy) (.ref ad.CTableError) = some true) (b_ValueError : mg "ValueError" = none) (kt_TooHeavy_ValueError : PySem.W.kitOne K (.ref ad.CTooHeavy) (.type "ValueError") = some true) : FnOk P w K mg base CX0 (8) f fd ["_law_columns_here", "_law_marks"] (spP K (ar_law_refused ad)) := by
  refine fn_pureV F sc_law_refused (fun L ds d h => ?_) (fun cdv A outer s H E B ds d hr h => ?_)
  · obtain ⟨v_columns_here, d_marks, v_marks, rfl, _⟩ := h; rfl
  · obtain ⟨v_columns_here, d_marks, v_marks, rfl, w_marks, hok, rfl⟩ := h
    have nd := sc_law_refused.nd
    refine (show JC _ B (defBody s_law_refused) [some (D.str v_columns_here), some (d_marks), none, none] [] (aR (rtP D.int)) (m_law_refused v_columns_here v_marks) from ?_) hok
    unfold m_law_refused
    refine jc_seqR (st1 := (fun (_ : Unit) (ρ : List (Option D)) (O : Om) => ρ = [some (D.str v_columns_here), some (d_marks), none, none] ∧ O = [])) (sl := fun (_ : Unit) _ _ => False) (ex := fun _ _ _ _ _ _ => False) (jc1_try (ce := ceT ad) (ρ0 := [some (D.str v_columns_here), some (d_marks), none, none]) (O0 := []) 2 rfl rfl nd rfl rfl ⟨rfl, by decide, .inl g_TooHeavy⟩ takes_no (fun W pn xe tk po_ => ?_) (fun er hok hm hok2 => by obtain ⟨z, rfl, _⟩ := onErr_ok hok2; exact ⟨xm_TooHeavy, .inl ⟨z, rfl⟩⟩) (fun er hok hm a_ oe pn dx v_ hz hf hrp => ?_)) (fun _ _ _ hst => ?_)
    · refine jc_forGX (ce := ceT ad) (E := dL dRow) (m := mx_packed v_columns_here v_marks) 3 4 nd po_ rfl tk (fun hok => egx_call cg_packed (hr.mono (by first | decide | omega)) rfl (ea_cons (nm 0 rfl) (ea_cons (nm 1 rfl) ea_nil)) (by exact ⟨v_columns_here, _, v_marks, rfl, (vsL w_marks), hok, rfl⟩)) (hr.mono (by first | decide | omega)) ns_TooHeavy ?_ (fun v_table => ?_) (fun er => (And.intro (And.intro rfl (And.intro rfl rfl)) (And.intro wk_refl rfl)))
      · exact jc_nil ⟨_, (wk_some rfl (wk_some rfl (wk_nn (wk_nn wk_nil)))), rfl, rfl⟩
      · show JC _ _ _ [some (D.str v_columns_here), some (d_marks), none, some (dL dRow v_table)] _ _ _
        exact jc_ret (d := D.int ((0 : Int) : Int)) ev_int (.refl _)
    · refine jc_onErr (fun v_e_weight her => ?_)
      subst her
      refine jc_ifr (et_w (ew_or (et_of (ev_callB (call_isED xc_TooHeavy hz hf) (rc_isED (fun _ _ _ => cls_ref) kt_TooHeavy_BadKey) rfl b_isinstance (by decide +kernel) (ea_cons (nm 2 rfl) (ea_cons (ev_glob (v := .ref ad.CBadKey) rfl g_BadKey rfl (fun _ => .rf _)) ea_nil)))) (fun hb1 => (ew_or (et_not (et_of (ev_callB (call_isED xc_TooHeavy hz hf) (rc_isED (fun _ _ _ => cls_ref) kt_TooHeavy_TableError) rfl b_isinstance (by decide +kernel) (ea_cons (nm 2 rfl) (ea_cons (ev_glob (v := .ref ad.CTableError) rfl g_TableError rfl (fun _ => .rf _)) ea_nil))))) (fun hb2 => (ew_or1 (et_not (et_of (ev_callB (call_isED xc_TooHeavy hz hf) (rc_isED (fun _ _ _ => cls_ty) kt_TooHeavy_ValueError) rfl b_isinstance (by decide +kernel) (ea_cons (nm 2 rfl) (ea_cons (ev_bltn (v := .ty "ValueError") (u := .type "ValueError") rfl b_ValueError (by decide +kernel) rfl (fun _ => .ty _)) ea_nil))))))))))) (fun hc3 => ?_) (fun hc3 => ?_)
      · exact jc_ret (d := D.int ((0 : Int) : Int)) ev_int (.refl _)
      · exact jc_ret (d := D.int (v_e_weight : Int)) (ev_errF e_TooHeavy hz hf hrp (nm 2 rfl)) (.refl _)
    obtain ⟨rfl, rfl⟩ := hst
    show JC _ _ _ [some (D.str v_columns_here), some (d_marks), none, none] _ _ _
    exact jc_ret (d := D.int ((0 : Int) : Int)) ev_int (.refl _)
def ar_law (ad : Ads) (L : Om) (ds : List D) (d : D) : Prop := ∃ (d_script : D) (v_script : List Int), ds = [d_script] ∧ Vw L d_script (v_script.map D.int) ∧ (m_law v_script).ok ∧ d = D.bl ((m_law v_script).val)
abbrev s_law : Stmt := top 26
abbrev N_law : List Str := ["_law_script", "_law_pool_here", "_law_letters", "_law_marks", "_law_base", "_law_given", "_law_tables", "_law_columns_here", "_law_heavy_here", "_law_weight"]
theorem sc_law : FnScope N_law ["_law_script"] (defScope s_law) := ⟨rfl, rfl, rfl, by decide +kernel, rfl, by decide +kernel, by decide +kernel⟩
theorem ok_law {f : Addr} {fd : FuncData} (F : Fun K "law" "law" s_law f fd) (c_law_pool : Cal P w K mg base CX0 1 "_law_pool" (spN K (ar_law_pool ad))) (c_law_frame : Cal P w K mg base CX0 1 "_law_frame" (spP K (ar_law_frame ad))) (c_law_ordered : Cal P w K mg base CX0 1 "_law_ordered" (spN K (ar_law_ordered ad))) (b_list : mg "list" = none) (c_law_columns : Cal P w K mg base CX0 1 "_law_columns" (spP K (ar_law_columns ad))) (c_law_told : Cal P w K mg base CX0 8 "_law_told" (spN K (ar_law_told ad))) (b_len : mg "len" = none) (b_int : mg "int" = none) (c_law_heavy : Cal P w K mg base CX0 1 "_law_heavy" (spP K (ar_law_heavy ad))) (c_law_refused : Cal P w K mg base CX0 8 "_law_refused" (spP K (ar_law_refused ad))) (b_isinstance : mg "isinstance" = none) (b_bool : mg "bool" = none) : FnOk P w K mg base CX0 (9) f fd ["_law_script"] (spP K (ar_law ad)) := by
  refine fn_pureV F sc_law (fun L ds d h => ?_) (fun cdv A outer s H E B ds d hr h => ?_)
  · obtain ⟨d_script, v_script, rfl, _⟩ := h; rfl
  · obtain ⟨d_script, v_script, rfl, w_script, hok, rfl⟩ := h
    have nd := sc_law.nd
    refine (show JC _ B (defBody s_law) [some (d_script), none, none, none, none, none, none, none, none, none] [] (aR (rtP D.bl)) (m_law v_script) from ?_) hok
    unfold m_law
    refine jc_req fun h1 => ?_
    refine jc_set (E := dL D.int) (v := ((m_law_pool v_script (0 : Int) (10 : Int)).val : List Int)) 1 nd (ev_new (en_call c_law_pool (hr.mono (by first | decide | omega)) (by rfl) (ea_cons (nm 0 rfl) (ea_cons ev_int (ea_cons ev_int ea_nil))) (by exact ⟨_, v_script, (0 : Int), (10 : Int), rfl, (vwL w_script), h1, rfl⟩))) (fun v_pool_here => ?_)
    show JC _ _ _ [some (d_script), some (dL D.int v_pool_here), none, none, none, none, none, none, none, none] _ _ _
    refine jc_req fun h2 => ?_
    refine jc_asg (E := dP3 D.str (dL (dP2 D.str D.int)) D.int) (ev_call c_law_frame (hr.mono (by first | decide | omega)) rfl (ea_cons (nm 1 rfl) (ea_cons ev_int ea_nil)) (by exact ⟨_, v_pool_here, (9 : Int), rfl, vsI, h2, rfl⟩)) (eb_tup rfl (ebs_cons (bnm 2 nd) (ebs_cons (bnm 3 nd) (ebs_cons (bnm 4 nd) ebs_nil))) (bcons_len (bcons_len (bcons_len bnil_len)))) (fun ⟨v_letters, v_marks, v_base⟩ => ⟨_, rfl, ?_⟩)
    show JC _ _ _ [some (d_script), some (dL D.int v_pool_here), some (D.str v_letters), some (dL (dP2 D.str D.int) v_marks), some (D.int v_base), none, none, none, none, none] _ _ _
    refine jc_req fun h3 => ?_
    refine jc_set (E := dL (dP2 D.str D.int)) (v := ((m_law_ordered v_marks).val : List (Str × Int))) 3 nd (ev_new (en_call c_law_ordered (hr.mono (by first | decide | omega)) (by rfl) (ea_cons (nm 3 rfl) ea_nil) (by exact ⟨_, v_marks, rfl, vsI, h3, rfl⟩))) (fun v_marks => ?_)
    show JC _ _ _ [some (d_script), some (dL D.int v_pool_here), some (D.str v_letters), some (dL (dP2 D.str D.int) v_marks), some (D.int v_base), none, none, none, none, none] _ _ _
    refine jc_set (E := dL (dP2 D.str D.int)) (v := (v_marks : List (Str × Int))) 5 nd (ev_new (en_callTy call_list_of (rcn_list (Vw.vq (Vs.vw vsI))) rfl b_list (by decide +kernel) (ea_cons (nm 3 rfl) ea_nil))) (fun v_given => ?_)
    show JC _ _ _ [some (d_script), some (dL D.int v_pool_here), some (D.str v_letters), some (dL (dP2 D.str D.int) v_marks), some (D.int v_base), some (dL (dP2 D.str D.int) v_given), none, none, none, none] _ _ _
    refine jc_req fun ⟨h4, h5⟩ => ?_
    refine jc_set (E := dL (dL dRow)) (v := ((m_law_told ((m_law_columns v_letters).val) v_given).val : List (List Row))) 6 nd (ev_new (en_call c_law_told (hr.mono (by first | decide | omega)) (by rfl) (ea_cons (ev_call c_law_columns (hr.mono (by first | decide | omega)) rfl (ea_cons (nm 2 rfl) ea_nil) (by exact ⟨v_letters, rfl, h4, rfl⟩)) (ea_cons (nm 5 rfl) ea_nil)) (by exact ⟨(m_law_columns v_letters).val, v_given, rfl, h5, rfl⟩))) (fun v_tables => ?_)
    show JC _ _ _ [some (d_script), some (dL D.int v_pool_here), some (D.str v_letters), some (dL (dP2 D.str D.int) v_marks), some (D.int v_base), some (dL (dP2 D.str D.int) v_given), some (dL (dL dRow) v_tables), none, none, none] _ _ _
    refine jc_req fun ⟨h8, h9⟩ => ?_
    refine jc_ifr (et_w (ew_or (et_cmp op_eq rd_eqI (ev_conv (ev_callB call_len_seq (rc_len (Vw.vq (Vs.vw vsI))) (by rfl) b_len PySem.boot_len (ea_cons (nm 6 rfl) ea_nil)) (by rw [List.length_map])) ev_int (nomark _)) (fun hb6 => (ew_or (et_cmp (op_neD hr.units) (rd_neD (x := v_given) (y := v_marks) (EqOk.lst (EqOk.p2 EqOk.str EqOk.int)) (by decide) vdI vdI (h8 hb6) (h9 hb6)) (nm 5 rfl) (nm 3 rfl) (nomark _)) (fun hb10 => (ew_or1 (et_cmp (op_neD hr.units) (rd_neD (x := (m_law_told ((m_law_columns v_letters).val) v_given).val) (y := v_tables) (EqOk.lst (EqOk.lst EqOk.row)) (by decide) vdI vdI (fun y _ => (okRs _)) (fun y _ => (okRs _))) (ev_new (en_call c_law_told (hr.mono (by first | decide | omega)) (by rfl) (ea_cons (ev_call c_law_columns (hr.mono (by first | decide | omega)) rfl (ea_cons (nm 2 rfl) ea_nil) (by exact ⟨v_letters, rfl, h4, rfl⟩)) (ea_cons (nm 5 rfl) ea_nil)) (by exact ⟨(m_law_columns v_letters).val, v_given, rfl, h5, rfl⟩))) (nm 6 rfl) (nomark _)))))))) (fun hc11 => ?_) (fun hc11 => ?_)
    · exact jc_ret (d := D.bl (false : Bool)) ev_bl (.refl _)
    · refine jc_req fun h12 => ?_
      refine jc_ifr (et_cmp (op_neD hr.units) (rd_neD (x := (m_law_told (Str.ofString "") []).val) (y := [[((0 : Int), (0 : Int), (0 : Int))]]) (EqOk.lst (EqOk.lst EqOk.row)) (by decide) vdI vdI (fun y _ => (okRs _)) (fun y _ => (okRs _))) (ev_new (en_call c_law_told (hr.mono (by first | decide | omega)) (by rfl) (ea_cons ev_str (ea_cons (ev_new (en_lst ea_nil (by show 0 ≤ sizeLine; decide))) ea_nil)) (by exact ⟨(Str.ofString ""), [], rfl, h12, rfl⟩))) (ev_new (en_lst (ea_cons (ev_new (en_lst (ea_cons (ev_tup (ea_cons ev_int (ea_cons ev_int (ea_cons ev_int ea_nil))) (by show 3 ≤ sizeLine; decide)) ea_nil) (by show 1 ≤ sizeLine; decide))) ea_nil) (by show 1 ≤ sizeLine; decide))) (nomark _)) (fun hc13 => ?_) (fun hc13 => ?_)
      · exact jc_ret (d := D.bl (false : Bool)) ev_bl (.refl _)
      · refine jc_req fun ⟨h14, h15⟩ => ?_
        refine jc_ifr (et_cmp op_ne rd_neI (ev_conv (ev_callB call_len_seq (rc_len (Vw.vq (Vs.vw vsI))) (by rfl) b_len PySem.boot_len (ea_cons (ev_new (en_call c_law_told (hr.mono (by first | decide | omega)) (by rfl) (ea_cons (ev_ixS ev_str (ev_op op_mod (rd_I (by decide)) (ev_callTy call_int1 rc_int (by rfl) b_int (by decide +kernel) (ea_cons (ev_ixL (nm 1 rfl) ev_int (Vs.vw vsI) (atG (E := D.int) h14)) ea_nil)) ev_int) (by decide) (atS2 (mod_ix (k := 3) (by decide) (by decide)))) (ea_cons (ev_new (en_lst ea_nil (by show 0 ≤ sizeLine; decide))) ea_nil)) (by exact ⟨(cS (ixS (Str.ofString "abc") ((ixL v_pool_here (1 : Int)) % (3 : Int)))), [], rfl, h15, rfl⟩))) ea_nil)) (by rw [List.length_map])) ev_int (nomark _)) (fun hc16 => ?_) (fun hc16 => ?_)
        · exact jc_ret (d := D.bl (false : Bool)) ev_bl (.refl _)
        · refine jc_req fun ⟨h17, h18, h19⟩ => ?_
          refine jc_asg (E := dP2 D.str (dL (dP2 D.str D.int))) (ev_call c_law_heavy (hr.mono (by first | decide | omega)) rfl (ea_cons (ev_ixL (nm 1 rfl) ev_int (Vs.vw vsI) (atG (E := D.int) h17)) (ea_cons (ev_ixL (nm 1 rfl) ev_int (Vs.vw vsI) (atG (E := D.int) h18)) ea_nil)) (by exact ⟨(ixL v_pool_here (9 : Int)), (ixL v_pool_here (8 : Int)), rfl, h19, rfl⟩)) (eb_tup rfl (ebs_cons (bnm 7 nd) (ebs_cons (bnm 8 nd) ebs_nil)) (bcons_len (bcons_len bnil_len))) (fun ⟨v_columns_here, v_heavy_here⟩ => ⟨_, rfl, ?_⟩)
          show JC _ _ _ [some (d_script), some (dL D.int v_pool_here), some (D.str v_letters), some (dL (dP2 D.str D.int) v_marks), some (D.int v_base), some (dL (dP2 D.str D.int) v_given), some (dL (dL dRow) v_tables), some (D.str v_columns_here), some (dL (dP2 D.str D.int) v_heavy_here), none] _ _ _
          refine jc_req fun ⟨h20, h21⟩ => ?_
          refine jc_set (E := D.int) (v := ((m_law_refused v_columns_here ((m_law_ordered v_heavy_here).val)).val : Int)) 9 nd (ev_call c_law_refused (hr.mono (by first | decide | omega)) rfl (ea_cons (nm 7 rfl) (ea_cons (ev_new (en_call c_law_ordered (hr.mono (by first | decide | omega)) (by rfl) (ea_cons (nm 8 rfl) ea_nil) (by exact ⟨_, v_heavy_here, rfl, vsI, h20, rfl⟩))) ea_nil)) (by exact ⟨v_columns_here, _, (m_law_ordered v_heavy_here).val, rfl, vsI, h21, rfl⟩)) (fun v_weight => ?_)
          show JC _ _ _ [some (d_script), some (dL D.int v_pool_here), some (D.str v_letters), some (dL (dP2 D.str D.int) v_marks), some (D.int v_base), some (dL (dP2 D.str D.int) v_given), some (dL (dL dRow) v_tables), some (D.str v_columns_here), some (dL (dP2 D.str D.int) v_heavy_here), some (D.int v_weight)] _ _ _
          refine jc_req fun h24 => ?_
          exact jc_ret (d := D.bl ((true && ((!false) && (decide (v_weight = ((v_columns_here.length : Int) + (v_heavy_here.length : Int)))))) : Bool)) (ev_and (ev_callB call_isi (rc_isi (c := "int") .int (by rfl)) rfl b_isinstance (by decide +kernel) (ea_cons (nm 9 rfl) (ea_cons (ev_bltn (v := .ty "int") (u := .type "int") rfl b_int (by decide +kernel) rfl (fun _ => .ty _)) ea_nil))) (fun hb22 => (ev_and (ev_not (ev_callB call_isi (rc_isi (c := "bool") .int (by rfl)) rfl b_isinstance (by decide +kernel) (ea_cons (nm 9 rfl) (ea_cons (ev_bltn (v := .ty "bool") (u := .type "bool") rfl b_bool (by decide +kernel) rfl (fun _ => .ty _)) ea_nil)))) (fun hb23 => (ev_one (ev_cmp op_eq rd_eqI (nm 9 rfl) (ev_op op_add rd_I0 (ev_callB call_len_str (rc_lenS (h24 hb22 hb23)) rfl b_len PySem.boot_len (ea_cons (nm 7 rfl) ea_nil)) (ev_conv (ev_callB call_len_seq (rc_len (Vw.vq (Vs.vw vsI))) (by rfl) b_len PySem.boot_len (ea_cons (nm 8 rfl) ea_nil)) (by rw [List.length_map]))) (nomark _))))))) (.refl _)
end
end DL

set_option Elab.async false
set_option linter.all false
set_option maxRecDepth 100000
set_option maxHeartbeats 4000000
namespace DL
open PySem PySem.Spec PyProof.Rows L2 TL
section
variable {α β γ δ S S2 L R : Type}
theorem sat_bindX_rt {m : Cmp (Ctl Unit Unit β)} {k : β → Cmp (Ctl S L R)} {v : β} {Q : Ctl S L R → Prop} (h : m.sat (· = .rt v)) (k' : (k v).sat Q) : (m.bindX k).sat Q := sat_bind h fun c hc => by subst hc; exact k'
theorem sat_bindX_ex {m : Cmp (Ctl Unit Unit β)} {k : β → Cmp (Ctl S L R)} {e : Exn} {Q : Ctl S L R → Prop} (h : m.sat (· = .ex e)) (q : Q (.ex e)) : (m.bindX k).sat Q := sat_bind h fun c hc => by subst hc; exact sat_ret q
theorem sat_try_ex {m : Cmp (Ctl S L R)} {h : Exn → Cmp R} {e : Exn} {Q : Ctl S L R → Prop} (hm : m.sat (· = .ex e)) (q : (h e).sat fun r => Q (.rt r)) : (tryM m h).sat Q := sat_bind hm fun c hc => by subst hc; exact sat_bind q fun r hr => sat_ret hr
theorem sat_onErr [Inhabited R] {i : Nat} {z : Int} {f : Int → Cmp R} {Q : R → Prop} (h : (f z).sat Q) : (onErr i ⟨i, .int z⟩ f).sat Q := by
  unfold onErr
  rw [if_pos rfl]
  exact h
end
abbrev sg (z : Str) (i : Nat) : Nat := z.cps.toList.getD i 0
theorem tl_app (a b : Str) : tl (a ++ b) = tl a ++ tl b := by
  show (a.cps ++ b.cps).toList = _
  exact Array.toList_append
theorem size_big : (sizeLine : Nat) = 16777216 := sizeLine_eq
def PoolOk (n : Int) (l : List Int) : Prop := (l.length : Int) = n ∧ ∀ x ∈ l, 0 ≤ x ∧ x < 1000
theorem pool_sat (s : List Int) {k n : Int} (hk : 0 ≤ k) (hn : 0 ≤ n) (hn1 : n ≤ 1000000) : (m_law_pool s k n).sat (PoolOk n) := by
  unfold m_law_pool
  refine sat_bnd (sat_bind (P := fun _ => True) (sat_ite (fun h => sat_req ⟨hk, by simpa using h⟩ (sat_ret trivial)) fun _ => sat_ret trivial) fun cell _ => sat_bnd (sat_bnd (sat_req (by omega) ?_)))
  refine sat_bind (sat_forR (fun i (q : Int × List Int) => q.2.length = i ∧ ∀ x ∈ q.2, 0 ≤ x ∧ x < 1000) ⟨rfl, fun x h => by cases h⟩ fun i q hi hq => ?_) fun q hq => sat_ret ⟨by rw [hq.1]; omega, hq.2⟩
  obtain ⟨c, l⟩ := q
  obtain ⟨h1, h2⟩ := hq
  simp only at h1 h2
  have hz : l.length < sizeLine := by rw [size_big]; omega
  refine sat_ite (fun _ => sat_req hz (sat_ret ⟨by simp [h1], fun x hx => ?_⟩)) fun _ => sat_bnd (sat_bnd (sat_req ⟨?_, hz⟩ (sat_ret ⟨by simp [h1], fun x hx => ?_⟩)))
  · rcases List.mem_append.mp hx with hx | hx
    · exact h2 x hx
    · rw [List.mem_singleton.mp hx]; omega
  · refine .inl ⟨?_, ?_⟩ <;> omega
  · rcases List.mem_append.mp hx with hx | hx
    · exact h2 x hx
    · rw [List.mem_singleton.mp hx]
      generalize (_ : Int) + _ = z
      omega
theorem PoolOk.at {n : Int} {l : List Int} (h : PoolOk n l) {i : Int} (h0 : 0 ≤ i) (h1 : i < n) : (0 ≤ i ∧ i < (l.length : Int)) ∧ 0 ≤ ixL l i ∧ ixL l i < 1000 := by
  obtain ⟨a, b⟩ := h
  refine ⟨⟨h0, by omega⟩, ?_⟩
  have hi : i.toNat < l.length := by omega
  have e : ixL l i = l[i.toNat] := by unfold ixL; simp [hi]
  rw [e]
  exact b _ (List.getElem_mem hi)
inductive Fm where
  | cmp (s c : Fin 3)
  | mark (c s : Fin 3) (k : Int)
  | un (i : Fin 2) (f : Fm)
  | bin (i : Fin 4) (f g : Fm)
abbrev lN (c : Fin 3) : Nat := 97 + c.val
namespace Fm
end Fm
section
variable {α S : Type} {Q : S → Prop}
end
def dd : List Int → List Int
  | [] => []
  | x :: xs => if x ∈ xs then dd xs else x :: dd xs
theorem dd_mem : ∀ (xs : List Int) (x : Int), x ∈ dd xs ↔ x ∈ xs
  | [], x => Iff.rfl
  | y :: ys, x => by
    unfold dd
    by_cases h : y ∈ ys
    · rw [if_pos h, dd_mem ys x, List.mem_cons]
      constructor
      · exact Or.inr
      · rintro (rfl | q)
        · exact h
        · exact q
    · rw [if_neg h, List.mem_cons, List.mem_cons, dd_mem ys x]
theorem dd_nodup : ∀ xs : List Int, (dd xs).Nodup
  | [] => List.nodup_nil
  | y :: ys => by
    unfold dd
    by_cases h : y ∈ ys
    · rw [if_pos h]; exact dd_nodup ys
    · rw [if_neg h]; exact List.nodup_cons.mpr ⟨fun q => h ((dd_mem ys y).mp q), dd_nodup ys⟩
theorem dd_len : ∀ xs : List Int, (dd xs).length ≤ xs.length
  | [] => Nat.le_refl _
  | y :: ys => by
    unfold dd
    have := dd_len ys
    split <;> simp only [List.length_cons] <;> omega
def cnt (V : List Int) (p : Int → Bool) : Nat := ((dd V).filter p).length
theorem filter_lt_of {α : Type} {p q : α → Bool} (hpq : ∀ x, p x = true → q x = true) : ∀ {xs : List α} {y : α}, y ∈ xs → q y = true → p y = false → (xs.filter p).length < (xs.filter q).length := by
  have le : ∀ xs : List α, (xs.filter p).length ≤ (xs.filter q).length := fun xs => by
    induction xs with
    | nil => exact Nat.le_refl _
    | cons x xs ih =>
      by_cases h : p x = true
      · rw [List.filter_cons_of_pos h, List.filter_cons_of_pos (hpq x h)]; simp only [List.length_cons]; omega
      · rw [List.filter_cons_of_neg h]
        by_cases h2 : q x = true
        · rw [List.filter_cons_of_pos h2]; simp only [List.length_cons]; omega
        · rw [List.filter_cons_of_neg h2]; exact ih
  intro xs
  induction xs with
  | nil => intro y h; cases h
  | cons x xs ih =>
    intro y hy hq hp
    rcases List.mem_cons.mp hy with rfl | hy
    · rw [List.filter_cons_of_neg (by rw [hp]; decide), List.filter_cons_of_pos hq]
      have := le xs
      simp only [List.length_cons]; omega
    · have := ih hy hq hp
      by_cases h : p x = true
      · rw [List.filter_cons_of_pos h, List.filter_cons_of_pos (hpq x h)]; simp only [List.length_cons]; omega
      · rw [List.filter_cons_of_neg h]
        by_cases h2 : q x = true
        · rw [List.filter_cons_of_pos h2]; simp only [List.length_cons]; omega
        · rw [List.filter_cons_of_neg h2]; exact this
theorem cnt_lt {V : List Int} {p q : Int → Bool} {y : Int} (hpq : ∀ x, p x = true → q x = true) (hy : y ∈ V) (hq : q y = true) (hp : p y = false) : cnt V p < cnt V q := filter_lt_of hpq ((dd_mem V y).mpr hy) hq hp
theorem cnt_pos {V : List Int} {p : Int → Bool} {y : Int} (hy : y ∈ V) (hp : p y = true) : 1 ≤ cnt V p := List.length_pos_iff.mpr fun e => by
  have : y ∈ (dd V).filter p := List.mem_filter.mpr ⟨(dd_mem V y).mpr hy, hp⟩
  rw [e] at this; cases this
theorem nodup_len : ∀ (m : Nat) (k : Int) (xs : List Int), xs.Nodup → (∀ x ∈ xs, k < x ∧ x ≤ k + m) → xs.length ≤ m
  | 0, k, xs, _, h => by
    cases xs with
    | nil => exact Nat.le_refl _
    | cons x xs => have := h x List.mem_cons_self; omega
  | m + 1, k, xs, nd, h => by
    have h1 := nodup_len m k (xs.filter fun x => decide (x ≠ k + (m + 1 : Nat))) (nd.filter _) fun x hx => by
      obtain ⟨a, b⟩ := List.mem_filter.mp hx
      have := h x a
      have := of_decide_eq_true b
      omega
    have h2 : ∀ xs : List Int, xs.Nodup → xs.length ≤ (xs.filter fun x => decide (x ≠ k + (m + 1 : Nat))).length + 1 := fun xs => by
      induction xs with
      | nil => intro _; exact Nat.zero_le _
      | cons x xs ih =>
        intro nd
        obtain ⟨n1, n2⟩ := List.nodup_cons.mp nd
        by_cases e : x = k + (m + 1 : Nat)
        · have ef : xs.filter (fun x => decide (x ≠ k + (m + 1 : Nat))) = xs := List.filter_eq_self.mpr fun y hy => decide_eq_true fun q => n1 (by rw [e, ← q]; exact hy)
          rw [List.filter_cons_of_neg (by simp [e]), ef]
          simp
        · have := ih n2
          rw [List.filter_cons_of_pos (by simpa using e)]
          simp only [List.length_cons]; omega
    have := h2 xs nd
    omega
theorem cnt_up (V : List Int) (k v : Int) (h : k ≤ v) : (cnt V (fun w => decide (k < w) && decide (w ≤ v)) : Int) ≤ v - k := by
  have := nodup_len (v - k).toNat k ((dd V).filter fun w => decide (k < w) && decide (w ≤ v)) ((dd_nodup V).filter _) fun x hx => by
    have h2 := (List.mem_filter.mp hx).2
    simp only [Bool.and_eq_true, decide_eq_true_eq] at h2
    omega
  unfold cnt; omega
def gmax : List Int → Int → Int
  | [], d => d
  | k :: ks, d => if d < k then gmax ks k else gmax ks d
theorem gmax_spec : ∀ (ks : List Int) (d : Int), (gmax ks d = d ∨ gmax ks d ∈ ks) ∧ d ≤ gmax ks d ∧ ∀ k ∈ ks, k ≤ gmax ks d
  | [], d => ⟨.inl rfl, Int.le_refl _, fun _ h => by cases h⟩
  | k :: ks, d => by
    unfold gmax
    by_cases h : d < k
    · rw [if_pos h]
      obtain ⟨a, b, c⟩ := gmax_spec ks k
      refine ⟨.inr ?_, by omega, fun j hj => ?_⟩
      · rcases a with a | a
        · rw [a]; exact List.mem_cons_self
        · exact List.mem_cons_of_mem _ a
      · rcases List.mem_cons.mp hj with rfl | hj
        · exact b
        · exact c j hj
    · rw [if_neg h]
      obtain ⟨a, b, c⟩ := gmax_spec ks d
      refine ⟨a.imp id (List.mem_cons_of_mem _), b, fun j hj => ?_⟩
      rcases List.mem_cons.mp hj with rfl | hj
      · omega
      · exact c j hj
structure NearV (n : Nat) (ks vals : List Int) : Prop where
  up : ∀ k ∈ ks, ∀ i : Nat, i ≤ n → k + (i : Int) ∈ vals
  low : ks ≠ [] → ∃ k0 ∈ ks, (∀ k ∈ ks, k0 ≤ k) ∧ ∀ i : Nat, 1 ≤ i → i ≤ n → k0 - (i : Int) ∈ vals
  free : ks = [] → ∃ g : Nat → Int, (∀ i j, i < j → j < n → g i < g j) ∧ ∀ i, i < n → g i ∈ vals
structure SimR (C : Fin 3 → Bool) (M : List (Fin 3 × Int)) (φ : Row → Row) (R : List Row) : Prop where
  lt : ∀ c : Fin 3, C c = true → ∀ r ∈ R, ∀ o ∈ R, rowAt r (c.val : Int) < rowAt o (c.val : Int) → rowAt (φ r) (c.val : Int) < rowAt (φ o) (c.val : Int)
  mark : ∀ p ∈ M, C p.1 = true → ∀ r ∈ R, (rowAt r (p.1.val : Int) < p.2 → rowAt (φ r) (p.1.val : Int) < p.2) ∧ (p.2 < rowAt r (p.1.val : Int) → p.2 < rowAt (φ r) (p.1.val : Int)) ∧ (rowAt r (p.1.val : Int) = p.2 → rowAt (φ r) (p.1.val : Int) = p.2)
  eq : ∀ c : Fin 3, C c = true → ∀ r ∈ R, ∀ o ∈ R, rowAt r (c.val : Int) = rowAt o (c.val : Int) → rowAt (φ r) (c.val : Int) = rowAt (φ o) (c.val : Int)
abbrev mkOf (M : List (Fin 3 × Int)) (c : Fin 3) : List Int := (M.filter fun p => decide (p.1 = c)).map (·.2)
theorem fin_of {n : Nat} [NeZero n] {i : Int} (h0 : 0 ≤ i) (h1 : i < (n : Int)) : ∃ k : Fin n, (k.val : Int) = i := ⟨⟨i.toNat, by omega⟩, by simp; omega⟩
theorem take_at {α : Type} {xs : List α} {i : Nat} {x : α} (h : xs[i]? = some x) : xs.take (i + 1) = xs.take i ++ [x] := by rw [List.take_succ, h]; rfl
theorem filter_t {α : Type} (xs : List α) : (xs.filter (fun _ => true)) = xs := List.filter_eq_self.mpr fun _ _ => rfl
abbrev Mk2 := Str × Int
abbrev ky (p : Mk2) : Nat := sg p.1 0
abbrev LT2 (p q : Mk2) : Prop := ky p < ky q ∨ (ky p = ky q ∧ p.2 < q.2)
theorem lt2_as (a b : Mk2) : LT2 a b → ¬ LT2 b a := by intro h; omega
theorem sortI_lt {xs : List Int} (h : xs.Nodup) : (sortI xs).Pairwise (· < ·) := by
  have h1 := sortI_le xs
  have h2 : (sortI xs).Nodup := (sortI_perm xs).nodup_iff.mpr h
  exact (h1.and h2).imp fun ⟨a, b⟩ => by omega
theorem sortI_mem (xs : List Int) (a : Int) : a ∈ sortI xs ↔ a ∈ xs := (sortI_perm xs).mem_iff
theorem sortI_len (xs : List Int) : (sortI xs).length = xs.length := (sortI_perm xs).length_eq
theorem abc_l : charsL (Str.ofString "abc") = [97, 98, 99] := by decide +kernel
def lettersOf (B : Nat → Bool) : Str := Txt.join (Str.ofString "") (([97, 98, 99].filter B).map cS)
def Fm.ms : Fm → List Mk2
  | .cmp _ _ => []
  | .mark c _ k => [(cS (lN c), k)]
  | .un _ f => f.ms
  | .bin _ f g => f.ms ++ g.ms
structure FrOk (r : Str × List (Str × Int) × Int) : Prop where
  l0 : 0 < r.1.length
  l3 : r.1.length ≤ 3
  lt : ∀ i : Int, 0 ≤ i → i < (r.1.length : Int) → ∃ c : Fin 3, ixS r.1 i = lN c
  ml : r.2.1.length ≤ 3
  mks : ∀ p ∈ r.2.1, ∃ c : Fin 3, p.1 = cS (lN c) ∧ p.2.natAbs < 10 ^ 18
  bs : r.2.2.natAbs ≤ 10 ^ 15
theorem ixL_mem {α : Type} [Inhabited α] {xs : List α} {i : Int} (h0 : 0 ≤ i) (h : i < (xs.length : Int)) : ixL xs i ∈ xs := by
  have hi : i.toNat < xs.length := by omega
  have e : ixL xs i = xs[i.toNat] := by unfold ixL; simp [hi]
  rw [e]; exact List.getElem_mem hi
abbrev perms : List Str := [(Str.ofString "abc"), (Str.ofString "acb"), (Str.ofString "bac"), (Str.ofString "bca"), (Str.ofString "cab"), (Str.ofString "cba")]
theorem let_all : ∀ a : Fin 6, ∀ m : Fin 3, (cutS (ixL perms (a.val : Int)) none (some ((m.val : Int) + 1))).length = m.val + 1 ∧ (ixL perms (a.val : Int)).length = 3 ∧ ∀ i : Fin 3, i.val < m.val + 1 → (ixS (cutS (ixL perms (a.val : Int)) none (some ((m.val : Int) + 1))) (i.val : Int)) ∈ [97, 98, 99] := by decide +kernel
theorem shape_all : ∀ a : Fin 9, (1 ≤ ixL ([(2 : Int), (1 : Int), (2 : Int), (1 : Int), (3 : Int), (2 : Int), (2 : Int), (3 : Int), (1 : Int)] : List Int) (a.val : Int) ∧ ixL ([(2 : Int), (1 : Int), (2 : Int), (1 : Int), (3 : Int), (2 : Int), (2 : Int), (3 : Int), (1 : Int)] : List Int) (a.val : Int) ≤ 3) ∧ (0 ≤ ixL ([(1 : Int), (1 : Int), (0 : Int), (2 : Int), (0 : Int), (2 : Int), (1 : Int), (1 : Int), (3 : Int)] : List Int) (a.val : Int) ∧ ixL ([(1 : Int), (1 : Int), (0 : Int), (2 : Int), (0 : Int), (2 : Int), (1 : Int), (1 : Int), (3 : Int)] : List Int) (a.val : Int) ≤ 3) := by decide +kernel
theorem base_all : ∀ a : Fin 4, (ixL ([(0 : Int), (0 : Int), (1000 : Int), (-(((10 : Int) : Int) ^ ((15 : Int) : Int).toNat))] : List Int) (a.val : Int)).natAbs ≤ 1000000000000000 := by decide +kernel
theorem far_all : ∀ a : Fin 5, 0 ≤ ixL ([(0 : Int), (0 : Int), (0 : Int), (20 : Int), (((10 : Int) : Int) ^ ((16 : Int) : Int).toNat)] : List Int) (a.val : Int) ∧ ixL ([(0 : Int), (0 : Int), (0 : Int), (20 : Int), (((10 : Int) : Int) ^ ((16 : Int) : Int).toNat)] : List Int) (a.val : Int) ≤ 10000000000000000 := by decide +kernel
theorem lN_of {n : Nat} (h : n ∈ [97, 98, 99]) : ∃ c : Fin 3, n = lN c := by
  rcases (by simpa using h : n = 97 ∨ n = 98 ∨ n = 99) with rfl | rfl | rfl
  · exact ⟨0, rfl⟩
  · exact ⟨1, rfl⟩
  · exact ⟨2, rfl⟩
def cF (w : Str) : Fin 3 := if sg w 0 = 97 then 0 else if sg w 0 = 98 then 1 else 2
theorem cF_l : ∀ c : Fin 3, cF (cS (lN c)) = c := by decide +kernel
abbrev MM (ms : List (Str × Int)) : List (Fin 3 × Int) := ms.map fun p => (cF p.1, p.2)
abbrev CC (z : Str) (c : Fin 3) : Bool := decide (lN c ∈ charsL z)
structure FrW (r : Str × List (Str × Int) × Int) : Prop where
  ok : FrOk r
  nd : (charsL r.1).Nodup
  abc : ∀ l ∈ charsL r.1, l ∈ [97, 98, 99]
  mem : ∀ p ∈ r.2.1, ∃ c : Fin 3, p.1 = cS (lN c) ∧ lN c ∈ charsL r.1
  low : r.1.length + r.2.1.length ≤ 4
theorem ixS_mem {z : Str} {i : Int} (h0 : 0 ≤ i) (h1 : i < (z.length : Int)) : ixS z i ∈ charsL z := by
  have hz : z.cps.toList.length = z.length := Array.length_toList
  have hi : i.toNat < z.cps.toList.length := by omega
  have e : ixS z i = z.cps.toList[i.toNat] := by unfold ixS; rw [List.getD_eq_getElem?_getD, List.getElem?_eq_getElem hi]; rfl
  rw [e]; exact List.getElem_mem hi
theorem let_all2 : ∀ a : Fin 6, ∀ m : Fin 3, (charsL (cutS (ixL perms (a.val : Int)) none (some ((m.val : Int) + 1)))).Nodup ∧ ∀ l ∈ charsL (cutS (ixL perms (a.val : Int)) none (some ((m.val : Int) + 1))), l ∈ [97, 98, 99] := by decide +kernel
theorem shape_all2 : ∀ a : Fin 9, ixL ([(2 : Int), (1 : Int), (2 : Int), (1 : Int), (3 : Int), (2 : Int), (2 : Int), (3 : Int), (1 : Int)] : List Int) (a.val : Int) + ixL ([(1 : Int), (1 : Int), (0 : Int), (2 : Int), (0 : Int), (2 : Int), (1 : Int), (1 : Int), (3 : Int)] : List Int) (a.val : Int) ≤ 4 := by decide +kernel
theorem frameW_sat {pool : List Int} {n shapes : Int} (hp : PoolOk n pool) (hn : 10 ≤ n) (s0 : 0 < shapes) (s9 : shapes ≤ 9) : (m_law_frame pool shapes).sat FrW := by
  obtain ⟨i0, a0, b0⟩ := hp.at (i := 0) (by omega) (by omega)
  obtain ⟨i1, a1, b1⟩ := hp.at (i := 1) (by omega) (by omega)
  obtain ⟨i2, a2, b2⟩ := hp.at (i := 2) (by omega) (by omega)
  have hsh0 := Int.emod_nonneg (ixL pool 0) (show shapes ≠ 0 by omega)
  have hsh1 := Int.emod_lt_of_pos (ixL pool 0) s0
  unfold m_law_frame
  refine sat_req ⟨i0, s0⟩ (sat_bnd (sat_req ⟨hsh0, by omega⟩ (sat_bnd (sat_bnd ?_))))
  obtain ⟨sh, esh⟩ := fin_of (n := 9) (i := ixL pool 0 % shapes) hsh0 (by omega)
  obtain ⟨q1, q2⟩ := shape_all sh
  have q4 := shape_all2 sh
  rw [esh] at q1 q2 q4
  generalize (ixL _ (ixL pool 0 % shapes) : Int) = many at q1 q4 ⊢
  generalize (ixL _ (ixL pool 0 % shapes) : Int) = count at q2 q4 ⊢
  obtain ⟨pa, epa⟩ := fin_of (n := 6) (i := ixL pool 1 % 6) (by omega) (by omega)
  obtain ⟨m, em⟩ := fin_of (n := 3) (i := many - 1) (by omega) (by omega)
  obtain ⟨l1, l2, l3⟩ := let_all pa m
  obtain ⟨l5, l6⟩ := let_all2 pa m
  rw [epa, show (m.val : Int) + 1 = many by omega] at l1 l3 l5 l6
  rw [epa] at l2
  refine sat_req ⟨i1, by rw [size_big]; show (ixL perms _).length ≤ _; rw [l2]; decide⟩ (sat_bnd (sat_req i2 (sat_bnd (sat_bnd (sat_bnd (sat_req (by omega) ?_))))))
  obtain ⟨ba, eba⟩ := fin_of (n := 4) (i := ixL pool 2 % 4) (by omega) (by omega)
  have hb := base_all ba
  rw [eba] at hb
  generalize (ixL _ (ixL pool 2 % 4) : Int) = base at hb ⊢
  obtain ⟨fa, efa⟩ := fin_of (n := 5) (i := ixL pool 2 / 4 % 5) (by omega) (by omega)
  have hf := far_all fa
  rw [efa] at hf
  generalize (ixL _ (ixL pool 2 / 4 % 5) : Int) = far at hf ⊢
  generalize hL : cutS (ixL perms (ixL pool 1 % 6)) none (some many) = L at l1 l3 l5 l6
  have e18 : (10 : Nat) ^ 18 = 1000000000000000000 := by decide
  have e15 : (10 : Nat) ^ 15 = 1000000000000000 := by decide
  have hlet : ∀ i : Int, 0 ≤ i → i < (L.length : Int) → ∃ c : Fin 3, ixS L i = lN c := fun i h0 h1 => by
    obtain ⟨j, ej⟩ := fin_of (n := 3) (i := i) h0 (by omega)
    have := l3 j (by omega)
    rw [ej] at this
    exact lN_of this
  refine sat_bind (sat_forR (fun i (r : List (Str × Int)) => r.length = i ∧ (∀ p ∈ r, ∃ c : Fin 3, p.1 = cS (lN c) ∧ p.2.natAbs < 10 ^ 18) ∧ ∀ p ∈ r, ∃ c : Fin 3, p.1 = cS (lN c) ∧ lN c ∈ charsL L) ⟨rfl, by simp, by simp⟩ fun i r hi hr => ?_) fun r hr => sat_ret ⟨⟨?_, ?_, ?_, ?_, hr.2.1, ?_⟩, l5, l6, hr.2.2, ?_⟩
  · obtain ⟨i4, a4, b4⟩ := hp.at (i := 4 + 2 * (i : Int)) (by omega) (by omega)
    obtain ⟨i3, a3, b3⟩ := hp.at (i := 3 + 2 * (i : Int)) (by omega) (by omega)
    have hd0 := Int.emod_nonneg (ixL pool (3 + 2 * (i : Int))) (show many ≠ 0 by omega)
    have hd1 := Int.emod_lt_of_pos (ixL pool (3 + 2 * (i : Int))) (show 0 < many by omega)
    have hl : ((m.val + 1 : Nat) : Int) = many := by omega
    refine sat_req ⟨i4, .inl ⟨by omega, by omega⟩⟩ (sat_bnd (sat_req ⟨i3, by omega, ⟨hd0, by omega⟩, by rw [size_big]; omega, by rw [size_big]; omega⟩ (sat_bnd (sat_ret ⟨by simp [hr.1], fun p hp => ?_, fun p hp => ?_⟩))))
    · rcases List.mem_append.mp hp with hp | hp
      · exact hr.2.1 p hp
      · rw [List.mem_singleton.mp hp]
        obtain ⟨c, ec⟩ := hlet _ hd0 (by omega)
        refine ⟨c, by rw [← ec], ?_⟩
        rw [e18]
        have h3 : i = 0 ∨ i = 1 ∨ i = 2 := by omega
        show ((base + ixL pool (4 + 2 * (i : Int)) % 7 - 3) + (i : Int) * far).natAbs < _
        have hz : 0 ≤ ixL pool (4 + 2 * (i : Int)) % 7 ∧ ixL pool (4 + 2 * (i : Int)) % 7 < 7 := by omega
        generalize ixL pool (4 + 2 * (i : Int)) % 7 = z at hz ⊢
        clear i3 i4 a3 b3 a4 b4 hr hd0 hd1 hl hp
        rcases h3 with rfl | rfl | rfl <;> omega
    · rcases List.mem_append.mp hp with hp | hp
      · exact hr.2.2 p hp
      · rw [List.mem_singleton.mp hp]
        obtain ⟨c, ec⟩ := hlet _ hd0 (by omega)
        refine ⟨c, by rw [← ec], ?_⟩
        rw [← ec]; exact ixS_mem hd0 (by omega)
  · show 0 < L.length; omega
  · show L.length ≤ 3; omega
  · exact hlet
  · have := hr.1; show r.length ≤ 3; omega
  · rw [e15]; exact hb
  · have := hr.1; show L.length + r.length ≤ 4; omega
def Fm.M : Fm → List (Fin 3 × Int)
  | .cmp _ _ => []
  | .mark c _ k => [(c, k)]
  | .un _ f => f.M
  | .bin _ f g => f.M ++ g.M
def Fm.C : Fm → Fin 3 → Bool
  | .cmp _ c => fun x => decide (x = c)
  | .mark c _ _ => fun x => decide (x = c)
  | .un _ f => f.C
  | .bin _ f g => fun x => f.C x || g.C x
theorem lettersOf_tl (B : Nat → Bool) : tl (lettersOf B) = [97, 98, 99].filter B := by
  have j : ∀ ls : List Nat, tl (Txt.join (Str.ofString "") (ls.map cS)) = ls := fun ls => by
    rw [join_eq]
    have e0 : Str.ofString "" = (⟨#[]⟩ : Str) := by decide +kernel
    rw [e0]
    induction ls with
    | nil => rfl
    | cons a ls ih =>
      cases ls with
      | nil => rfl
      | cons b ls =>
        have : Str.join ⟨#[]⟩ ((a :: b :: ls).map cS) = (cS a ++ ⟨#[]⟩) ++ Str.join ⟨#[]⟩ ((b :: ls).map cS) := rfl
        rw [this, tl_app, tl_app, ih]; rfl
  exact j _
theorem charsL_letters (B : Nat → Bool) : charsL (lettersOf B) = [97, 98, 99].filter B := lettersOf_tl B
theorem col_l : ∀ c : Fin 3, lN c ∈ [97, 98, 99] := by decide +kernel
theorem col_of {l : Nat} (h : l ∈ [97, 98, 99]) : ∃ c : Fin 3, l = lN c := lN_of h
abbrev colS (C : Fin 3 → Bool) : Str := lettersOf fun l => if l = 97 then C 0 else if l = 98 then C 1 else C 2
theorem colS_l (C : Fin 3 → Bool) (c : Fin 3) : (if lN c = 97 then C 0 else if lN c = 98 then C 1 else C 2) = C c := by
  have : c = 0 ∨ c = 1 ∨ c = 2 := by revert c; decide
  rcases this with rfl | rfl | rfl <;> rfl
theorem colS_mem (C : Fin 3 → Bool) (c : Fin 3) : decide (lN c ∈ charsL (colS C)) = C c := by
  rw [charsL_letters, Bool.eq_iff_iff, decide_eq_true_eq, List.mem_filter]
  have q := colS_l C c
  exact ⟨fun h => by rw [← q]; exact h.2, fun h => ⟨col_l c, by rw [← q] at h; exact h⟩⟩
structure MkL (r : List Mk2) (M : List (Fin 3 × Int)) : Prop where
  srt : r.Pairwise LT2
  len : r.length ≤ 3000
  mem : ∀ p, p ∈ r ↔ ∃ q ∈ M, p = (cS (lN q.1), q.2)
theorem nodup_sub {α : Type} [DecidableEq α] : ∀ (xs ys : List α), xs.Nodup → (∀ x ∈ xs, x ∈ ys) → xs.length ≤ ys.length := fun xs => by
  induction xs with
  | nil => intro ys _ _; exact Nat.zero_le _
  | cons x xs ih =>
    intro ys nd hs
    obtain ⟨n1, n2⟩ := List.nodup_cons.mp nd
    have hx := hs x List.mem_cons_self
    have := ih (ys.erase x) n2 fun y hy => (List.mem_erase_of_ne fun q => n1 (by rw [← q]; exact hy)).mpr (hs y (List.mem_cons_of_mem _ hy))
    rw [List.length_erase_of_mem hx] at this
    have := List.length_pos_of_mem hx
    simp only [List.length_cons]; omega
theorem cSlN_inj {c d : Fin 3} (h : cS (lN c) = cS (lN d)) : c = d := by
  have := congrArg cF h
  rwa [cF_l, cF_l] at this
theorem notin_l (c : Fin 3) (z : Str) : (!(!(Builtin.Str.occurrences z (cS (lN c)) 0 z.length 1).isEmpty)) = !decide (lN c ∈ charsL z) := by
  have := StrLaws.found_one z (lN c)
  rw [show (!(Builtin.Str.occurrences z (cS (lN c)) 0 z.length 1).isEmpty) = decide (lN c ∈ charsL z) from this]
abbrev consts (r : List Mk2) (c : Fin 3) : List Int := ((r.filter (fun (x2 : (Str × Int)) => (decide (x2.1 = cS (lN c))))).map (fun (x2 : (Str × Int)) => x2.2))
theorem consts_mem {r : List Mk2} {M : List (Fin 3 × Int)} (h : MkL r M) (c : Fin 3) (k : Int) : k ∈ consts r c ↔ k ∈ mkOf M c := by
  simp only [consts, mkOf, List.mem_map, List.mem_filter, decide_eq_true_eq]
  constructor
  · rintro ⟨p, ⟨hp, e⟩, rfl⟩
    obtain ⟨q, hq, rfl⟩ := (h.mem p).mp hp
    exact ⟨q, ⟨hq, cSlN_inj e⟩, rfl⟩
  · rintro ⟨q, ⟨hq, e⟩, rfl⟩
    exact ⟨(cS (lN q.1), q.2), ⟨(h.mem _).mpr ⟨q, hq, rfl⟩, by rw [e]⟩, rfl⟩
theorem consts_srt {r : List Mk2} {M : List (Fin 3 × Int)} (h : MkL r M) (c : Fin 3) : (consts r c).Pairwise (· < ·) := by
  unfold consts
  rw [List.pairwise_map]
  refine (h.srt.filter _).imp_of_mem fun {a b} ha hb hlt => ?_
  have e1 := of_decide_eq_true (List.mem_filter.mp ha).2
  have e2 := of_decide_eq_true (List.mem_filter.mp hb).2
  have : ky a = ky b := by unfold ky; rw [e1, e2]
  omega
theorem head_min {xs : List Int} (h : xs.Pairwise (· < ·)) (hp : xs ≠ []) : ixL xs 0 ∈ xs ∧ ∀ k ∈ xs, ixL xs 0 ≤ k := by
  cases xs with
  | nil => exact absurd rfl hp
  | cons x xs =>
    have e : ixL (x :: xs) 0 = x := rfl
    rw [e]
    refine ⟨List.mem_cons_self, fun k hk => ?_⟩
    rcases List.mem_cons.mp hk with rfl | hk
    · exact Int.le_refl _
    · exact Int.le_of_lt ((List.pairwise_cons.mp h).1 k hk)
structure ValsOk (n : Nat) (r : List Mk2) (b : Bool) (ks : List Int) (c : Fin 3) (v : List Int) : Prop where
  yes : b = true → NearV n ks v
  no : b = false → v = [0]
  len : v.length ≤ if b = true then (if (consts r c).length = 0 then n else n + (consts r c).length * (n + 1)) else 1
theorem near_sat {r : List Mk2} {M : List (Fin 3 × Int)} (h : MkL r M) (c : Fin 3) (z : Str) {n : Nat} (hn : n ≤ 3) : (m_values_near (cS (lN c)) z r (n : Int)).sat (ValsOk n r (decide (lN c ∈ charsL z)) (mkOf M c) c) := by
  have hrl := h.len
  have hcl : (consts r c).length ≤ 3000 := by
    unfold consts; rw [List.length_map]; exact Nat.le_trans (List.length_filter_le _ _) hrl
  unfold m_values_near
  rw [notin_l]
  refine sat_ite (fun hb => sat_ret ?_) fun hb => ?_
  · have hb : decide (lN c ∈ charsL z) = false := by simpa using hb
    rw [hb]
    exact ⟨(fun h => by cases h), fun _ => rfl, Nat.le_refl 1⟩
  have hb : decide (lN c ∈ charsL z) = true := by simpa using hb
  rw [hb]
  refine sat_req (by rw [size_big]; omega) (sat_bnd (sat_ite (fun he => sat_req ⟨by omega, by omega⟩ (sat_ret ?_)) fun he => ?_))
  · have he : consts r c = [] := by
      have : (consts r c).isEmpty = true := by simpa using he
      exact List.isEmpty_iff.mp this
    have hk : mkOf M c = [] := List.eq_nil_iff_forall_not_mem.mpr fun k hk => by
      have := (consts_mem h c k).mpr hk
      rw [he] at this; cases this
    refine ⟨fun _ => ?_, fun q => (by cases q), ?_⟩
    · rw [hk]
      refine ⟨fun _ h => (by cases h), fun q => absurd rfl q, fun _ => ⟨fun i => (i : Int), fun i j hij _ => by show (i : Int) < (j : Int); omega, fun i hi => ?_⟩⟩
      unfold rangeL
      exact List.mem_map.mpr ⟨i, List.mem_range.mpr (by omega), by show 0 + (i : Int) = (i : Int); omega⟩
    · rw [he]
      simp [rangeL]
  · have hne : consts r c ≠ [] := fun e => by
      have he : (!(!(consts r c).isEmpty)) = false := he
      rw [e] at he; cases he
    have hpos : 0 < (consts r c).length := List.length_pos_iff.mpr hne
    obtain ⟨m1, m2⟩ := head_min (consts_srt h c) hne
    refine sat_req ⟨by omega, fun _ _ => ⟨Int.le_refl 0, by show (0 : Int) < ((consts r c).length : Int); omega⟩, by rw [size_big]; simp [rangeL]; omega⟩ (sat_bnd ?_)
    rw [filter_t]
    generalize hv0 : (rangeL (1 : Int) ((n : Int) + (1 : Int))).map (fun (x9 : Int) => ((ixL (consts r c) (0 : Int)) - x9)) = v0
    have l0 : v0.length = n := by rw [← hv0]; simp [rangeL]
    have i0 : ∀ i : Nat, 1 ≤ i → i ≤ n → ixL (consts r c) 0 - (i : Int) ∈ v0 := fun i h1 h2 => by
      rw [← hv0]
      refine List.mem_map.mpr ⟨(i : Int), ?_, rfl⟩
      unfold rangeL
      exact List.mem_map.mpr ⟨i - 1, List.mem_range.mpr (by omega), by omega⟩
    refine sat_bind (P := fun v => (∀ x ∈ v0, x ∈ v) ∧ (∀ k ∈ consts r c, ∀ i : Nat, i ≤ n → k + (i : Int) ∈ v) ∧ v.length ≤ n + (consts r c).length * (n + 1)) ?_ fun v hv => ?_
    · refine sat_mono (sat_forN (fun j v => (∀ x ∈ v0, x ∈ v) ∧ (∀ k ∈ (consts r c).take j, ∀ i : Nat, i ≤ n → k + (i : Int) ∈ v) ∧ v.length ≤ n + j * (n + 1) ∧ j ≤ (consts r c).length) ⟨fun x hx => hx, by simp, by omega, Nat.zero_le _⟩ fun j k v hj hv => ?_) fun v hv => ⟨hv.1, by have := hv.2.1; rw [List.take_length] at this; exact this, hv.2.2.1⟩
      obtain ⟨a1, a2, a3, a4⟩ := hv
      have hjl : j < (consts r c).length := (List.getElem?_eq_some_iff.mp hj).1
      have hjb : j * (n + 1) ≤ 3000 * 4 := Nat.mul_le_mul (by omega) (by omega)
      refine sat_req ⟨by omega, by omega⟩ (sat_bind (P := fun w => (∀ x ∈ v, x ∈ w) ∧ (∀ i : Nat, i ≤ n → k + (i : Int) ∈ w) ∧ w.length ≤ v.length + (n + 1)) ?_ fun w hw => sat_ret ⟨fun x hx => hw.1 x (a1 x hx), fun k' hk' i hi => ?_, ?_, hjl⟩)
      · refine sat_mono (sat_forR (n := (n : Int) + 1) (fun i w => (∀ x ∈ v, x ∈ w) ∧ (∀ i' : Nat, i' < i → k + (i' : Int) ∈ w) ∧ w.length ≤ v.length + i) ⟨fun x hx => hx, fun i' h => by omega, Nat.le_refl _⟩ fun i w hi hw => ?_) fun w hw => ⟨hw.1, fun i hi => hw.2.1 i (by omega), by have := hw.2.2; omega⟩
        obtain ⟨b1, b2, b3⟩ := hw
        refine sat_ite (fun hb => sat_req (by rw [size_big]; omega) (sat_bnd (sat_ret ⟨fun x hx => List.mem_append_left _ (b1 x hx), fun i' hi' => ?_, by rw [List.length_append]; simp; omega⟩))) fun hb => sat_ret ⟨b1, fun i' hi' => ?_, by omega⟩
        · by_cases q : i' = i
          · rw [q]; exact List.mem_append_right _ (List.mem_singleton.mpr rfl)
          · exact List.mem_append_left _ (b2 i' (by omega))
        · by_cases q : i' = i
          · rw [q]; simpa using hb
          · exact b2 i' (by omega)
      · rw [take_at hj] at hk'
        rcases List.mem_append.mp hk' with hk' | hk'
        · exact hw.1 _ (a2 k' hk' i hi)
        · rw [List.mem_singleton.mp hk']; exact hw.2.1 i hi
      · have := hw.2.2
        rw [Nat.succ_mul]; omega
    · obtain ⟨b1, b2, b3⟩ := hv
      have hcb : (consts r c).length * (n + 1) ≤ 3000 * 4 := Nat.mul_le_mul (by omega) (by omega)
      refine sat_req (by rw [size_big]; omega) (sat_ret ?_)
      rw [filter_t, List.map_id']
      refine ⟨fun _ => ⟨fun k hk i hi => ?_, fun _ => ⟨ixL (consts r c) 0, (consts_mem h c _).mp m1, fun k hk => m2 k ((consts_mem h c k).mpr hk), fun i h1 h2 => ?_⟩, fun e => ?_⟩, fun q => (by cases q), ?_⟩
      · rw [sortI_mem]; exact b2 k ((consts_mem h c k).mpr hk) i hi
      · rw [sortI_mem]; exact b1 _ (i0 i h1 h2)
      · have := (consts_mem h c _).mp m1
        rw [e] at this; cases this
      · rw [sortI_len, if_pos rfl, if_neg (by omega)]; exact b3
theorem fm3 {α β γ δ : Type} (a : List α) (b : List β) (c : List γ) (f : α → β → γ → δ) (x : δ) : x ∈ a.flatMap (fun i => b.flatMap fun j => c.map fun k => f i j k) ↔ ∃ i ∈ a, ∃ j ∈ b, ∃ k ∈ c, f i j k = x := by
  simp only [List.mem_flatMap, List.mem_map]
theorem fm3_len {α β γ δ : Type} (a : List α) (b : List β) (c : List γ) (f : α → β → γ → δ) : (a.flatMap (fun i => b.flatMap fun j => c.map fun k => f i j k)).length = a.length * (b.length * c.length) := by
  have h2 : ∀ (i : α) (b : List β), (b.flatMap fun j => c.map fun k => f i j k).length = b.length * c.length := fun i b => by
    induction b with
    | nil => simp
    | cons y ys ih => rw [List.flatMap_cons, List.length_append, ih, List.length_map, List.length_cons, Nat.succ_mul]; omega
  induction a with
  | nil => simp
  | cons x xs ih => rw [List.flatMap_cons, List.length_append, ih, h2, List.length_cons, Nat.succ_mul]; omega
theorem row_all {vals : Fin 3 → List Int} (row : Row) : (∀ c : Fin 3, rowAt row (c.val : Int) ∈ vals c) ↔ ∃ i ∈ vals 0, ∃ j ∈ vals 1, ∃ k ∈ vals 2, (i, j, k) = row := by
  obtain ⟨a, b, d⟩ := row
  constructor
  · intro h
    exact ⟨a, h 0, b, h 1, d, h 2, rfl⟩
  · rintro ⟨i, hi, j, hj, k, hk, e⟩ c
    injection e with e1 e2
    injection e2 with e2 e3
    subst e1 e2 e3
    have : c = 0 ∨ c = 1 ∨ c = 2 := by revert c; decide
    rcases this with rfl | rfl | rfl
    · exact hi
    · exact hj
    · exact hk
abbrev bnd1 (n m : Nat) (b : Bool) : Nat := if b = true then (if m = 0 then n else n + m * (n + 1)) else 1
theorem bnd_all : ∀ (b0 b1 b2 : Bool) (n : Fin 4) (m0 m1 m2 : Fin 5), (if b0 = true then 1 else 0) + (if b1 = true then 1 else 0) + (if b2 = true then 1 else 0) + (m0.val + m1.val + m2.val) ≤ 4 → bnd1 n.val m0.val b0 * (bnd1 n.val m1.val b1 * bnd1 n.val m2.val b2) ≤ 100 := by decide +kernel
theorem consts_sum {r : List Mk2} {M : List (Fin 3 × Int)} (h : MkL r M) : (consts r 0).length + (consts r 1).length + (consts r 2).length ≤ r.length := by
  have : ∀ r : List Mk2, (consts r 0).length + (consts r 1).length + (consts r 2).length ≤ r.length := fun r => by
    induction r with
    | nil => exact Nat.le_refl _
    | cons p r ih =>
      have q : ∀ c : Fin 3, (consts (p :: r) c).length = (if p.1 = cS (lN c) then 1 else 0) + (consts r c).length := fun c => by
        unfold consts
        rw [List.length_map, List.length_map, List.filter_cons]
        by_cases e : p.1 = cS (lN c)
        · rw [if_pos (decide_eq_true e), if_pos e, List.length_cons]; omega
        · rw [if_neg (by rw [decide_eq_false e]; decide), if_neg e]; omega
      rw [q, q, q, List.length_cons]
      have d01 : ¬ (p.1 = cS (lN 0) ∧ p.1 = cS (lN 1)) := fun ⟨a, b⟩ => absurd (cSlN_inj (a.symm.trans b)) (by decide)
      have d02 : ¬ (p.1 = cS (lN 0) ∧ p.1 = cS (lN 2)) := fun ⟨a, b⟩ => absurd (cSlN_inj (a.symm.trans b)) (by decide)
      have d12 : ¬ (p.1 = cS (lN 1) ∧ p.1 = cS (lN 2)) := fun ⟨a, b⟩ => absurd (cSlN_inj (a.symm.trans b)) (by decide)
      by_cases a : p.1 = cS (lN 0)
      · rw [if_pos a, if_neg fun b => d01 ⟨a, b⟩, if_neg fun b => d02 ⟨a, b⟩]; omega
      · rw [if_neg a]
        by_cases b : p.1 = cS (lN 1)
        · rw [if_pos b, if_neg fun d => d12 ⟨b, d⟩]; omega
        · rw [if_neg b]; split <;> omega
  exact this r
theorem colS_len (C : Fin 3 → Bool) : (colS C).length = (if C 0 = true then 1 else 0) + (if C 1 = true then 1 else 0) + (if C 2 = true then 1 else 0) := by
  rw [len_tl, lettersOf_tl]
  cases C 0 <;> cases C 1 <;> cases C 2 <;> rfl
theorem weightX_sat {z : Str} {r : List Mk2} (h : z.length + r.length ≤ 4) : (mx_check_weight z r).sat (· = .rt ()) := by
  unfold mx_check_weight
  exact sat_req (by rw [size_big]; omega) (sat_bnd (sat_ite (fun q => absurd (of_decide_eq_true q) (by omega)) fun _ => sat_ret rfl))
theorem weightH_sat {z : Str} {r : List Mk2} (h : 4 < z.length + r.length) (hz : z.length ≤ 100) {w : Int} (hw : w = (z.length : Int) + (r.length : Int)) : (mx_check_weight z r).sat (· = .ex ⟨4, .int w⟩) := by
  subst hw
  unfold mx_check_weight
  exact sat_req (by rw [size_big]; omega) (sat_bnd (sat_ite (fun _ => sat_ret rfl) fun q => absurd (of_decide_eq_false q) (by omega)))
theorem step_mem {α : Type} [DecidableEq α] (xs : List α) (x y : α) : y ∈ stepT xs x ↔ y ∈ xs ∨ y = x := by
  unfold stepT
  split
  · rename_i h
    exact ⟨.inl, fun q => q.elim id fun e => e ▸ h⟩
  · simp
theorem once_mem {α : Type} [DecidableEq α] (xs : List α) (y : α) : y ∈ onceL xs ↔ y ∈ xs := by
  have : ∀ (xs acc : List α), y ∈ xs.foldl stepT acc ↔ y ∈ acc ∨ y ∈ xs := by
    intro xs
    induction xs with
    | nil => intro acc; simp
    | cons x xs ih => intro acc; rw [List.foldl_cons, ih, step_mem, List.mem_cons]; exact or_assoc
  have h := this xs []
  show y ∈ xs.foldl stepT [] ↔ _
  rw [h]; simp
theorem cnt_one {V : List Int} {p q : Int → Bool} {y : Int} (hy : y ∈ V) (hp : p y = true) (hq : q y = false) (h : ∀ x ∈ V, p x = true ↔ q x = true ∨ x = y) : cnt V p = cnt V q + 1 := by
  have nd := dd_nodup V
  have n1 : cnt V p ≤ cnt V q + 1 := by
    have := nodup_sub ((dd V).filter p) (y :: (dd V).filter q) (nd.filter _) fun x hx => by
      obtain ⟨a, b⟩ := List.mem_filter.mp hx
      rcases (h x ((dd_mem V x).mp a)).mp b with w | w
      · exact List.mem_cons_of_mem _ (List.mem_filter.mpr ⟨a, w⟩)
      · rw [w]; exact List.mem_cons_self
    rw [List.length_cons] at this
    exact this
  have n2 : cnt V q + 1 ≤ cnt V p := by
    have := nodup_sub (y :: (dd V).filter q) ((dd V).filter p) (List.nodup_cons.mpr ⟨fun w => (by rw [(List.mem_filter.mp w).2] at hq; cases hq), nd.filter _⟩) fun x hx => by
      rcases List.mem_cons.mp hx with w | w
      · rw [w]; exact List.mem_filter.mpr ⟨(dd_mem V y).mpr hy, hp⟩
      · obtain ⟨a, b⟩ := List.mem_filter.mp w
        exact List.mem_filter.mpr ⟨a, (h x ((dd_mem V x).mp a)).mpr (.inl b)⟩
    rw [List.length_cons] at this
    exact this
  omega
theorem cnt_none {V : List Int} {p : Int → Bool} (h : ∀ x ∈ V, p x = false) : cnt V p = 0 := by
  unfold cnt
  rw [List.length_eq_zero_iff, List.filter_eq_nil_iff]
  intro x hx
  rw [h x ((dd_mem V x).mp hx)]; decide
theorem max_of {p : Int → Prop} : ∀ {V : List Int}, (∃ w ∈ V, p w) → ∃ w ∈ V, p w ∧ ∀ x ∈ V, p x → x ≤ w
  | [], ⟨_, h, _⟩ => by cases h
  | v :: V, h => by
    by_cases q : ∃ w ∈ V, p w
    · obtain ⟨w, h1, h2, h3⟩ := max_of q
      by_cases e : p v ∧ w < v
      · exact ⟨v, List.mem_cons_self, e.1, fun x hx px => (List.mem_cons.mp hx).elim (fun z => by omega) fun z => by have := h3 x z px; omega⟩
      · refine ⟨w, List.mem_cons_of_mem _ h1, h2, fun x hx px => (List.mem_cons.mp hx).elim (fun z => ?_) fun z => h3 x z px⟩
        subst z
        by_cases l : w < x
        · exact absurd ⟨px, l⟩ e
        · omega
    · obtain ⟨w, h1, h2⟩ := h
      rcases List.mem_cons.mp h1 with rfl | h1
      · exact ⟨w, List.mem_cons_self, h2, fun x hx px => (List.mem_cons.mp hx).elim (fun z => by omega) fun z => absurd ⟨x, z, px⟩ q⟩
      · exact absurd ⟨w, h1, h2⟩ q
theorem min_of {p : Int → Prop} {V : List Int} (h : ∃ w ∈ V, p w) : ∃ w ∈ V, p w ∧ ∀ x ∈ V, p x → w ≤ x := by
  obtain ⟨w, h1, h2⟩ := h
  obtain ⟨m, m1, m2, m3⟩ := max_of (p := fun x => p (-x)) (V := V.map fun x => -x) ⟨-w, List.mem_map_of_mem h1, by rw [Int.neg_neg]; exact h2⟩
  obtain ⟨u, hu, e⟩ := List.mem_map.mp m1
  refine ⟨u, hu, by rw [← e, Int.neg_neg] at m2; exact m2, fun x hx px => ?_⟩
  have := m3 (-x) (List.mem_map_of_mem (f := fun x => -x) hx) (by rw [Int.neg_neg]; exact px)
  omega
def PkP (vs ks : List Int) (u : Int) : Prop := u ∈ ks ∨ (ks = [] ∧ (u = 0 ∨ u - 1 ∈ vs)) ∨ (ks ≠ [] ∧ (∀ k ∈ ks, u < k) ∧ (u + 1 ∈ vs ∨ u + 1 ∈ ks)) ∨ (ks ≠ [] ∧ (∃ k ∈ ks, k ≤ u) ∧ (u - 1 ∈ vs ∨ u - 1 ∈ ks))
def pk1 (V ks : List Int) (v : Int) : Int :=
  if v ∈ ks then v else if ks = [] then ((cnt V fun w => decide (w < v) : Nat) : Int)
  else if (ks.filter fun k => decide (k < v)) = [] then minL ks - ((cnt V fun w => decide (v ≤ w) && decide (w < minL ks) : Nat) : Int)
  else maxL (ks.filter fun k => decide (k < v)) + ((cnt V fun w => decide (maxL (ks.filter fun k => decide (k < v)) < w) && decide (w ≤ v) : Nat) : Int)
theorem cnt_dd (V : List Int) (p : Int → Bool) : cnt V p ≤ (dd V).length := List.length_filter_le _ _
theorem pk1_low {V ks : List Int} {k0 v : Int} (hk0 : k0 ∈ ks) (hmin : ∀ k ∈ ks, k0 ≤ k) (hv : v < k0) : pk1 V ks v = k0 - ((cnt V fun w => decide (v ≤ w) && decide (w < k0) : Nat) : Int) := by
  have hm : minL ks = k0 := by
    obtain ⟨a, b⟩ := minL_spec (List.length_pos_of_mem hk0)
    have := hmin _ a
    have := b _ hk0
    omega
  unfold pk1
  rw [if_neg (fun q => by have := hmin v q; omega), if_neg (fun q => by rw [q] at hk0; cases hk0), if_pos (List.filter_eq_nil_iff.mpr fun k hk => by have := hmin k hk; simp; omega), hm]
theorem pk1_high {V ks : List Int} {k0 v : Int} (hk0 : k0 ∈ ks) (hv : k0 ≤ v) : pk1 V ks v = gmax (ks.filter fun k => decide (k ≤ v)) k0 + ((cnt V fun w => decide (gmax (ks.filter fun k => decide (k ≤ v)) k0 < w) && decide (w ≤ v) : Nat) : Int) := by
  have g1 := gmax_spec (ks.filter fun k => decide (k ≤ v)) k0
  have gin : gmax (ks.filter fun k => decide (k ≤ v)) k0 ∈ ks := by
    rcases g1.1 with e | e
    · rw [e]; exact hk0
    · exact (List.mem_filter.mp e).1
  have gle : gmax (ks.filter fun k => decide (k ≤ v)) k0 ≤ v := by
    rcases g1.1 with e | e
    · rw [e]; exact hv
    · exact of_decide_eq_true (List.mem_filter.mp e).2
  have gge : ∀ k ∈ ks, k ≤ v → k ≤ gmax (ks.filter fun k => decide (k ≤ v)) k0 := fun k hk hle => g1.2.2 k (List.mem_filter.mpr ⟨hk, decide_eq_true hle⟩)
  generalize gmax (ks.filter fun k => decide (k ≤ v)) k0 = g at gin gle gge ⊢
  unfold pk1
  by_cases q : v ∈ ks
  · have := gge v q (Int.le_refl _)
    have e : g = v := by omega
    subst e
    have z0 : cnt V (fun w => decide (g < w) && decide (w ≤ g)) = 0 := cnt_none fun x _ => by
      by_cases q : g < x
      · rw [decide_eq_false (show ¬ x ≤ g by omega), Bool.and_false]
      · rw [decide_eq_false q, Bool.false_and]
    rw [if_pos q, z0]
    simp
  · have hlt : g < v := by
      by_cases e : g = v
      · exact absurd (e ▸ gin) q
      · omega
    have gf : g ∈ ks.filter fun k => decide (k < v) := List.mem_filter.mpr ⟨gin, decide_eq_true hlt⟩
    have hm : maxL (ks.filter fun k => decide (k < v)) = g := by
      obtain ⟨a, b⟩ := maxL_spec (List.length_pos_of_mem gf)
      obtain ⟨a1, a2⟩ := List.mem_filter.mp a
      have a2 := of_decide_eq_true a2
      have := gge _ a1 (by omega)
      have := b _ gf
      omega
    rw [if_neg q, if_neg (fun z => by rw [z] at gin; cases gin), if_neg (fun z => by rw [z] at gf; cases gf), hm]
theorem pk1_nil {V : List Int} (v : Int) : pk1 V [] v = ((cnt V fun w => decide (w < v) : Nat) : Int) := by
  unfold pk1
  rw [if_neg (by simp), if_pos rfl]
theorem col_pkE (V ks : List Int) : (∀ v ∈ V, ∀ w ∈ V, v < w → pk1 V ks v < pk1 V ks w) ∧ (∀ v ∈ V, ∀ k ∈ ks, (v < k → pk1 V ks v < k) ∧ (k < v → k < pk1 V ks v) ∧ (v = k → pk1 V ks v = k)) ∧ ∀ v ∈ V, PkP (V.map (pk1 V ks)) ks (pk1 V ks v) := by
  by_cases hk : ks = []
  · subst hk
    refine ⟨fun v hv w hw hvw => ?_, fun v hv k hk' => (by cases hk'), fun v hv => .inr (.inl ⟨rfl, ?_⟩)⟩
    · have := cnt_lt (V := V) (p := fun x => decide (x < v)) (q := fun x => decide (x < w)) (y := v) (fun x hx => by have := of_decide_eq_true hx; exact decide_eq_true (by omega)) hv (by simpa using hvw) (by simp)
      rw [pk1_nil, pk1_nil]
      omega
    · by_cases q : ∃ w ∈ V, w < v
      · obtain ⟨w, hw, w1, w2⟩ := max_of (p := fun w => w < v) q
        right
        refine List.mem_map.mpr ⟨w, hw, ?_⟩
        have := cnt_one (V := V) (p := fun x => decide (x < v)) (q := fun x => decide (x < w)) (y := w) hw (by simpa using w1) (by simp) fun x hx => by
          simp only [decide_eq_true_eq]
          exact ⟨fun z => by have := w2 x hx z; omega, fun z => by omega⟩
        rw [pk1_nil, pk1_nil]
        omega
      · left
        have := cnt_none (V := V) (p := fun x => decide (x < v)) fun x hx => decide_eq_false fun z => q ⟨x, hx, z⟩
        rw [pk1_nil]
        omega
  · obtain ⟨k0, hk0, hmin⟩ : ∃ k0 ∈ ks, ∀ k ∈ ks, k0 ≤ k := ⟨minL ks, minL_spec (List.length_pos_iff.mpr hk)⟩
    let gm : Int → Int := fun v => gmax (ks.filter fun k => decide (k ≤ v)) k0
    have gm_in : ∀ v, gm v ∈ ks := fun v => by
      rcases (gmax_spec (ks.filter fun k => decide (k ≤ v)) k0).1 with e | e
      · show gmax _ _ ∈ ks
        rw [e]; exact hk0
      · exact (List.mem_filter.mp e).1
    have gm_le : ∀ v, k0 ≤ v → gm v ≤ v := fun v hv => by
      rcases (gmax_spec (ks.filter fun k => decide (k ≤ v)) k0).1 with e | e
      · show gmax _ _ ≤ v
        rw [e]; exact hv
      · exact of_decide_eq_true (List.mem_filter.mp e).2
    have gm_ge : ∀ v k, k ∈ ks → k ≤ v → k ≤ gm v := fun v k hk1 hk2 => (gmax_spec (ks.filter fun k => decide (k ≤ v)) k0).2.2 k (List.mem_filter.mpr ⟨hk1, decide_eq_true hk2⟩)
    let ψ : Int → Int := pk1 V ks
    have plow : ∀ v, v < k0 → ψ v = k0 - (cnt V fun w => decide (v ≤ w) && decide (w < k0) : Nat) := fun v hv => pk1_low hk0 hmin hv
    have phigh : ∀ v, ¬ v < k0 → ψ v = gm v + (cnt V fun w => decide (gm v < w) && decide (w ≤ v) : Nat) := fun v hv => pk1_high hk0 (by omega)
    have hlt : ∀ v ∈ V, v < k0 → ψ v < k0 := fun v hv hlt => by
      rw [plow v hlt]
      have := cnt_pos (V := V) (p := fun w => decide (v ≤ w) && decide (w < k0)) hv (by simpa using hlt)
      omega
    have hle : ∀ v, ¬ v < k0 → gm v ≤ ψ v ∧ ψ v ≤ v := fun v hv => by
      rw [phigh v hv]
      have h1 := gm_le v (by omega)
      have := cnt_up V (gm v) v h1
      omega
    have hgt : ∀ v ∈ V, ¬ v < k0 → gm v < v → gm v < ψ v := fun v hv hge hg => by
      rw [phigh v hge]
      have := cnt_pos (V := V) (p := fun w => decide (gm v < w) && decide (w ≤ v)) hv (by simpa using hg)
      omega
    have heq : ∀ v ∈ V, ∀ k ∈ ks, v = k → ψ v = k := fun v hv k hk1 e => by
      have hge : ¬ v < k0 := by have := hmin k hk1; omega
      have h1 := gm_ge v k hk1 (by omega)
      have h2 := gm_le v (by omega)
      have := hle v hge
      omega
    refine ⟨fun v hv w hw hvw => ?_, fun v hv k hk1 => ⟨fun hvk => ?_, fun hkv => ?_, heq v hv k hk1⟩, fun v hv => ?_⟩
    · show ψ v < ψ w
      by_cases hc : v < k0
      · by_cases hc2 : w < k0
        · rw [plow v hc, plow w hc2]
          have := cnt_lt (V := V) (p := fun x => decide (w ≤ x) && decide (x < k0)) (q := fun x => decide (v ≤ x) && decide (x < k0)) (y := v) (fun x hx => by simp only [Bool.and_eq_true, decide_eq_true_eq] at hx ⊢; omega) hv (by simpa using hc) (by simp; omega)
          omega
        · have h1 := hlt v hv hc
          have h2 := hle w hc2
          have h3 := hmin _ (gm_in w)
          omega
      · have hc2 : ¬ w < k0 := by omega
        have h1 := gm_ge w (gm v) (gm_in v) (by have := gm_le v (by omega); omega)
        by_cases e : gm v = gm w
        · rw [phigh v hc, phigh w hc2, ← e]
          have := cnt_lt (V := V) (p := fun x => decide (gm v < x) && decide (x ≤ v)) (q := fun x => decide (gm v < x) && decide (x ≤ w)) (y := w) (fun x hx => by simp only [Bool.and_eq_true, decide_eq_true_eq] at hx ⊢; omega) hw (by
            have := gm_le v (by omega)
            simp; omega) (by simp; omega)
          omega
        · have h2 := hle v hc
          have h3 := hle w hc2
          have h4 : v < gm w := by
            by_cases q : gm w ≤ v
            · have := gm_ge v (gm w) (gm_in w) q; omega
            · omega
          omega
    · show ψ v < k
      by_cases hc : v < k0
      · have := hlt v hv hc
        have := hmin k hk1
        omega
      · have := hle v hc; omega
    · show k < ψ v
      have hge : ¬ v < k0 := by have := hmin k hk1; omega
      have h1 := gm_ge v k hk1 (by omega)
      by_cases e : gm v < v
      · have := hgt v hv hge e; omega
      · have h2 := gm_le v (by omega)
        have := hle v hge
        omega
    · show PkP (V.map ψ) ks (ψ v)
      by_cases hc : v < k0
      · refine .inr (.inr (.inl ⟨hk, fun k hk1 => ?_, ?_⟩))
        · have := hlt v hv hc; have := hmin k hk1; omega
        · by_cases q : ∃ w ∈ V, v < w ∧ w < k0
          · obtain ⟨w, hw, w1, w2⟩ := min_of (p := fun w => v < w ∧ w < k0) q
            refine .inl (List.mem_map.mpr ⟨w, hw, ?_⟩)
            rw [plow v hc, plow w w1.2]
            have := cnt_one (V := V) (p := fun x => decide (v ≤ x) && decide (x < k0)) (q := fun x => decide (w ≤ x) && decide (x < k0)) (y := v) hv (by simpa using hc) (by simp; omega) fun x hx => by
              simp only [Bool.and_eq_true, decide_eq_true_eq]
              refine ⟨fun z => ?_, fun z => by omega⟩
              by_cases e : x = v
              · exact .inr e
              · have := w2 x hx ⟨by omega, z.2⟩; exact .inl ⟨this, z.2⟩
            omega
          · right
            have := cnt_one (V := V) (p := fun x => decide (v ≤ x) && decide (x < k0)) (q := fun _ => false) (y := v) hv (by simpa using hc) rfl fun x hx => by
              simp only [Bool.and_eq_true, decide_eq_true_eq]
              refine ⟨fun z => .inr ?_, fun z => by rcases z with z | z; · cases z
                                                    · omega⟩
              by_cases e : x = v
              · exact e
              · exact absurd ⟨x, hx, by omega, z.2⟩ q
            have z0 := cnt_none (V := V) (p := fun _ => false) fun _ _ => rfl
            rw [plow v hc, this, z0]
            rw [show k0 - ((0 + 1 : Nat) : Int) + 1 = k0 by omega]; exact hk0
      · have g1 := gm_le v (by omega)
        by_cases e : gm v = v
        · left
          rw [heq v hv (gm v) (gm_in v) e.symm]; exact gm_in v
        · refine .inr (.inr (.inr ⟨hk, ⟨gm v, gm_in v, (hle v hc).1⟩, ?_⟩))
          by_cases q : ∃ w ∈ V, gm v < w ∧ w < v
          · obtain ⟨w, hw, w1, w2⟩ := max_of (p := fun w => gm v < w ∧ w < v) q
            refine .inl (List.mem_map.mpr ⟨w, hw, ?_⟩)
            have hk0v := hmin _ (gm_in v)
            have gw : gm w = gm v := by
              have a1 := gm_ge w (gm v) (gm_in v) (by omega)
              have a2 := gm_le w (by omega)
              have a3 := gm_ge v (gm w) (gm_in w) (by omega)
              omega
            rw [phigh v hc, phigh w (by omega), gw]
            have := cnt_one (V := V) (p := fun x => decide (gm v < x) && decide (x ≤ v)) (q := fun x => decide (gm v < x) && decide (x ≤ w)) (y := v) hv (by simp; omega) (by simp; omega) fun x hx => by
              simp only [Bool.and_eq_true, decide_eq_true_eq]
              refine ⟨fun z => ?_, fun z => by omega⟩
              by_cases e : x = v
              · exact .inr e
              · have := w2 x hx ⟨z.1, by omega⟩; exact .inl ⟨z.1, this⟩
            omega
          · right
            have := cnt_one (V := V) (p := fun x => decide (gm v < x) && decide (x ≤ v)) (q := fun _ => false) (y := v) hv (by simp; omega) rfl fun x hx => by
              simp only [Bool.and_eq_true, decide_eq_true_eq]
              refine ⟨fun z => .inr ?_, fun z => by rcases z with z | z; · cases z
                                                    · omega⟩
              by_cases e : x = v
              · exact e
              · exact absurd ⟨x, hx, z.1, by omega⟩ q
            have z0 := cnt_none (V := V) (p := fun _ => false) fun _ _ => rfl
            rw [phigh v hc, this, z0]
            rw [show gm v + ((0 + 1 : Nat) : Int) - 1 = gm v by omega]; exact gm_in v
theorem col_vals {n : Nat} {ks vals V : List Int} (h : NearV n ks vals) (hfr : ks = [] → ∀ i : Nat, i < n → (i : Int) ∈ vals) (hn : (dd V).length ≤ n) : ∀ v ∈ V, pk1 V ks v ∈ vals := fun v hv => by
  by_cases hk : ks = []
  · subst hk
    have := cnt_lt (V := V) (p := fun w => decide (w < v)) (q := fun _ => true) (y := v) (fun _ _ => rfl) hv rfl (by simp)
    have := cnt_dd V (fun _ => true)
    rw [pk1_nil]
    exact hfr rfl _ (by omega)
  · obtain ⟨k0, hk0, hmin, hlow⟩ := h.low hk
    by_cases hc : v < k0
    · rw [pk1_low hk0 hmin hc]
      refine hlow _ (cnt_pos hv (by simpa using hc)) ?_
      exact Nat.le_trans (cnt_dd V _) hn
    · rw [pk1_high hk0 (by omega)]
      refine h.up _ ?_ _ (Nat.le_trans (cnt_dd V _) hn)
      rcases (gmax_spec (ks.filter fun k => decide (k ≤ v)) k0).1 with e | e
      · rw [e]; exact hk0
      · exact (List.mem_filter.mp e).1
theorem col_pack {n : Nat} {ks vals V : List Int} (h : NearV n ks vals) (hfr : ks = [] → ∀ i : Nat, i < n → (i : Int) ∈ vals) (hn : V.length ≤ n) : ∃ ψ : Int → Int, (∀ v ∈ V, ψ v ∈ vals) ∧ (∀ v ∈ V, ∀ w ∈ V, v < w → ψ v < ψ w) ∧ (∀ v ∈ V, ∀ k ∈ ks, (v < k → ψ v < k) ∧ (k < v → k < ψ v) ∧ (v = k → ψ v = k)) ∧ ∀ v ∈ V, PkP (V.map ψ) ks (ψ v) :=
  ⟨pk1 V ks, col_vals h hfr (Nat.le_trans (dd_len V) hn), col_pkE V ks⟩
theorem cnt_full {V : List Int} {a b : Int} {p : Int → Bool} (hab : a ≤ b) (hp : ∀ x, p x = true ↔ a < x ∧ x ≤ b) (h : ∀ x, a < x → x ≤ b → x ∈ V) : ((cnt V p : Nat) : Int) = b - a := by
  have h1 : cnt V p ≤ (b - a).toNat := nodup_len (b - a).toNat a ((dd V).filter p) ((dd_nodup V).filter _) fun x hx => by
    have := (hp x).mp (List.mem_filter.mp hx).2
    omega
  have h2 : (b - a).toNat ≤ cnt V p := by
    have := nodup_sub ((List.range (b - a).toNat).map fun i : Nat => a + 1 + (i : Int)) ((dd V).filter p) (List.pairwise_map.mpr (List.pairwise_lt_range.imp fun {i j} hij e => by omega)) fun x hx => by
      obtain ⟨i, hi, rfl⟩ := List.mem_map.mp hx
      have := List.mem_range.mp hi
      exact List.mem_filter.mpr ⟨(dd_mem V _).mpr (h _ (by omega) (by omega)), (hp _).mpr ⟨by omega, by omega⟩⟩
    rw [List.length_map, List.length_range] at this
    exact this
  omega
theorem pk1_id {V ks : List Int} (h : ∀ v ∈ V, PkP V ks v) {v : Int} (hv : v ∈ V) : pk1 V ks v = v := by
  by_cases hk : ks = []
  · subst hk
    have h' : ∀ v ∈ V, v = 0 ∨ v - 1 ∈ V := fun v hv => by
      rcases h v hv with w | w | w | w
      · cases w
      · exact w.2
      · exact absurd rfl w.1
      · exact absurd rfl w.1
    obtain ⟨m, hm, _, m2⟩ := min_of (p := fun _ => True) (V := V) ⟨v, hv, trivial⟩
    have m0 : m = 0 := by
      rcases h' m hm with w | w
      · exact w
      · have := m2 _ w trivial; omega
    have down : ∀ n : Nat, ∀ v ∈ V, (n : Int) ≤ v → v - n ∈ V := fun n => by
      induction n with
      | zero => intro v hv _; simpa using hv
      | succ n ih =>
        intro v hv hn
        have := ih v hv (by omega)
        rcases h' _ this with w | w
        · omega
        · rw [show v - ((n + 1 : Nat) : Int) = v - (n : Int) - 1 by omega]; exact w
    have v0 := m2 v hv trivial
    rw [pk1_nil]
    have := cnt_full (V := V) (a := -1) (b := v - 1) (p := fun w => decide (w < v) && decide (0 ≤ w)) (by omega) (fun x => by simp; omega) fun x x0 x1 => by
      have := down (v - x).toNat v hv (by omega)
      rw [show v - ((v - x).toNat : Int) = x by omega] at this
      exact this
    have e : cnt V (fun w => decide (w < v)) = cnt V (fun w => decide (w < v) && decide (0 ≤ w)) := by
      unfold cnt
      congr 1
      refine List.filter_congr fun x hx => ?_
      have := m2 x ((dd_mem V x).mp hx) trivial
      have : decide (0 ≤ x) = true := decide_eq_true (by omega)
      rw [this, Bool.and_true]
    rw [e]; omega
  · obtain ⟨k0, hk0, hmin⟩ : ∃ k0 ∈ ks, ∀ k ∈ ks, k0 ≤ k := ⟨minL ks, minL_spec (List.length_pos_iff.mpr hk)⟩
    by_cases hc : v < k0
    · rw [pk1_low hk0 hmin hc]
      have up : ∀ n : Nat, v + n < k0 → v + n ∈ V := fun n => by
        induction n with
        | zero => intro _; simpa using hv
        | succ n ih =>
          intro hn
          rcases h _ (ih (by omega)) with w | w | w | w
          · have := hmin _ w; omega
          · exact absurd w.1 hk
          · rcases w.2.2 with w | w
            · rw [show v + ((n + 1 : Nat) : Int) = v + (n : Int) + 1 by omega]; exact w
            · have := hmin _ w; omega
          · obtain ⟨k, hk1, hk2⟩ := w.2.1
            have := hmin k hk1; omega
      have := cnt_full (V := V) (a := v - 1) (b := k0 - 1) (p := fun w => decide (v ≤ w) && decide (w < k0)) (by omega) (fun x => by simp; omega) fun x x0 x1 => by
        have := up (x - v).toNat (by omega)
        rw [show v + ((x - v).toNat : Int) = x by omega] at this
        exact this
      omega
    · rw [pk1_high hk0 (by omega)]
      have g1 := gmax_spec (ks.filter fun k => decide (k ≤ v)) k0
      have gin : gmax (ks.filter fun k => decide (k ≤ v)) k0 ∈ ks := by
        rcases g1.1 with e | e
        · rw [e]; exact hk0
        · exact (List.mem_filter.mp e).1
      have gle : gmax (ks.filter fun k => decide (k ≤ v)) k0 ≤ v := by
        rcases g1.1 with e | e
        · rw [e]; omega
        · exact of_decide_eq_true (List.mem_filter.mp e).2
      have gge : ∀ k ∈ ks, k ≤ v → k ≤ gmax (ks.filter fun k => decide (k ≤ v)) k0 := fun k hk hle => g1.2.2 k (List.mem_filter.mpr ⟨hk, decide_eq_true hle⟩)
      generalize gmax (ks.filter fun k => decide (k ≤ v)) k0 = g at gin gle gge ⊢
      have down : ∀ n : Nat, g < v - n → v - n ∈ V := fun n => by
        induction n with
        | zero => intro _; simpa using hv
        | succ n ih =>
          intro hn
          rcases h _ (ih (by omega)) with w | w | w | w
          · have := gge _ w (by omega); omega
          · exact absurd w.1 hk
          · have := w.2.1 g gin; omega
          · rcases w.2.2 with w | w
            · rw [show v - ((n + 1 : Nat) : Int) = v - (n : Int) - 1 by omega]; exact w
            · have := gge _ w (by omega); omega
      have := cnt_full (V := V) (a := g) (b := v) (p := fun w => decide (g < w) && decide (w ≤ v)) gle (fun x => by simp) fun x x0 x1 => by
        have := down (v - x).toNat (by omega)
        rw [show v - ((v - x).toNat : Int) = x by omega] at this
        exact this
      omega
abbrev pkV (vs ks : List Int) (v : Int) : Bool := decide (v ∈ ks) || (if ks.isEmpty = true then decide (v = 0) || decide (v - 1 ∈ vs) else if v < ixL ks 0 then decide (v + 1 ∈ vs) || decide (v + 1 ∈ ks) else decide (v - 1 ∈ vs) || decide (v - 1 ∈ ks))
theorem pkV_iff {vs ks : List Int} (hs : ks.Pairwise (· < ·)) (v : Int) : pkV vs ks v = true ↔ PkP vs ks v := by
  unfold pkV PkP
  by_cases e : ks = []
  · subst e
    simp
  · have he : ks.isEmpty = false := by simpa using e
    obtain ⟨h1, h2⟩ := head_min hs e
    rw [he, if_neg (by decide)]
    by_cases q : v < ixL ks 0
    · rw [if_pos q]
      simp only [Bool.or_eq_true, decide_eq_true_eq]
      constructor
      · rintro (w | w)
        · exact .inl w
        · exact .inr (.inr (.inl ⟨e, fun k hk => by have := h2 k hk; omega, w⟩))
      · rintro (w | ⟨w, _⟩ | ⟨_, _, w⟩ | ⟨_, ⟨k, hk, w⟩, _⟩)
        · exact .inl w
        · exact absurd w e
        · exact .inr w
        · have := h2 k hk; omega
    · rw [if_neg q]
      simp only [Bool.or_eq_true, decide_eq_true_eq]
      constructor
      · rintro (w | w)
        · exact .inl w
        · exact .inr (.inr (.inr ⟨e, ⟨_, h1, by omega⟩, w⟩))
      · rintro (w | ⟨w, _⟩ | ⟨_, w, _⟩ | ⟨_, _, w⟩)
        · exact .inl w
        · exact absurd w e
        · have := w _ h1; omega
        · exact .inr w
theorem forC_all {f : Int → Unit → Cmp (Ctl Unit Unit Bool)} {p : Int → Bool} (h : ∀ v, (f v ()).sat fun c => (p v = true ∧ (c = .nx () ∨ c = .ct ())) ∨ (p v = false ∧ c = .rt false)) : ∀ l : List Int, (forC (L := Unit) (R := Bool) f l ()).sat fun c => c = (if l.all p = true then .nx () else .rt false)
  | [] => sat_ret rfl
  | v :: l => by
    show Cmp.sat (Cmp.bind _ _) _
    rw [List.all_cons]
    refine sat_bind (h v) fun c hc => ?_
    rcases hc with ⟨h1, rfl | rfl⟩ | ⟨h1, rfl⟩
    · rw [h1, Bool.true_and]; exact forC_all h l
    · rw [h1, Bool.true_and]; exact forC_all h l
    · rw [h1]; exact sat_ret rfl
theorem packed_sat (vs ks : List Int) : (m_is_packed vs ks).sat (· = vs.all (pkV vs ks)) := by
  unfold m_is_packed
  refine sat_bindR (forC_all (p := pkV vs ks) (fun v => ?_) vs) fun c hc => ?_
  · refine sat_ite (fun q => sat_ret (.inl ⟨by unfold pkV; rw [q]; rfl, .inr rfl⟩)) fun q => ?_
    refine sat_bind (P := fun s => pkV vs ks v = s) ?_ fun s hs => ?_
    · unfold pkV
      rw [q, Bool.false_or]
      refine sat_ite (fun w => ?_) fun w => ?_
      · have : ks.isEmpty = true := by simpa using w
        rw [this, if_pos rfl]
        exact sat_bnd (sat_ret rfl)
      · have e : ks.isEmpty = false := by simpa using w
        have : ks ≠ [] := by rintro rfl; cases e
        have := List.length_pos_iff.mpr this
        rw [e, if_neg (show ¬ (false = true) by decide)]
        refine sat_req ⟨Int.le_refl 0, by omega⟩ (sat_ite (fun z => ?_) fun z => ?_)
        · rw [if_pos (of_decide_eq_true z)]; exact sat_bnd (sat_ret rfl)
        · rw [if_neg (of_decide_eq_false z)]; exact sat_bnd (sat_ret rfl)
    · exact sat_ite (fun w => sat_ret (.inr ⟨by rw [hs]; simpa using w, rfl⟩)) fun w => sat_ret (.inl ⟨by rw [hs]; simpa using w, .inl rfl⟩)
  · subst hc
    cases vs.all (pkV vs ks) with
    | true => exact sat_ret rfl
    | false => exact sat_ret rfl
abbrev valsN (C : Fin 3 → Bool) (r : List Mk2) (c : Fin 3) : List Int := (m_values_near (cS (lN c)) (colS C) r (3 : Int)).val
theorem near_free {r : List Mk2} {M : List (Fin 3 × Int)} (h : MkL r M) {c : Fin 3} {z : Str} (hz : lN c ∈ charsL z) (hk : consts r c = []) : (m_values_near (cS (lN c)) z r (3 : Int)).val = rangeL 0 3 := by
  have : (m_values_near (cS (lN c)) z r (3 : Int)).sat (· = rangeL 0 3) := by
    have hrl := h.len
    unfold m_values_near
    rw [notin_l]
    refine sat_ite (fun hb => ?_) fun hb => ?_
    · rw [decide_eq_true hz] at hb; cases hb
    refine sat_req (by rw [size_big]; omega) (sat_bnd (sat_ite (fun he => sat_req ⟨by omega, by omega⟩ (sat_ret rfl)) fun he => ?_))
    have he : (!(!(consts r c).isEmpty)) = false := he
    rw [hk] at he; cases he
  exact this.2
theorem nearV_consts {r : List Mk2} {M : List (Fin 3 × Int)} (h : MkL r M) {c : Fin 3} {n : Nat} {v : List Int} (hv : NearV n (mkOf M c) v) : NearV n (consts r c) v where
  up := fun k hk => hv.up k ((consts_mem h c k).mp hk)
  low := fun hk => by
    obtain ⟨k0, a, b, d⟩ := hv.low fun e => hk (List.eq_nil_iff_forall_not_mem.mpr fun k w => by have := (consts_mem h c k).mp w; rw [e] at this; cases this)
    exact ⟨k0, (consts_mem h c k0).mpr a, fun k w => b k ((consts_mem h c k).mp w), d⟩
  free := fun hk => hv.free (List.eq_nil_iff_forall_not_mem.mpr fun k w => by have := (consts_mem h c k).mpr w; rw [hk] at this; cases this)
theorem col_all {C : Fin 3 → Bool} {r : List Mk2} {M : List (Fin 3 × Int)} (h : MkL r M) (hMC : ∀ p ∈ M, C p.1 = true) (c : Fin 3) (V : List Int) (hV : V.length ≤ 3) : ∃ ψ : Int → Int, (∀ v ∈ V, ψ v ∈ valsN C r c) ∧
    (C c = true → (∀ v ∈ V, ∀ w ∈ V, v < w → ψ v < ψ w) ∧ ∀ v ∈ V, ∀ k ∈ mkOf M c, (v < k → ψ v < k) ∧ (k < v → k < ψ v) ∧ (v = k → ψ v = k)) ∧ ∀ v ∈ V, PkP (V.map ψ) (consts r c) (ψ v) := by
  have hv := (near_sat h c (colS C) (n := 3) (by omega)).2
  rw [colS_mem] at hv
  by_cases hc : C c = true
  · obtain ⟨ψ, h1, h2, h3, h4⟩ := col_pack (n := 3) (V := V) (nearV_consts h (hv.yes hc)) (fun hk i hi => by
      have hz : lN c ∈ charsL (colS C) := of_decide_eq_true (by rw [colS_mem]; exact hc)
      have e := near_free h hz hk
      show (i : Int) ∈ (m_values_near (cS (lN c)) (colS C) r ((3 : Nat) : Int)).val
      rw [show ((3 : Nat) : Int) = 3 from rfl, e]
      exact List.mem_map.mpr ⟨i, List.mem_range.mpr hi, by omega⟩) hV
    exact ⟨ψ, h1, fun _ => ⟨h2, fun v hv k hk => h3 v hv k ((consts_mem h c k).mpr hk)⟩, h4⟩
  · have hc' : C c = false := by simpa using hc
    have e0 : consts r c = [] := List.eq_nil_iff_forall_not_mem.mpr fun k w => by
      have := (consts_mem h c k).mp w
      obtain ⟨p, hp, _⟩ := List.mem_map.mp this
      obtain ⟨a, b⟩ := List.mem_filter.mp hp
      have := hMC p a
      rw [of_decide_eq_true b] at this
      exact hc this
    refine ⟨fun _ => 0, fun v _ => ?_, fun q => absurd q hc, fun v _ => .inr (.inl ⟨e0, .inl rfl⟩)⟩
    show (0 : Int) ∈ (m_values_near (cS (lN c)) (colS C) r ((3 : Nat) : Int)).val
    rw [hv.no hc']; exact List.mem_singleton.mpr rfl
abbrev colOf (c : Fin 3) (R : List Row) : List Int := R.map fun r => rowAt r (c.val : Int)
structure PackR (C : Fin 3 → Bool) (M : List (Fin 3 × Int)) (r : List Mk2) (φ : Row → Row) (R : List Row) : Prop where
  vals : ∀ o ∈ R, ∀ c : Fin 3, rowAt (φ o) (c.val : Int) ∈ valsN C r c
  sim : SimR C M φ R
  pk : ∀ c : Fin 3, ∀ o ∈ R, PkP (colOf c (R.map φ)) (consts r c) (rowAt (φ o) (c.val : Int))
theorem pack_rows {C : Fin 3 → Bool} {r : List Mk2} {M : List (Fin 3 × Int)} (h : MkL r M) (hMC : ∀ p ∈ M, C p.1 = true) (R : List Row) (hR : R.length ≤ 3) : ∃ φ : Row → Row, PackR C M r φ R := by
  have col := fun c : Fin 3 => col_all h hMC c (colOf c R) (by rw [List.length_map]; exact hR)
  obtain ⟨p0, a0⟩ := col 0
  obtain ⟨p1, a1⟩ := col 1
  obtain ⟨p2, a2⟩ := col 2
  let φ : Row → Row := fun r => (p0 (rowAt r 0), p1 (rowAt r 1), p2 (rowAt r 2))
  have at_ : ∀ c : Fin 3, ∃ ψ : Int → Int, (∀ r, rowAt (φ r) (c.val : Int) = ψ (rowAt r (c.val : Int))) ∧ (∀ v ∈ colOf c R, ψ v ∈ valsN C r c) ∧
    (C c = true → (∀ v ∈ colOf c R, ∀ w ∈ colOf c R, v < w → ψ v < ψ w) ∧ ∀ v ∈ colOf c R, ∀ k ∈ mkOf M c, (v < k → ψ v < k) ∧ (k < v → k < ψ v) ∧ (v = k → ψ v = k)) ∧ ∀ v ∈ colOf c R, PkP ((colOf c R).map ψ) (consts r c) (ψ v) := fun c => by
    have : c = 0 ∨ c = 1 ∨ c = 2 := by revert c; decide
    rcases this with rfl | rfl | rfl
    · exact ⟨p0, fun r => rfl, a0⟩
    · exact ⟨p1, fun r => rfl, a1⟩
    · exact ⟨p2, fun r => rfl, a2⟩
  have mem : ∀ (c : Fin 3) (o : Row), o ∈ R → rowAt o (c.val : Int) ∈ colOf c R := fun c o ho => List.mem_map_of_mem (f := fun r => rowAt r (c.val : Int)) ho
  refine ⟨φ, fun o ho c => ?_, ⟨fun c hc r hr o ho hlt => ?_, fun p hp hc r hr => ?_, fun c hc r hr o ho e => ?_⟩, fun c o ho => ?_⟩
  · obtain ⟨ψ, e, a, _⟩ := at_ c
    rw [e]; exact a _ (mem c o ho)
  · obtain ⟨ψ, e, _, b, _⟩ := at_ c
    rw [e, e]; exact (b hc).1 _ (mem c r hr) _ (mem c o ho) hlt
  · obtain ⟨ψ, e, _, b, _⟩ := at_ p.1
    rw [e]; exact (b hc).2 _ (mem p.1 r hr) p.2 (List.mem_map.mpr ⟨p, List.mem_filter.mpr ⟨hp, by simp⟩, rfl⟩)
  · obtain ⟨ψ, e2, _⟩ := at_ c
    rw [e2, e2, e]
  · obtain ⟨ψ, e, _, _, b⟩ := at_ c
    have e2 : colOf c (R.map φ) = (colOf c R).map ψ := by
      unfold colOf
      rw [List.map_map, List.map_map]
      exact List.map_congr_left fun r _ => e r
    rw [e2, e]; exact b _ (mem c o ho)
theorem PkP.congr {vs vs' ks : List Int} (h : ∀ v, v ∈ vs ↔ v ∈ vs') {u : Int} (p : PkP vs ks u) : PkP vs' ks u := by
  unfold PkP at *
  rw [h, h] at p
  exact p
theorem cand3_sat {C : Fin 3 → Bool} {r : List Mk2} {M : List (Fin 3 × Int)} (h : MkL r M) (hw : (colS C).length + r.length ≤ 4) : (m_candidate_rows (colS C) r (3 : Int)).sat fun near => (∀ row : Row, row ∈ near ↔ ∀ c : Fin 3, rowAt row (c.val : Int) ∈ valsN C r c) ∧ near.length ≤ 100 := by
  have V := fun c => near_sat h c (colS C) (n := 3) (by omega)
  unfold m_candidate_rows
  rw [abc_l, filter_t]
  have e3 : ([97, 98, 99].map fun (x1 : Nat) => (m_values_near (cS x1) (colS C) r (3 : Int)).val) = [valsN C r 0, valsN C r 1, valsN C r 2] := rfl
  rw [e3]
  have lens : ∀ c, (valsN C r c).length ≤ bnd1 3 (consts r c).length (C c) := fun c => by
    have := (V c).2.len
    rw [colS_mem] at this
    exact this
  have hs := consts_sum h
  have hC := colS_len C
  have tot : (valsN C r 0).length * ((valsN C r 1).length * (valsN C r 2).length) ≤ 100 := by
    have := bnd_all (C 0) (C 1) (C 2) ⟨3, by omega⟩ ⟨(consts r 0).length, by omega⟩ ⟨(consts r 1).length, by omega⟩ ⟨(consts r 2).length, by omega⟩ (by show _ + ((consts r 0).length + (consts r 1).length + (consts r 2).length) ≤ 4; omega)
    exact Nat.le_trans (Nat.mul_le_mul (lens 0) (Nat.mul_le_mul (lens 1) (lens 2))) this
  have hlen := fm3_len (valsN C r 0) (valsN C r 1) (valsN C r 2) fun x y z => ((x, y, z) : Row)
  refine sat_req ⟨fun x hx => ?_, rfl⟩ (sat_bnd ?_)
  · obtain ⟨c, rfl⟩ := col_of hx
    exact (V c).1
  · simp only [filter_t]
    refine sat_req (by rw [size_big]; show ((valsN C r 0).flatMap fun x => (valsN C r 1).flatMap fun y => (valsN C r 2).map fun z => ((x, y, z) : Row)).length ≤ _; rw [hlen]; omega) (sat_ret ⟨fun row => ?_, by show ((valsN C r 0).flatMap fun x => (valsN C r 1).flatMap fun y => (valsN C r 2).map fun z => ((x, y, z) : Row)).length ≤ _; rw [hlen]; exact tot⟩)
    rw [row_all]
    exact fm3 _ _ _ _ _
theorem range_iff (a b x : Int) : x ∈ rangeL a b ↔ a ≤ x ∧ x < b := by
  unfold rangeL
  simp only [List.mem_map, List.mem_range]
  constructor
  · rintro ⟨i, hi, rfl⟩; omega
  · rintro ⟨h1, h2⟩
    exact ⟨(x - a).toNat, by omega, by omega⟩
theorem flatLe {α β : Type} {f : α → List β} {n : Nat} : ∀ (l : List α), (∀ x ∈ l, (f x).length ≤ n) → (l.flatMap f).length ≤ l.length * n
  | [], _ => by simp
  | a :: l, h => by
    rw [List.flatMap_cons, List.length_append, List.length_cons, Nat.succ_mul]
    have := h a List.mem_cons_self
    have := flatLe l fun x hx => h x (List.mem_cons_of_mem _ hx)
    omega
theorem shapes_sat {C : Fin 3 → Bool} {r : List Mk2} {M : List (Fin 3 × Int)} (h : MkL r M) (hr : r.length ≤ 4) (c : Fin 3) : (m_column_shapes (cS (lN c)) (colS C) r).sat fun v => ∀ l : List Int, 1 ≤ l.length → l.length ≤ 3 → (∀ u ∈ l, u ∈ valsN C r c) → (∀ u ∈ l, PkP l (consts r c) u) → l ∈ v := by
  have V := near_sat h c (colS C) (n := 3) (by omega)
  have hcl : (consts r c).length ≤ 4 := by
    unfold consts; rw [List.length_map]; exact Nat.le_trans (List.length_filter_le _ _) hr
  have hv : (valsN C r c).length ≤ 19 := by
    have := V.2.len
    revert this
    show (valsN C r c).length ≤ _ → _
    split
    · split <;> omega
    · omega
  unfold m_column_shapes
  refine sat_req V.1 (sat_bnd ?_)
  show Cmp.sat (Cmp.req _ (Cmp.bnd (consts r c) _)) _
  refine sat_req (by rw [size_big]; omega) (sat_bnd ?_)
  generalize hvs : (m_values_near (cS (lN c)) (colS C) r 3).val = vs
  have hvs' : valsN C r c = vs := hvs
  rw [hvs'] at hv ⊢
  simp only [filter_t]
  have l2 : (vs.flatMap fun x9 => vs.map fun x11 => [x9, x11]).length ≤ 361 := by
    refine Nat.le_trans (flatLe (n := 19) vs fun x _ => by rw [List.length_map]; exact hv) ?_
    exact Nat.le_trans (Nat.mul_le_mul_right 19 hv) (by decide)
  have l3 : (vs.flatMap fun x14 => vs.flatMap fun x16 => vs.map fun x18 => [x14, x16, x18]).length ≤ 6859 := by
    refine Nat.le_trans (flatLe (n := 361) vs fun x _ => ?_) (Nat.le_trans (Nat.mul_le_mul_right 361 hv) (by decide))
    refine Nat.le_trans (flatLe (n := 19) vs fun y _ => by rw [List.length_map]; exact hv) ?_
    exact Nat.le_trans (Nat.mul_le_mul_right 19 hv) (by decide)
  refine sat_req (by rw [size_big]; omega) (sat_bnd (sat_req (by rw [size_big]; omega) (sat_bnd (sat_req (by rw [size_big]; omega) (sat_bnd ?_)))))
  refine sat_req ⟨by rw [size_big, List.length_map]; omega, by rw [size_big, List.length_append, List.length_map]; omega, fun x _ => (packed_sat x _).1, Nat.le_trans (List.length_filter_le _ _) (by rw [size_big, List.length_append, List.length_append, List.length_map]; omega)⟩ (sat_ret fun l h1 h2 h3 h4 => ?_)
  rw [once_mem, List.map_id', List.mem_filter]
  refine ⟨?_, ?_⟩
  · rw [List.mem_append, List.mem_append]
    match l, h1, h2, h3 with
    | [a], _, _, h3 => exact .inl (.inl (List.mem_map.mpr ⟨a, h3 a (by simp), rfl⟩))
    | [a, b], _, _, h3 => exact .inl (.inr (List.mem_flatMap.mpr ⟨a, h3 a (by simp), List.mem_map.mpr ⟨b, h3 b (by simp), rfl⟩⟩))
    | [a, b, d], _, _, h3 => exact .inr (List.mem_flatMap.mpr ⟨a, h3 a (by simp), List.mem_flatMap.mpr ⟨b, h3 b (by simp), List.mem_map.mpr ⟨d, h3 d (by simp), rfl⟩⟩⟩)
    | _ :: _ :: _ :: _ :: _, _, h2, _ => simp only [List.length_cons] at h2; omega
  · rw [show (m_is_packed l (consts r c)).val = _ from (packed_sat l _).2, List.all_eq_true]
    exact fun u hu => (pkV_iff (consts_srt h c) u).mpr (h4 u hu)
structure SmallT (rows : List Row) (v : List (List Row)) : Prop where
  sm : ∀ t ∈ v, (1 ≤ t.length ∧ t.length ≤ 3) ∧ ∀ r ∈ t, r ∈ rows
  len : v.length ≤ 1010100
  all : ∀ a ∈ rows, ∀ b ∈ rows, ∀ c ∈ rows, ∃ t ∈ v, t.Nodup ∧ ∀ r, r ∈ t ↔ r = a ∨ r = b ∨ r = c
  ord : v.Pairwise fun a b => a.length ≤ b.length
theorem at_mem {rows : List Row} {a : Row} (h : a ∈ rows) : ∃ i : Int, 0 ≤ i ∧ i < (rows.length : Int) ∧ ixL rows i = a := by
  obtain ⟨i, hi, e⟩ := List.getElem_of_mem h
  refine ⟨i, by omega, by omega, ?_⟩
  unfold ixL
  simp [hi, e]
theorem small_sat {rows : List Row} (hl : rows.length ≤ 100) : (m_small_tables rows).sat (SmallT rows) := by
  unfold m_small_tables
  have rl : ∀ a : Int, 0 ≤ a → (rangeL a (rows.length : Int)).length ≤ 100 := fun a ha => by simp [rangeL]; omega
  simp only [filter_t]
  have b2 : ((rangeL 0 (rows.length : Int)).flatMap fun x5 => (rangeL (x5 + 1) (rows.length : Int)).map fun x8 => [ixL rows x5, ixL rows x8]).length ≤ 10000 := by
    refine Nat.le_trans (flatLe (n := 100) _ fun x hx => by rw [List.length_map]; exact rl _ (by have := (range_iff _ _ _).mp hx; omega)) (Nat.le_trans (Nat.mul_le_mul_right 100 (rl 0 (by omega))) (by decide))
  have b3 : ((rangeL 0 (rows.length : Int)).flatMap fun x13 => (rangeL (x13 + 1) (rows.length : Int)).flatMap fun x16 => (rangeL (x16 + 1) (rows.length : Int)).map fun x19 => [ixL rows x13, ixL rows x16, ixL rows x19]).length ≤ 1000000 := by
    refine Nat.le_trans (flatLe (n := 10000) _ fun x hx => ?_) (Nat.le_trans (Nat.mul_le_mul_right 10000 (rl 0 (by omega))) (by decide))
    have hx := (range_iff _ _ _).mp hx
    refine Nat.le_trans (flatLe (n := 100) _ fun y hy => by rw [List.length_map]; exact rl _ (by have := (range_iff _ _ _).mp hy; omega)) (Nat.le_trans (Nat.mul_le_mul_right 100 (rl _ (by omega))) (by decide))
  have big : (2 : Int) ^ 62 > 1000 := by decide
  refine sat_bnd (sat_req (by rw [size_big]; omega) (sat_bnd (sat_req ⟨⟨by omega, by omega⟩, fun x hx => ?_, fun x hx y hy => ?_, fun x hx y hy => ?_, by rw [size_big]; omega⟩ (sat_bnd (sat_req ⟨fun x hx => ?_, fun x hx y hy => ?_, fun x hx y hy z hz => ?_, fun x hx y hy z hz => ?_, fun x hx y hy z hz => ?_, by rw [size_big]; omega⟩ (sat_bnd (sat_req ⟨by rw [size_big, List.length_map]; omega, by rw [size_big, List.length_append, List.length_map]; omega⟩ (sat_ret ?_))))))))
  · have := (range_iff _ _ _).mp hx; omega
  · have := (range_iff _ _ _).mp hx; omega
  · have := (range_iff _ _ _).mp hx; have := (range_iff _ _ _).mp hy; omega
  · have := (range_iff _ _ _).mp hx; omega
  · have := (range_iff _ _ _).mp hx; have := (range_iff _ _ _).mp hy; omega
  · have := (range_iff _ _ _).mp hx; omega
  · have := (range_iff _ _ _).mp hx; have := (range_iff _ _ _).mp hy; omega
  · have := (range_iff _ _ _).mp hx; have := (range_iff _ _ _).mp hy; have := (range_iff _ _ _).mp hz; omega
  have im : ∀ i : Int, 0 ≤ i → i < (rows.length : Int) → ixL rows i ∈ rows := fun i h0 h1 => ixL_mem h0 h1
  have m1 : ∀ a ∈ rows, [a] ∈ rows.map fun x1 => [x1] := fun a ha => List.mem_map.mpr ⟨a, ha, rfl⟩
  have m2 : ∀ i j : Int, 0 ≤ i → i < j → j < (rows.length : Int) → [ixL rows i, ixL rows j] ∈ (rangeL 0 (rows.length : Int)).flatMap fun x5 => (rangeL (x5 + 1) (rows.length : Int)).map fun x8 => [ixL rows x5, ixL rows x8] := fun i j h0 h1 h2 =>
    List.mem_flatMap.mpr ⟨i, (range_iff _ _ _).mpr ⟨h0, by omega⟩, List.mem_map.mpr ⟨j, (range_iff _ _ _).mpr ⟨by omega, h2⟩, rfl⟩⟩
  have m3 : ∀ i j k : Int, 0 ≤ i → i < j → j < k → k < (rows.length : Int) → [ixL rows i, ixL rows j, ixL rows k] ∈ (rangeL 0 (rows.length : Int)).flatMap fun x13 => (rangeL (x13 + 1) (rows.length : Int)).flatMap fun x16 => (rangeL (x16 + 1) (rows.length : Int)).map fun x19 => [ixL rows x13, ixL rows x16, ixL rows x19] := fun i j k h0 h1 h2 h3 =>
    List.mem_flatMap.mpr ⟨i, (range_iff _ _ _).mpr ⟨h0, by omega⟩, List.mem_flatMap.mpr ⟨j, (range_iff _ _ _).mpr ⟨by omega, by omega⟩, List.mem_map.mpr ⟨k, (range_iff _ _ _).mpr ⟨by omega, h3⟩, rfl⟩⟩⟩
  refine ⟨fun t ht => ?_, by rw [List.length_append, List.length_append, List.length_map]; omega, fun a ha b hb c hc => ?_, ?_⟩
  rotate_right
  · have one : ∀ {n : Nat} {l : List (List Row)}, (∀ t ∈ l, t.length = n) → l.Pairwise fun a b => a.length ≤ b.length := fun {n} {l} h => by
      induction l with
      | nil => exact .nil
      | cons t l ih => exact .cons (fun u hu => by rw [h t List.mem_cons_self, h u (List.mem_cons_of_mem _ hu)]; exact Nat.le_refl _) (ih fun u hu => h u (List.mem_cons_of_mem _ hu))
    have n1 : ∀ t ∈ rows.map fun x1 => [x1], t.length = 1 := fun t ht => by obtain ⟨a, _, rfl⟩ := List.mem_map.mp ht; rfl
    have n2 : ∀ t ∈ (rangeL 0 (rows.length : Int)).flatMap fun x5 => (rangeL (x5 + 1) (rows.length : Int)).map fun x8 => [ixL rows x5, ixL rows x8], t.length = 2 := fun t ht => by
      obtain ⟨_, _, ht⟩ := List.mem_flatMap.mp ht
      obtain ⟨_, _, rfl⟩ := List.mem_map.mp ht; rfl
    have n3 : ∀ t ∈ (rangeL 0 (rows.length : Int)).flatMap fun x13 => (rangeL (x13 + 1) (rows.length : Int)).flatMap fun x16 => (rangeL (x16 + 1) (rows.length : Int)).map fun x19 => [ixL rows x13, ixL rows x16, ixL rows x19], t.length = 3 := fun t ht => by
      obtain ⟨_, _, ht⟩ := List.mem_flatMap.mp ht
      obtain ⟨_, _, ht⟩ := List.mem_flatMap.mp ht
      obtain ⟨_, _, rfl⟩ := List.mem_map.mp ht; rfl
    refine List.pairwise_append.mpr ⟨List.pairwise_append.mpr ⟨one n1, one n2, fun a ha b hb => by rw [n1 a ha, n2 b hb]; omega⟩, one n3, fun a ha b hb => ?_⟩
    rw [n3 b hb]
    rcases List.mem_append.mp ha with ha | ha
    · rw [n1 a ha]; omega
    · rw [n2 a ha]; omega
  · rw [List.mem_append, List.mem_append] at ht
    rcases ht with (ht | ht) | ht
    · obtain ⟨a, ha, rfl⟩ := List.mem_map.mp ht
      exact ⟨⟨Nat.le_refl 1, by show 1 ≤ 3; omega⟩, fun r hr => by rw [List.mem_singleton.mp hr]; exact ha⟩
    · obtain ⟨i, hi, ht⟩ := List.mem_flatMap.mp ht
      obtain ⟨j, hj, rfl⟩ := List.mem_map.mp ht
      have hi := (range_iff _ _ _).mp hi
      have hj := (range_iff _ _ _).mp hj
      refine ⟨⟨by show 1 ≤ 2; omega, by show 2 ≤ 3; omega⟩, fun r hr => ?_⟩
      simp only [List.mem_cons, List.not_mem_nil, or_false] at hr
      rcases hr with rfl | rfl
      · exact im _ (by omega) (by omega)
      · exact im _ (by omega) (by omega)
    · obtain ⟨i, hi, ht⟩ := List.mem_flatMap.mp ht
      obtain ⟨j, hj, ht⟩ := List.mem_flatMap.mp ht
      obtain ⟨k, hk, rfl⟩ := List.mem_map.mp ht
      have hi := (range_iff _ _ _).mp hi
      have hj := (range_iff _ _ _).mp hj
      have hk := (range_iff _ _ _).mp hk
      refine ⟨⟨by show 1 ≤ 3; omega, by show 3 ≤ 3; omega⟩, fun r hr => ?_⟩
      simp only [List.mem_cons, List.not_mem_nil, or_false] at hr
      rcases hr with rfl | rfl | rfl
      · exact im _ (by omega) (by omega)
      · exact im _ (by omega) (by omega)
      · exact im _ (by omega) (by omega)
  · simp only [List.mem_append]
    generalize ((rangeL 0 (rows.length : Int)).flatMap fun x5 => (rangeL (x5 + 1) (rows.length : Int)).map fun x8 => [ixL rows x5, ixL rows x8]) = X2 at m2 ⊢
    generalize ((rangeL 0 (rows.length : Int)).flatMap fun x13 => (rangeL (x13 + 1) (rows.length : Int)).flatMap fun x16 => (rangeL (x16 + 1) (rows.length : Int)).map fun x19 => [ixL rows x13, ixL rows x16, ixL rows x19]) = X3 at m3 ⊢
    generalize (rows.map fun x1 => [x1]) = X1 at m1 ⊢
    have two : ∀ x ∈ rows, ∀ y ∈ rows, x ≠ y → ∃ t, ((t ∈ X1 ∨ t ∈ X2) ∨ t ∈ X3) ∧ t.Nodup ∧ ∀ r, r ∈ t ↔ r = x ∨ r = y := fun x hx y hy ne => by
      obtain ⟨i, i0, i1, rfl⟩ := at_mem hx
      obtain ⟨j, j0, j1, rfl⟩ := at_mem hy
      have : i < j ∨ j < i := by
        rcases Int.lt_trichotomy i j with q | q | q
        · exact .inl q
        · rw [q] at ne; exact absurd rfl ne
        · exact .inr q
      rcases this with q | q
      · exact ⟨_, .inl (.inr (m2 i j i0 q j1)), by simp [ne], fun r => by simp⟩
      · exact ⟨_, .inl (.inr (m2 j i j0 q i1)), by simp [Ne.symm ne], fun r => by simp; exact or_comm⟩
    by_cases e1 : a = b
    · by_cases e2 : a = c
      · exact ⟨[a], .inl (.inl (m1 a ha)), by simp, fun r => by rw [← e1, ← e2]; simp⟩
      · obtain ⟨t, t1, t2, t3⟩ := two a ha c hc e2
        exact ⟨t, t1, t2, fun r => by rw [t3, ← e1]; constructor
                                      · rintro (q | q)
                                        · exact .inl q
                                        · exact .inr (.inr q)
                                      · rintro (q | q | q)
                                        · exact .inl q
                                        · exact .inl q
                                        · exact .inr q⟩
    · by_cases e2 : c = a
      · obtain ⟨t, t1, t2, t3⟩ := two a ha b hb e1
        exact ⟨t, t1, t2, fun r => by rw [t3, e2]; constructor
                                      · rintro (q | q)
                                        · exact .inl q
                                        · exact .inr (.inl q)
                                      · rintro (q | q | q)
                                        · exact .inl q
                                        · exact .inr q
                                        · exact .inl q⟩
      · by_cases e3 : c = b
        · obtain ⟨t, t1, t2, t3⟩ := two a ha b hb e1
          exact ⟨t, t1, t2, fun r => by rw [t3, e3]; constructor
                                        · rintro (q | q)
                                          · exact .inl q
                                          · exact .inr (.inl q)
                                        · rintro (q | q | q)
                                          · exact .inl q
                                          · exact .inr q
                                          · exact .inr q⟩
        · obtain ⟨i, i0, i1, rfl⟩ := at_mem ha
          obtain ⟨j, j0, j1, rfl⟩ := at_mem hb
          obtain ⟨k, k0, k1, rfl⟩ := at_mem hc
          have n1 : i ≠ j := fun q => e1 (by rw [q])
          have n2 : k ≠ i := fun q => e2 (by rw [q])
          have n3 : k ≠ j := fun q => e3 (by rw [q])
          have key : ∀ p q s : Int, 0 ≤ p → p < q → q < s → s < (rows.length : Int) → ixL rows p ≠ ixL rows q → ixL rows p ≠ ixL rows s → ixL rows q ≠ ixL rows s → (∀ r, (r = ixL rows p ∨ r = ixL rows q ∨ r = ixL rows s) ↔ (r = ixL rows i ∨ r = ixL rows j ∨ r = ixL rows k)) → ∃ t, ((t ∈ X1 ∨ t ∈ X2) ∨ t ∈ X3) ∧ t.Nodup ∧ ∀ r, r ∈ t ↔ r = ixL rows i ∨ r = ixL rows j ∨ r = ixL rows k := fun p q s h0 h1 h2 h3 d1 d2 d3 he =>
            ⟨_, .inr (m3 p q s h0 h1 h2 h3), by simp [d1, d2, d3], fun r => by rw [← he]; simp⟩
          have ord : (i < j ∧ j < k) ∨ (i < k ∧ k < j) ∨ (j < i ∧ i < k) ∨ (j < k ∧ k < i) ∨ (k < i ∧ i < j) ∨ (k < j ∧ j < i) := by omega
          rcases ord with o | o | o | o | o | o
          · exact key i j k i0 o.1 o.2 k1 e1 (Ne.symm e2) (Ne.symm e3) fun r => Iff.rfl
          · exact key i k j i0 o.1 o.2 j1 (Ne.symm e2) e1 e3 fun r => or_congr Iff.rfl or_comm
          · exact key j i k j0 o.1 o.2 k1 (Ne.symm e1) (Ne.symm e3) (Ne.symm e2) fun r => by rw [← or_assoc, ← or_assoc, or_comm (a := r = ixL rows j)]
          · exact key j k i j0 o.1 o.2 i1 (Ne.symm e3) (Ne.symm e1) e2 fun r => by constructor <;> (rintro (q | q | q) <;> simp [q])
          · exact key k i j k0 o.1 o.2 j1 e2 e3 e1 fun r => by constructor <;> (rintro (q | q | q) <;> simp [q])
          · exact key k j i k0 o.1 o.2 i1 e3 e2 (Ne.symm e1) fun r => by constructor <;> (rintro (q | q | q) <;> simp [q])
theorem ltRow_iff (a b : Row) : ltRow a b = true ↔ a.1 < b.1 ∨ (a.1 = b.1 ∧ (a.2.1 < b.2.1 ∨ (a.2.1 = b.2.1 ∧ a.2.2 < b.2.2))) := by
  unfold ltRow; simp
theorem ltRow_ir (a : Row) : ltRow a a = false := by
  unfold ltRow; simp
theorem ltRow_as {a b : Row} (h : ltRow a b = true) : ¬ ltRow b a = true := by
  rw [ltRow_iff] at *; omega
theorem ltRow_tr {a b c : Row} (h : ltRow a b = true) (h2 : ltRow b c = true) : ltRow a c = true := by
  rw [ltRow_iff] at *; omega
theorem ltRows_as : ∀ {a b : List Row}, ltRows a b = true → ltRows b a = false
  | [], [], h => by cases h
  | [], _ :: _, _ => rfl
  | _ :: _, [], h => by cases h
  | x :: xs, y :: ys, h => by
    have h : (if x = y then ltRows xs ys else ltRow x y) = true := h
    show (if y = x then ltRows ys xs else ltRow y x) = false
    by_cases e : x = y
    · rw [if_pos e] at h
      rw [if_pos e.symm]; exact ltRows_as h
    · rw [if_neg e] at h
      rw [if_neg (Ne.symm e)]
      have := ltRow_as h
      simpa using this
theorem ltRows_one {x y : Row} (h : ltRow x y = true) (xs ys : List Row) : ltRows (x :: xs) (y :: ys) = true := by
  show (if x = y then ltRows xs ys else ltRow x y) = true
  rw [if_neg fun e => by rw [e, ltRow_ir] at h; cases h]; exact h
theorem ltRows_two {x : Row} {xs ys : List Row} (h : ltRows xs ys = true) : ltRows (x :: xs) (x :: ys) = true := by
  show (if x = x then ltRows xs ys else ltRow x x) = true
  rw [if_pos rfl]; exact h
abbrev LtT (a b : List Row) : Prop := a.length < b.length ∨ (a.length = b.length ∧ ltRows a b = true)
theorem ltT_as {a b : List Row} (h : LtT a b) : ¬ LtT b a := by
  intro h2
  rcases h with h | h
  · rcases h2 with h2 | h2 <;> omega
  · rcases h2 with h2 | h2
    · omega
    · have := ltRows_as h.2
      rw [h2.2] at this; cases this
abbrev Inc (t : List Row) : Prop := t.Pairwise fun a b => ltRow a b = true
theorem range_lt (a b : Int) : (rangeL a b).Pairwise (· < ·) := by
  unfold rangeL
  rw [List.pairwise_map]
  exact List.pairwise_lt_range.imp fun {i j} h => by omega
theorem ix_get {α : Type} [Inhabited α] {xs : List α} {i : Int} (h0 : 0 ≤ i) (h1 : i < (xs.length : Int)) : ixL xs i = xs[i.toNat]'(by omega) := by
  unfold ixL
  simp [show i.toNat < xs.length by omega]
theorem inc_ix {rows : List Row} (h : Inc rows) {i j : Int} (h0 : 0 ≤ i) (h1 : i < j) (h2 : j < (rows.length : Int)) : ltRow (ixL rows i) (ixL rows j) = true := by
  rw [ix_get h0 (by omega), ix_get (by omega) h2]
  exact List.pairwise_iff_getElem.mp h _ _ _ _ (by omega)
theorem ix_inc {rows : List Row} (h : Inc rows) {i j : Int} (h0 : 0 ≤ i) (h1 : i < (rows.length : Int)) (j0 : 0 ≤ j) (j1 : j < (rows.length : Int)) (hlt : ltRow (ixL rows i) (ixL rows j) = true) : i < j := by
  by_cases q : i < j
  · exact q
  · exfalso
    by_cases e : i = j
    · rw [e, ltRow_ir] at hlt; cases hlt
    · exact ltRow_as hlt (inc_ix h j0 (by omega) h1)
theorem vals_srt {r : List Mk2} {M : List (Fin 3 × Int)} (h : MkL r M) (c : Fin 3) (z : Str) : (m_values_near (cS (lN c)) z r (3 : Int)).val.Pairwise (· < ·) := by
  have hrl := h.len
  have : (m_values_near (cS (lN c)) z r (3 : Int)).sat fun v : List Int => v.Pairwise (· < ·) := by
    have hcl : (consts r c).length ≤ 3000 := by
      unfold consts; rw [List.length_map]; exact Nat.le_trans (List.length_filter_le _ _) hrl
    have hok := (near_sat h c z (n := 3) (by omega)).1
    refine ⟨hok, ?_⟩
    unfold m_values_near
    rw [notin_l]
    have key : ∀ {α : Type} {b : Bool} {m1 m2 : Cmp α} {P : α → Prop}, (b = true → P m1.val) → (b = false → P m2.val) → P (if b = true then m1 else m2).val := fun {α b m1 m2 P} h1 h2 => by
      cases b with
      | true => exact h1 rfl
      | false => exact h2 rfl
    refine key (P := fun v : List Int => v.Pairwise (· < ·)) (fun _ => by show ([0] : List Int).Pairwise _; exact List.pairwise_singleton _ _) fun _ => ?_
    show (if (!(!(consts r c).isEmpty)) = true then _ else _ : Cmp (List Int)).val.Pairwise (· < ·)
    refine key (P := fun v : List Int => v.Pairwise (· < ·)) (fun _ => range_lt 0 3) fun _ => ?_
    show (sortI _).Pairwise (· < ·)
    refine sortI_lt ?_
    rw [filter_t, List.map_id']
    have fo : ∀ {β : Type} (f : β → List Int → Cmp (List Int)), (∀ x v, v.Nodup → (f x v).val.Nodup) → ∀ (l : List β) (v : List Int), v.Nodup → (forN f l v).val.Nodup := fun {β} f hf l => by
      induction l with
      | nil => exact fun v hv => hv
      | cons x l ih => exact fun v hv => ih _ (hf x v hv)
    refine fo _ (fun k v hv => ?_) _ _ ?_
    · refine fo _ (fun i w hw => ?_) _ _ hv
      refine key (P := fun v : List Int => v.Nodup) (fun q => ?_) fun _ => hw
      show (w ++ [_]).Nodup
      refine List.nodup_append.mpr ⟨hw, by simp, fun a ha b hb e => ?_⟩
      rw [List.mem_singleton] at hb
      rw [e, hb] at ha
      have : decide (k + i ∈ w) = false := by simpa using q
      exact absurd ha (of_decide_eq_false this)
    · rw [filter_t]
      refine List.pairwise_map.mpr ((range_lt _ _).imp fun {a b} h => by omega)
  exact this.2
theorem cand_inc {C : Fin 3 → Bool} {r : List Mk2} {M : List (Fin 3 × Int)} (h : MkL r M) : Inc (m_candidate_rows (colS C) r (3 : Int)).val := by
  unfold m_candidate_rows
  rw [abc_l]
  simp only [filter_t]
  show Inc ((valsN C r 0).flatMap fun x => (valsN C r 1).flatMap fun y => (valsN C r 2).map fun z => ((x, y, z) : Row))
  have s0 := vals_srt h 0 (colS C)
  have s1 := vals_srt h 1 (colS C)
  have s2 := vals_srt h 2 (colS C)
  refine List.pairwise_flatMap.mpr ⟨fun x _ => List.pairwise_flatMap.mpr ⟨fun y _ => List.pairwise_map.mpr (s2.imp fun {a b} q => ?_), s1.imp fun {a b} q p hp o ho => ?_⟩, s0.imp fun {a b} q p hp o ho => ?_⟩
  · exact (ltRow_iff _ _).mpr (.inr ⟨rfl, .inr ⟨rfl, q⟩⟩)
  · obtain ⟨_, _, rfl⟩ := List.mem_map.mp hp
    obtain ⟨_, _, rfl⟩ := List.mem_map.mp ho
    exact (ltRow_iff _ _).mpr (.inr ⟨rfl, .inl q⟩)
  · obtain ⟨_, _, hp⟩ := List.mem_flatMap.mp hp
    obtain ⟨_, _, ho⟩ := List.mem_flatMap.mp ho
    obtain ⟨_, _, rfl⟩ := List.mem_map.mp hp
    obtain ⟨_, _, rfl⟩ := List.mem_map.mp ho
    exact (ltRow_iff _ _).mpr (.inl q)
structure SmallE (rows : List Row) (v : List (List Row)) : Prop where
  srt : v.Pairwise LtT
  inc : ∀ t ∈ v, Inc t
  all : ∀ t : List Row, 1 ≤ t.length → t.length ≤ 3 → Inc t → (∀ r ∈ t, r ∈ rows) → t ∈ v
theorem smallE {rows : List Row} (hs : Inc rows) : SmallE rows (m_small_tables rows).val := by
  have e : (m_small_tables rows).val = ((rows.map fun x1 => [x1]) ++ ((rangeL 0 (rows.length : Int)).flatMap fun x5 => (rangeL (x5 + 1) (rows.length : Int)).map fun x8 => [ixL rows x5, ixL rows x8])) ++ ((rangeL 0 (rows.length : Int)).flatMap fun x13 => (rangeL (x13 + 1) (rows.length : Int)).flatMap fun x16 => (rangeL (x16 + 1) (rows.length : Int)).map fun x19 => [ixL rows x13, ixL rows x16, ixL rows x19]) := by
    unfold m_small_tables
    simp only [filter_t]
    rfl
  rw [e]
  have R := fun {a b x : Int} (h : x ∈ rangeL a b) => (range_iff a b x).mp h
  refine ⟨List.pairwise_append.mpr ⟨List.pairwise_append.mpr ⟨List.pairwise_map.mpr (hs.imp fun {a b} q => .inr ⟨rfl, ltRows_one q _ _⟩), ?_, fun a ha b hb => ?_⟩, ?_, fun a ha b hb => ?_⟩, fun t ht => ?_, fun t l1 l3 ht hm => ?_⟩
  · refine List.pairwise_flatMap.mpr ⟨fun x hx => List.pairwise_map.mpr ((range_lt _ _).imp_of_mem fun {a b} ha hb q => ?_), (range_lt _ _).imp_of_mem fun {a b} ha hb q p hp o ho => ?_⟩
    · have := R hx; have := R ha; have := R hb
      exact .inr ⟨rfl, ltRows_two (ltRows_one (inc_ix hs (by omega) q (by omega)) _ _)⟩
    · have := R ha; have := R hb
      obtain ⟨_, _, rfl⟩ := List.mem_map.mp hp
      obtain ⟨_, _, rfl⟩ := List.mem_map.mp ho
      exact .inr ⟨rfl, ltRows_one (inc_ix hs (by omega) q (by omega)) _ _⟩
  · obtain ⟨_, _, rfl⟩ := List.mem_map.mp ha
    obtain ⟨_, _, hb⟩ := List.mem_flatMap.mp hb
    obtain ⟨_, _, rfl⟩ := List.mem_map.mp hb
    exact .inl (by show 1 < 2; omega)
  · refine List.pairwise_flatMap.mpr ⟨fun x hx => List.pairwise_flatMap.mpr ⟨fun y hy => List.pairwise_map.mpr ((range_lt _ _).imp_of_mem fun {a b} ha hb q => ?_), (range_lt _ _).imp_of_mem fun {a b} ha hb q p hp o ho => ?_⟩, (range_lt _ _).imp_of_mem fun {a b} ha hb q p hp o ho => ?_⟩
    · have := R hx; have := R hy; have := R ha; have := R hb
      exact .inr ⟨rfl, ltRows_two (ltRows_two (ltRows_one (inc_ix hs (by omega) q (by omega)) _ _))⟩
    · have := R hx; have := R ha; have := R hb
      obtain ⟨_, _, rfl⟩ := List.mem_map.mp hp
      obtain ⟨_, _, rfl⟩ := List.mem_map.mp ho
      exact .inr ⟨rfl, ltRows_two (ltRows_one (inc_ix hs (by omega) q (by omega)) _ _)⟩
    · have := R ha; have := R hb
      obtain ⟨_, _, hp⟩ := List.mem_flatMap.mp hp
      obtain ⟨_, _, ho⟩ := List.mem_flatMap.mp ho
      obtain ⟨_, _, rfl⟩ := List.mem_map.mp hp
      obtain ⟨_, _, rfl⟩ := List.mem_map.mp ho
      exact .inr ⟨rfl, ltRows_one (inc_ix hs (by omega) q (by omega)) _ _⟩
  · obtain ⟨_, _, hb⟩ := List.mem_flatMap.mp hb
    obtain ⟨_, _, hb⟩ := List.mem_flatMap.mp hb
    obtain ⟨_, _, rfl⟩ := List.mem_map.mp hb
    rcases List.mem_append.mp ha with ha | ha
    · obtain ⟨_, _, rfl⟩ := List.mem_map.mp ha
      exact .inl (by show 1 < 3; omega)
    · obtain ⟨_, _, ha⟩ := List.mem_flatMap.mp ha
      obtain ⟨_, _, rfl⟩ := List.mem_map.mp ha
      exact .inl (by show 2 < 3; omega)
  · rcases List.mem_append.mp ht with ht | ht
    · rcases List.mem_append.mp ht with ht | ht
      · obtain ⟨_, _, rfl⟩ := List.mem_map.mp ht
        exact List.pairwise_singleton _ _
      · obtain ⟨i, hi, ht⟩ := List.mem_flatMap.mp ht
        obtain ⟨j, hj, rfl⟩ := List.mem_map.mp ht
        have := R hi; have := R hj
        exact List.pairwise_pair.mpr (inc_ix hs (by omega) (by omega) (by omega))
    · obtain ⟨i, hi, ht⟩ := List.mem_flatMap.mp ht
      obtain ⟨j, hj, ht⟩ := List.mem_flatMap.mp ht
      obtain ⟨k, hk, rfl⟩ := List.mem_map.mp ht
      have := R hi; have := R hj; have := R hk
      refine List.pairwise_cons.mpr ⟨fun x hx => ?_, List.pairwise_pair.mpr (inc_ix hs (by omega) (by omega) (by omega))⟩
      simp only [List.mem_cons, List.not_mem_nil, or_false] at hx
      rcases hx with rfl | rfl
      · exact inc_ix hs (by omega) (by omega) (by omega)
      · exact inc_ix hs (by omega) (by omega) (by omega)
  · match t, l1, l3, ht, hm with
    | [a], _, _, _, hm => exact List.mem_append_left _ (List.mem_append_left _ (List.mem_map.mpr ⟨a, hm a (by simp), rfl⟩))
    | [a, b], _, _, ht, hm =>
      obtain ⟨i, i0, i1, rfl⟩ := at_mem (hm a (by simp))
      obtain ⟨j, j0, j1, rfl⟩ := at_mem (hm b (by simp))
      have := ix_inc hs i0 i1 j0 j1 ((List.pairwise_cons.mp ht).1 _ (by simp))
      exact List.mem_append_left _ (List.mem_append_right _ (List.mem_flatMap.mpr ⟨i, (range_iff _ _ _).mpr ⟨i0, i1⟩, List.mem_map.mpr ⟨j, (range_iff _ _ _).mpr ⟨by omega, j1⟩, rfl⟩⟩))
    | [a, b, d], _, _, ht, hm =>
      obtain ⟨i, i0, i1, rfl⟩ := at_mem (hm a (by simp))
      obtain ⟨j, j0, j1, rfl⟩ := at_mem (hm b (by simp))
      obtain ⟨k, k0, k1, rfl⟩ := at_mem (hm d (by simp))
      obtain ⟨t1, t2⟩ := List.pairwise_cons.mp ht
      have := ix_inc hs i0 i1 j0 j1 (t1 _ (by simp))
      have := ix_inc hs j0 j1 k0 k1 ((List.pairwise_cons.mp t2).1 _ (by simp))
      exact List.mem_append_right _ (List.mem_flatMap.mpr ⟨i, (range_iff _ _ _).mpr ⟨i0, i1⟩, List.mem_flatMap.mpr ⟨j, (range_iff _ _ _).mpr ⟨by omega, j1⟩, List.mem_map.mpr ⟨k, (range_iff _ _ _).mpr ⟨by omega, k1⟩, rfl⟩⟩⟩)
    | _ :: _ :: _ :: _ :: _, _, l3, _, _ => simp only [List.length_cons] at l3; omega
theorem shapesC {C : Fin 3 → Bool} {r : List Mk2} {M : List (Fin 3 × Int)} (h : MkL r M) (c : Fin 3) : ∀ l ∈ (m_column_shapes (cS (lN c)) (colS C) r).val, ∀ u ∈ l, PkP l (consts r c) u := fun l hl u hu => by
  have hl : l ∈ onceL (((_ : List (List Int)).filter fun x => (m_is_packed x (consts r c)).val).map fun x => x) := hl
  rw [once_mem, List.map_id', List.mem_filter, show (m_is_packed l (consts r c)).val = _ from (packed_sat l _).2, List.all_eq_true] at hl
  exact (pkV_iff (consts_srt h c) u).mp (hl.2 u hu)
abbrev PkT (r : List Mk2) (t : List Row) : Prop := ∀ c : Fin 3, ∀ o ∈ t, PkP (colOf c t) (consts r c) (rowAt o (c.val : Int))
structure TabsE (r : List Mk2) (near : List Row) (tabs : List (List Row)) : Prop where
  srt : tabs.Pairwise LtT
  inc : ∀ t ∈ tabs, Inc t
  pk : ∀ t ∈ tabs, PkT r t
  all : ∀ t : List Row, 1 ≤ t.length → t.length ≤ 3 → Inc t → (∀ r ∈ t, r ∈ near) → PkT r t → t ∈ tabs
theorem tablesE {C : Fin 3 → Bool} {r : List Mk2} {M : List (Fin 3 × Int)} (h : MkL r M) (hw : (colS C).length + r.length ≤ 4) : TabsE r (m_candidate_rows (colS C) r (3 : Int)).val (m_packed_tables (colS C) r).val := by
  obtain ⟨oc, nm, nl⟩ := cand3_sat h hw
  have S := smallE (cand_inc (C := C) h)
  have e : (m_packed_tables (colS C) r).val = (m_small_tables (m_candidate_rows (colS C) r (3 : Int)).val).val.filter fun t => decide (colOf 0 t ∈ (m_column_shapes (cS (lN 0)) (colS C) r).val) && (decide (colOf 1 t ∈ (m_column_shapes (cS (lN 1)) (colS C) r).val) && decide (colOf 2 t ∈ (m_column_shapes (cS (lN 2)) (colS C) r).val)) := by
    have key : ∀ (m : Cmp (Ctl Unit Unit Unit)) (k : Unit → Cmp (Ctl Unit Unit (List (List Row)))), m.val = .rt () → ((m.bindX k).calm).val = ((k ()).calm).val := fun m k e => by
      obtain ⟨ok, v⟩ := m
      have e : v = .rt () := e
      subst e; rfl
    unfold m_packed_tables mx_packed_tables
    rw [key _ _ (weightX_sat hw).2, abc_l]
    simp only [filter_t]
    exact List.map_id' _
  rw [e]
  refine ⟨S.srt.filter _, fun t ht => S.inc t (List.mem_filter.mp ht).1, fun t ht c o ho => ?_, fun t l1 l3 ht hm hp => List.mem_filter.mpr ⟨S.all t l1 l3 ht hm, ?_⟩⟩
  · have hc := (List.mem_filter.mp ht).2
    rw [Bool.and_eq_true, Bool.and_eq_true, decide_eq_true_iff, decide_eq_true_iff, decide_eq_true_iff] at hc
    have : colOf c t ∈ (m_column_shapes (cS (lN c)) (colS C) r).val := by
      have : c = 0 ∨ c = 1 ∨ c = 2 := by revert c; decide
      rcases this with rfl | rfl | rfl
      · exact hc.1
      · exact hc.2.1
      · exact hc.2.2
    exact shapesC h c _ this _ (List.mem_map_of_mem (f := fun r => rowAt r (c.val : Int)) ho)
  · have cs : ∀ i : Fin 3, colOf i t ∈ (m_column_shapes (cS (lN i)) (colS C) r).val := fun i => by
      refine (shapes_sat (C := C) h (by omega) i).2 (colOf i t) (by rw [List.length_map]; exact l1) (by rw [List.length_map]; exact l3) (fun u hu => ?_) fun u hu => ?_
      · obtain ⟨o, ho, rfl⟩ := List.mem_map.mp hu
        exact (nm o).mp (hm o ho) i
      · obtain ⟨o, ho, rfl⟩ := List.mem_map.mp hu
        exact hp i o ho
    rw [Bool.and_eq_true, Bool.and_eq_true]
    exact ⟨decide_eq_true (cs 0), decide_eq_true (cs 1), decide_eq_true (cs 2)⟩
theorem mem_col (c : Fin 3) {R : List Row} {o : Row} (ho : o ∈ R) : rowAt o (c.val : Int) ∈ colOf c R := List.mem_map_of_mem (f := fun r => rowAt r (c.val : Int)) ho
theorem no_consts {C : Fin 3 → Bool} {r : List Mk2} {M : List (Fin 3 × Int)} (h : MkL r M) (hMC : ∀ p ∈ M, C p.1 = true) {c : Fin 3} (hc : ¬ C c = true) : consts r c = [] := List.eq_nil_iff_forall_not_mem.mpr fun k w => by
  obtain ⟨p, hp, _⟩ := List.mem_map.mp ((consts_mem h c k).mp w)
  obtain ⟨a, b⟩ := List.mem_filter.mp hp
  have := hMC p a
  rw [of_decide_eq_true b] at this
  exact hc this
structure TabsOk (C : Fin 3 → Bool) (M : List (Fin 3 × Int)) (near : List Row) (tabs : List (List Row)) : Prop where
  sm : ∀ t ∈ tabs, (1 ≤ t.length ∧ t.length ≤ 3) ∧ ∀ r ∈ t, r ∈ near
  len : tabs.length ≤ 1010100
  all : ∀ a b c : Row, ∃ (r : List Mk2) (φ : Row → Row), PackR C M r φ [a, b, c] ∧ ∃ t ∈ tabs, t.Nodup ∧ ∀ o, o ∈ t ↔ o ∈ [a, b, c].map φ
  ord : tabs.Pairwise fun a b => a.length ≤ b.length
theorem tablesX_sat {C : Fin 3 → Bool} {r : List Mk2} {M : List (Fin 3 × Int)} (h : MkL r M) (hMC : ∀ p ∈ M, C p.1 = true) (hw : (colS C).length + r.length ≤ 4) : (mx_packed_tables (colS C) r).sat (fun c => ∃ v, c = .rt v ∧ TabsOk C M (m_candidate_rows (colS C) r (3 : Int)).val v) := by
  obtain ⟨oc, nm, nl⟩ := cand3_sat h hw
  obtain ⟨os, st⟩ := small_sat nl
  have S := fun c => shapes_sat (C := C) h (by omega) c
  have ow := weightX_sat (z := colS C) (r := r) hw
  unfold mx_packed_tables
  rw [abc_l]
  refine sat_bindX_rt ow (sat_req ⟨fun x hx => ?_, rfl⟩ (sat_bnd ?_))
  · obtain ⟨c, rfl⟩ := col_of hx
    exact (S c).1
  show Cmp.sat (Cmp.req _ _) _
  have tl : ∀ t ∈ (m_small_tables (m_candidate_rows (colS C) r (3 : Int)).val).val, t.length < sizeLine := fun t ht => by
    have := (st.sm t ht).1.2
    rw [size_big]; omega
  have sl := st.len
  refine sat_req ⟨oc, os, tl, fun t ht _ => tl t ht, fun t ht _ _ => tl t ht, by rw [size_big]; omega⟩ (sat_ret ⟨_, rfl, ?_⟩)
  rw [List.map_id']
  refine ⟨fun t ht => st.sm t (List.mem_filter.mp ht).1, Nat.le_trans (List.length_filter_le _ _) sl, fun a b c => ?_, st.ord.filter _⟩
  obtain ⟨φ, hp⟩ := pack_rows h hMC [a, b, c] (by simp)
  have hn : ∀ o ∈ [a, b, c], φ o ∈ (m_candidate_rows (colS C) r (3 : Int)).val := fun o ho => (nm _).mpr fun c => hp.vals o ho c
  obtain ⟨t, t1, t2, t3⟩ := st.all (φ a) (hn a (by simp)) (φ b) (hn b (by simp)) (φ c) (hn c (by simp))
  have t4 : ∀ o, o ∈ t ↔ o ∈ [a, b, c].map φ := fun o => by rw [t3]; simp
  have cs : ∀ i : Fin 3, colOf i t ∈ (m_column_shapes (cS (lN i)) (colS C) r).val := fun i => by
    obtain ⟨⟨l1, l2⟩, _⟩ := st.sm t t1
    refine (S i).2 (colOf i t) (by rw [List.length_map]; exact l1) (by rw [List.length_map]; exact l2) (fun u hu => ?_) fun u hu => ?_
    · obtain ⟨o, ho, rfl⟩ := List.mem_map.mp hu
      obtain ⟨o', ho', rfl⟩ := List.mem_map.mp ((t4 o).mp ho)
      exact hp.vals o' ho' i
    · obtain ⟨o, ho, rfl⟩ := List.mem_map.mp hu
      obtain ⟨o', ho', rfl⟩ := List.mem_map.mp ((t4 o).mp ho)
      refine PkP.congr (fun v => ?_) (hp.pk i o' ho')
      constructor
      · intro hv
        obtain ⟨p, q, rfl⟩ := List.mem_map.mp hv
        exact List.mem_map.mpr ⟨p, (t4 p).mpr q, rfl⟩
      · intro hv
        obtain ⟨p, q, rfl⟩ := List.mem_map.mp hv
        exact List.mem_map.mpr ⟨p, (t4 p).mp q, rfl⟩
  refine ⟨r, φ, hp, t, List.mem_filter.mpr ⟨t1, ?_⟩, t2, t4⟩
  simp only [filter_t]
  rw [Bool.and_eq_true, Bool.and_eq_true]
  exact ⟨decide_eq_true (cs 0), decide_eq_true (cs 1), decide_eq_true (cs 2)⟩
theorem tables_sat {C : Fin 3 → Bool} {r : List Mk2} {M : List (Fin 3 × Int)} (h : MkL r M) (hMC : ∀ p ∈ M, C p.1 = true) (hw : (colS C).length + r.length ≤ 4) : (m_packed_tables (colS C) r).sat (TabsOk C M (m_candidate_rows (colS C) r (3 : Int)).val) := sat_bind (tablesX_sat h hMC hw) fun c ⟨v, e, q⟩ => by subst e; exact sat_ret q
theorem cnt_once {V U : List Int} (nd : U.Nodup) (hm : ∀ x, x ∈ U ↔ x ∈ V) (p : Int → Bool) : (U.filter p).length = cnt V p := by
  refine Nat.le_antisymm (nodup_sub _ _ (nd.filter _) fun x hx => ?_) (nodup_sub _ _ ((dd_nodup V).filter _) fun x hx => ?_)
  · obtain ⟨a, b⟩ := List.mem_filter.mp hx
    exact List.mem_filter.mpr ⟨(dd_mem V x).mpr ((hm x).mp a), b⟩
  · obtain ⟨a, b⟩ := List.mem_filter.mp hx
    exact List.mem_filter.mpr ⟨(hm x).mpr ((dd_mem V x).mp a), b⟩
theorem lpack_sat {vs ks : List Int} (hv : vs.length ≤ 1000) (hk : ks.length ≤ 4000) : (m_law_pack vs ks).sat (· = vs.map (pk1 vs ks)) := by
  unfold m_law_pack
  refine sat_bnd (sat_bind (P := fun U : List Int => U.Nodup ∧ U.length ≤ vs.length ∧ ∀ x, x ∈ U ↔ x ∈ vs) ?_ fun U hU => ?_)
  · refine sat_mono (sat_forN (fun i (U : List Int) => U.Nodup ∧ U.length ≤ i ∧ ∀ x, x ∈ U ↔ x ∈ vs.take i) ⟨List.nodup_nil, Nat.le_refl 0, fun x => by simp⟩ fun i v U hi h => ?_) fun U h => ?_
    · obtain ⟨a, b, c⟩ := h
      have hil := (List.getElem?_eq_some_iff.mp hi).1
      refine sat_ite (fun q => sat_req (by rw [size_big]; omega) (sat_bnd (sat_ret ⟨?_, by rw [List.length_append, List.length_singleton]; omega, fun x => ?_⟩))) fun q => sat_ret ⟨a, by omega, fun x => ?_⟩
      · have q : v ∉ U := by simpa using q
        exact List.nodup_append.mpr ⟨a, by simp, fun x hx y hy e => by rw [List.mem_singleton.mp hy] at e; subst e; exact q hx⟩
      · rw [take_at hi, List.mem_append, List.mem_append, c]
      · have q : v ∈ U := by simpa using q
        rw [take_at hi, List.mem_append, ← c]
        exact ⟨.inl, fun h => h.elim id fun h => by rw [List.mem_singleton.mp h]; exact q⟩
    · obtain ⟨a, b, c⟩ := h
      rw [List.take_length] at c
      exact ⟨a, b, c⟩
  obtain ⟨a, b, c⟩ := hU
  have ce := fun p => cnt_once a c p
  refine sat_bnd (sat_bind (P := fun I : List Int => I = vs.map (pk1 vs ks)) ?_ fun I hI => sat_ret hI)
  refine sat_mono (sat_forN (fun i (I : List Int) => I = (vs.take i).map (pk1 vs ks)) (by simp) fun i v I hi hI => ?_) fun I h => by rw [List.take_length] at h; exact h
  have hil := (List.getElem?_eq_some_iff.mp hi).1
  have il : I.length < sizeLine := by
    rw [hI, List.length_map, List.length_take, size_big]; omega
  have ul : U.length < sizeLine := by rw [size_big]; omega
  have nx : ∀ z, pk1 vs ks v = z → I ++ [z] = (vs.take (i + 1)).map (pk1 vs ks) := fun z e => by
    rw [take_at hi, List.map_append, List.map_singleton, e, hI]
  refine sat_req (by rw [size_big]; omega) (sat_bnd ?_)
  simp only [List.map_id', filter_t]
  refine sat_ite (fun q => sat_req il (sat_bnd (sat_ret (nx v ?_)))) fun q => ?_
  · unfold pk1; rw [if_pos (of_decide_eq_true q)]
  have q := of_decide_eq_false q
  refine sat_ite (fun w => sat_req ⟨ul, il⟩ (sat_bnd (sat_ret (nx _ ?_)))) fun w => ?_
  · have w : ks = [] := by
      have := of_decide_eq_true w
      exact List.length_eq_zero_iff.mp (by omega)
    unfold pk1; rw [if_neg q, if_pos w, ce]
  have w : ks ≠ [] := by
    have := of_decide_eq_false w
    intro e; rw [e] at this; exact this rfl
  refine sat_ite (fun z => ?_) fun z => ?_
  · have z : (ks.filter fun k => decide (k < v)) = [] := by
      have := of_decide_eq_true z
      exact List.length_eq_zero_iff.mp (by omega)
    refine sat_req (List.length_pos_iff.mpr w) (sat_bnd (sat_req ⟨ul, il⟩ (sat_bnd (sat_ret (nx _ ?_)))))
    unfold pk1; rw [if_neg q, if_neg w, if_pos z, ce]
  · have z : (ks.filter fun k => decide (k < v)) ≠ [] := by
      have := of_decide_eq_false z
      intro e; rw [e] at this; exact this rfl
    have := List.length_filter_le (fun k => decide (k < v)) ks
    refine sat_req ⟨by rw [size_big]; omega, List.length_pos_iff.mpr z⟩ (sat_bnd (sat_req ⟨ul, il⟩ (sat_bnd (sat_ret (nx _ ?_)))))
    unfold pk1; rw [if_neg q, if_neg w, if_neg z, ce]
theorem strOk_l : ∀ l ∈ [97, 98, 99], PyData.strOk (cS l) = true := by decide +kernel
theorem lord_sat {P : List Mk2} (hl : P.length ≤ 900) : (m_law_ordered P).sat fun r => r.Pairwise LT2 ∧ r.length ≤ 3000 ∧ ∀ p, p ∈ r ↔ p ∈ P ∧ ∃ l ∈ [97, 98, 99], p.1 = cS l := by
  unfold m_law_ordered
  rw [abc_l]
  refine sat_bnd (sat_bind (sat_forN (fun i (r : List Mk2) => r.Pairwise LT2 ∧ r.length ≤ 1000 * i ∧ ∀ p, p ∈ r ↔ p ∈ P ∧ ∃ l ∈ [97, 98, 99].take i, p.1 = cS l) ⟨.nil, by simp, by simp⟩ fun i l r hx hi => ?_) fun r hr => sat_ret ?_)
  · obtain ⟨hp, hn, hm⟩ := hi
    have hi3 : i < 3 := (List.getElem?_eq_some_iff.mp hx).1
    have hl3 : l ∈ [97, 98, 99] := List.mem_of_getElem? hx
    have low : ∀ p ∈ r, ∃ l' ∈ [97, 98, 99], p.1 = cS l' ∧ l' < l := fun p h => by
      obtain ⟨_, l', h1, e⟩ := (hm p).mp h
      refine ⟨l', List.mem_of_mem_take h1, e, ?_⟩
      match i, hx, h1 with
      | 0, hx, h1 => simp at h1
      | 1, hx, h1 => simp at h1 hx; omega
      | 2, hx, h1 => simp at h1 hx; omega
      | n + 3, hx, _ => omega
    refine sat_req (by rw [size_big]; omega) (sat_bind (P := fun r' : List Mk2 => r'.Pairwise LT2 ∧ r'.length ≤ 1000 * (i + 1) ∧ ∀ p, p ∈ r' ↔ p ∈ r ∨ (p ∈ P ∧ p.1 = cS l)) ?_ fun r' h => sat_ret ⟨h.1, h.2.1, fun p => ?_⟩)
    · generalize hs : sortI ((P.filter (fun (x2 : (Str × Int)) => (decide (x2.1 = (cS l))))).map (fun (x2 : (Str × Int)) => x2.2)) = s
      have s1 : s.Pairwise (· ≤ ·) := by rw [← hs]; exact sortI_le _
      have s2 : s.length ≤ 900 := by
        rw [← hs, sortI_len, List.length_map]
        exact Nat.le_trans (List.length_filter_le _ _) hl
      have s3 : ∀ k, k ∈ s ↔ (cS l, k) ∈ P := fun k => by
        rw [← hs, sortI_mem]
        constructor
        · intro h
          obtain ⟨p, hp, rfl⟩ := List.mem_map.mp h
          obtain ⟨a, b⟩ := List.mem_filter.mp hp
          have := of_decide_eq_true b
          rw [← this]; exact a
        · intro h
          exact List.mem_map.mpr ⟨_, List.mem_filter.mpr ⟨h, by simp⟩, rfl⟩
      refine sat_mono (sat_forN (fun j (r' : List Mk2) => r'.Pairwise LT2 ∧ r'.length ≤ 1000 * i + j ∧ ∀ p, p ∈ r' ↔ p ∈ r ∨ ∃ k ∈ s.take j, p = (cS l, k)) ⟨hp, by omega, fun p => by simp⟩ fun j k r' hj h => ?_) fun r' h => ?_
      · obtain ⟨a, b, c⟩ := h
        have hjl := (List.getElem?_eq_some_iff.mp hj).1
        refine sat_req ⟨fun y hy => ?_, strOk_l l hl3⟩ ?_
        · rcases (c y).mp hy with h | ⟨k', _, e⟩
          · obtain ⟨l', h1, e, _⟩ := low y h
            rw [e]; exact strOk_l l' h1
          · rw [e]; exact strOk_l l hl3
        refine sat_ite (fun w => sat_req (by rw [size_big]; omega) (sat_bnd (sat_ret ⟨?_, by rw [List.length_append, List.length_singleton]; omega, fun p => ?_⟩))) fun w => sat_ret ⟨a, by omega, fun p => ?_⟩
        · have w : (cS l, k) ∉ r' := by simpa using w
          refine List.pairwise_append.mpr ⟨a, List.pairwise_singleton _ _, fun x hx y hy => ?_⟩
          rw [List.mem_singleton.mp hy]
          rcases (c x).mp hx with h | ⟨k', hk', e⟩
          · obtain ⟨l', _, e, hlt⟩ := low x h
            left
            show sg x.1 0 < l
            rw [e]; exact hlt
          · right
            have ne : k' ≠ k := fun q => w (by rw [← q, ← e]; exact hx)
            have le : k' ≤ k := by
              obtain ⟨n, hn1, hn2⟩ := List.mem_take_iff_getElem.mp hk'
              have e2 := (List.getElem?_eq_some_iff.mp hj).2
              have := List.pairwise_iff_getElem.mp s1 n j (by omega) hjl (by omega)
              rw [hn2, e2] at this
              exact this
            rw [e]
            exact ⟨rfl, by show k' < k; omega⟩
        · rw [List.mem_append, c, take_at hj]
          constructor
          · rintro ((h | ⟨k', h, e⟩) | h)
            · exact .inl h
            · exact .inr ⟨k', List.mem_append_left _ h, e⟩
            · exact .inr ⟨k, List.mem_append_right _ List.mem_cons_self, List.mem_singleton.mp h⟩
          · rintro (h | ⟨k', h, e⟩)
            · exact .inl (.inl h)
            · rcases List.mem_append.mp h with h | h
              · exact .inl (.inr ⟨k', h, e⟩)
              · rw [List.mem_singleton.mp h] at e
                exact .inr (List.mem_singleton.mpr e)
        · have w : (cS l, k) ∈ r' := by simpa using w
          rw [c, take_at hj]
          constructor
          · rintro (h | ⟨k', h, e⟩)
            · exact .inl h
            · exact .inr ⟨k', List.mem_append_left _ h, e⟩
          · rintro (h | ⟨k', h, e⟩)
            · exact .inl h
            · rcases List.mem_append.mp h with h | h
              · exact .inr ⟨k', h, e⟩
              · rw [List.mem_singleton.mp h] at e
                rw [e]; exact (c _).mp w
      · obtain ⟨a, b, c⟩ := h
        refine ⟨a, by omega, fun p => ?_⟩
        rw [c, List.take_length]
        refine or_congr Iff.rfl ⟨?_, ?_⟩
        · rintro ⟨k, hk, e⟩
          rw [e]; exact ⟨(s3 k).mp hk, rfl⟩
        · rintro ⟨h1, h2⟩
          exact ⟨p.2, (s3 _).mpr (by rw [← h2]; exact h1), by rw [← h2]⟩
    · rw [h.2.2, hm, take_at hx]
      constructor
      · rintro (⟨a, l', b, e⟩ | ⟨a, e⟩)
        · exact ⟨a, l', List.mem_append_left _ b, e⟩
        · exact ⟨a, l, List.mem_append_right _ List.mem_cons_self, e⟩
      · rintro ⟨a, l', b, e⟩
        rcases List.mem_append.mp b with b | b
        · exact .inl ⟨a, l', b, e⟩
        · rw [List.mem_singleton.mp b] at e
          exact .inr ⟨a, e⟩
  · obtain ⟨a, b, c⟩ := hr
    exact ⟨a, b, c⟩
def sm {α : Type} (f : α → Nat) (L : List α) : Nat := (L.map f).sum
section
variable {α β : Type}
theorem sm_nil (f : α → Nat) : sm f [] = 0 := rfl
theorem sm_cons (f : α → Nat) (x : α) (L : List α) : sm f (x :: L) = f x + sm f L := by unfold sm; rw [List.map_cons, List.sum_cons]
theorem sm_append (f : α → Nat) (L M : List α) : sm f (L ++ M) = sm f L + sm f M := by unfold sm; rw [List.map_append, List.sum_append]
theorem sm_add (f g : α → Nat) (L : List α) : sm (fun x => f x + g x) L = sm f L + sm g L := by
  induction L with
  | nil => rfl
  | cons x L ih => rw [sm_cons, sm_cons, sm_cons, ih]; omega
theorem sm_congr {f g : α → Nat} {L : List α} (h : ∀ x ∈ L, f x = g x) : sm f L = sm g L := by
  unfold sm; rw [List.map_congr_left h]
theorem sm_mul (a : Nat) (f : α → Nat) (L : List α) : sm (fun x => a * f x) L = a * sm f L := by
  induction L with
  | nil => rfl
  | cons x L ih => rw [sm_cons, sm_cons, ih, Nat.mul_add]
theorem sm_mulR (a : Nat) (f : α → Nat) (L : List α) : sm (fun x => f x * a) L = sm f L * a := by
  induction L with
  | nil => exact (Nat.zero_mul a).symm
  | cons x L ih => rw [sm_cons, sm_cons, ih, Nat.add_mul]
theorem sm_zero {f : α → Nat} {L : List α} (h : ∀ x ∈ L, f x = 0) : sm f L = 0 := by
  induction L with
  | nil => rfl
  | cons x L ih => rw [sm_cons, h x List.mem_cons_self, ih fun y hy => h y (List.mem_cons_of_mem _ hy)]
theorem sm_perm {f : α → Nat} {L M : List α} (h : List.Perm L M) : sm f L = sm f M := by
  unfold sm
  exact (h.map f).sum_nat
theorem sm_filter (p : α → Bool) (f : α → Nat) (L : List α) : sm f L = sm f (L.filter p) + sm f (L.filter fun x => !p x) := by
  induction L with
  | nil => rfl
  | cons x L ih =>
    cases q : p x with
    | true => rw [List.filter_cons_of_pos q, List.filter_cons_of_neg (by simp [q]), sm_cons, sm_cons, ih]; omega
    | false => rw [List.filter_cons_of_neg (by simp [q]), List.filter_cons_of_pos (by simp [q]), sm_cons, sm_cons, ih]; omega
theorem sm_le [DecidableEq α] {f : α → Nat} {V E : List α} (nv : V.Nodup) (ne : E.Nodup) (h : ∀ v ∈ V, v ∉ E → f v = 0) : sm f V ≤ sm f E := by
  rw [sm_filter (fun w => decide (w ∈ E)) f V, sm_zero (L := V.filter fun w => !decide (w ∈ E)), Nat.add_zero, sm_filter (fun w => decide (w ∈ V)) f E]
  · refine Nat.le_trans (Nat.le_of_eq (sm_perm ((List.perm_ext_iff_of_nodup (nv.filter _) (ne.filter _)).mpr fun a => ?_))) (Nat.le_add_right _ _)
    rw [List.mem_filter, List.mem_filter, decide_eq_true_iff, decide_eq_true_iff]
    exact And.comm
  · intro x hx
    obtain ⟨h1, h2⟩ := List.mem_filter.mp hx
    exact h x h1 (by simpa using h2)
theorem sm_flat (f : β → Nat) (g : α → List β) (L : List α) : sm f (L.flatMap g) = sm (fun x => sm f (g x)) L := by
  induction L with
  | nil => rfl
  | cons x L ih => rw [List.flatMap_cons, sm_append, ih, sm_cons]
theorem sm_map (f : β → Nat) (g : α → β) (L : List α) : sm f (L.map g) = sm (fun x => f (g x)) L := by
  unfold sm; rw [List.map_map]; rfl
theorem sm_len (p : α → Bool) (L : List α) : (L.filter p).length = sm (fun x => (p x).toNat) L := by
  induction L with
  | nil => rfl
  | cons x L ih =>
    cases q : p x with
    | true => rw [List.filter_cons_of_pos q, List.length_cons, ih, sm_cons, q]; exact Nat.add_comm _ _
    | false => rw [List.filter_cons_of_neg (by simp [q]), ih, sm_cons, q]; exact (Nat.zero_add _).symm
theorem sm_bound {f : α → Nat} {n : Nat} : ∀ {L : List α}, (∀ x ∈ L, f x ≤ n) → sm f L ≤ L.length * n
  | [], _ => by rw [sm_nil]; exact Nat.zero_le _
  | x :: L, h => by
    rw [sm_cons, List.length_cons, Nat.add_mul, Nat.one_mul]
    have := h x List.mem_cons_self
    have := sm_bound fun y hy => h y (List.mem_cons_of_mem _ hy)
    omega
theorem sm_two (u : α → Nat) (v : β → Nat) (A : List α) (B : List β) : sm (fun a => sm (fun b => u a * v b) B) A = sm u A * sm v B := by
  rw [sm_congr (g := fun a => u a * sm v B) fun a _ => sm_mul (u a) v B, sm_mulR]
abbrev s2 (p : α → α → Nat) (L : List α) : Nat := sm (fun a => sm (fun b => p a b) L) L
abbrev s3 (p : α → α → α → Nat) (L : List α) : Nat := sm (fun a => sm (fun b => sm (fun c => p a b c) L) L) L
def t2 (p : α → α → Nat) : List α → Nat
  | [] => 0
  | x :: L => sm (fun y => p x y) L + t2 p L
def t3 (p : α → α → α → Nat) : List α → Nat
  | [] => 0
  | x :: L => t2 (p x) L + t3 p L
theorem s2_t2 (p : α → α → Nat) (hs : ∀ a b, p a b = p b a) (L : List α) : s2 p L = sm (fun a => p a a) L + 2 * t2 p L := by
  induction L with
  | nil => rfl
  | cons x L ih =>
    have e : s2 p (x :: L) = p x x + sm (fun b => p x b) L + (sm (fun a => p a x) L + s2 p L) := by
      show sm (fun a => sm (fun b => p a b) (x :: L)) (x :: L) = _
      rw [sm_cons, sm_cons, sm_congr (L := L) (g := fun a => p a x + sm (fun b => p a b) L) fun a _ => sm_cons _ _ _, sm_add]
    rw [e, ih, sm_cons, sm_congr (f := fun a => p a x) (g := fun b => p x b) fun a _ => hs a x]
    show _ = _ + 2 * (sm (fun y => p x y) L + t2 p L)
    omega
structure Sym3 (p1 : α → Nat) (p2 : α → α → Nat) (p : α → α → α → Nat) : Prop where
  xx : ∀ a, p2 a a = p1 a
  s2 : ∀ a b, p2 a b = p2 b a
  aab : ∀ a b, p a a b = p2 a b
  s12 : ∀ a b c, p a b c = p b a c
  s23 : ∀ a b c, p a b c = p a c b
theorem s3_t3 {p1 : α → Nat} {p2 : α → α → Nat} {p : α → α → α → Nat} (S : Sym3 p1 p2 p) (L : List α) : s3 p L = sm p1 L + 6 * t2 p2 L + 6 * t3 p L := by
  have abb : ∀ a b, p a b b = p2 a b := fun a b => by rw [S.s12, S.s23, S.aab, S.s2]
  have aba : ∀ a b, p a b a = p2 a b := fun a b => by rw [S.s23, S.aab]
  induction L with
  | nil => rfl
  | cons x L ih =>
    have e : s3 p (x :: L) = p x x x + sm (fun c => p x x c) L + (sm (fun b => p x b x) L + s2 (p x) L) + (sm (fun a => p a x x) L + sm (fun a => sm (fun c => p a x c) L) L + (sm (fun a => sm (fun b => p a b x) L) L + s3 p L)) := by
      show sm (fun a => sm (fun b => sm (fun c => p a b c) (x :: L)) (x :: L)) (x :: L) = _
      have i1 : ∀ a, sm (fun b => sm (fun c => p a b c) (x :: L)) (x :: L) = p a x x + sm (fun c => p a x c) L + (sm (fun b => p a b x) L + sm (fun b => sm (fun c => p a b c) L) L) := fun a => by
        rw [sm_cons, sm_cons, sm_congr (L := L) (g := fun b => p a b x + sm (fun c => p a b c) L) fun b _ => sm_cons _ _ _, sm_add]
      rw [sm_cons, i1, sm_congr (L := L) (g := fun a => p a x x + sm (fun c => p a x c) L + (sm (fun b => p a b x) L + sm (fun b => sm (fun c => p a b c) L) L)) fun a _ => i1 a, sm_add, sm_add, sm_add]
    have h1 : sm (fun c => p x x c) L = sm (fun c => p2 x c) L := sm_congr fun c _ => S.aab x c
    have h2 : sm (fun b => p x b x) L = sm (fun c => p2 x c) L := sm_congr fun c _ => aba x c
    have h3 : sm (fun a => p a x x) L = sm (fun c => p2 x c) L := sm_congr fun c _ => by rw [abb, S.s2]
    have h4 : sm (fun a => sm (fun c => p a x c) L) L = s2 (p x) L := sm_congr fun a _ => sm_congr fun c _ => S.s12 a x c
    have h5 : sm (fun a => sm (fun b => p a b x) L) L = s2 (p x) L := sm_congr fun a _ => sm_congr fun b _ => by rw [S.s23, S.s12]
    have h6 : s2 (p x) L = sm (fun c => p2 x c) L + 2 * t2 (p x) L := by
      rw [s2_t2 (p x) (fun a b => S.s23 x a b)]
      rw [sm_congr (f := fun a => p x a a) (g := fun c => p2 x c) fun a _ => abb x a]
    have h7 : p x x x = p1 x := by rw [S.aab, S.xx]
    rw [e, h1, h2, h3, h4, h5, h6, h7, ih, sm_cons]
    show _ = _ + 6 * (sm (fun y => p2 x y) L + t2 p2 L) + 6 * (t2 (p x) L + t3 p L)
    omega
abbrev prd (A : List α) (B : List β) : List (α × β) := A.flatMap fun a => B.map fun b => (a, b)
theorem sm_prd (f : α × β → Nat) (A : List α) (B : List β) : sm f (prd A B) = sm (fun a => sm (fun b => f (a, b)) B) A := by
  rw [sm_flat]; exact sm_congr fun a _ => sm_map _ _ _
theorem s1_prd (u : α → Nat) (v : β → Nat) (A : List α) (B : List β) : sm (fun x : α × β => u x.1 * v x.2) (prd A B) = sm u A * sm v B := by
  rw [sm_prd]; exact sm_two u v A B
theorem s2_prd (u : α → α → Nat) (v : β → β → Nat) (A : List α) (B : List β) : s2 (fun x y : α × β => u x.1 y.1 * v x.2 y.2) (prd A B) = s2 u A * s2 v B := by
  show sm (fun x => sm (fun y => u x.1 y.1 * v x.2 y.2) (prd A B)) (prd A B) = _
  rw [sm_congr (g := fun x : α × β => sm (fun y => u x.1 y) A * sm (fun y => v x.2 y) B) fun x _ => s1_prd (fun y => u x.1 y) (fun y => v x.2 y) A B]
  exact s1_prd (fun x => sm (fun y => u x y) A) (fun x => sm (fun y => v x y) B) A B
theorem s3_prd (u : α → α → α → Nat) (v : β → β → β → Nat) (A : List α) (B : List β) : s3 (fun x y z : α × β => u x.1 y.1 z.1 * v x.2 y.2 z.2) (prd A B) = s3 u A * s3 v B := by
  show sm (fun x => s2 (fun y z : α × β => u x.1 y.1 z.1 * v x.2 y.2 z.2) (prd A B)) (prd A B) = _
  rw [sm_congr (g := fun x : α × β => s2 (fun y z => u x.1 y z) A * s2 (fun y z => v x.2 y z) B) fun x _ => s2_prd (fun y z => u x.1 y z) (fun y z => v x.2 y z) A B]
  exact s1_prd (fun x => s2 (fun y z => u x y z) A) (fun x => s2 (fun y z => v x y z) B) A B
def prs : List α → List (List α)
  | [] => []
  | x :: L => L.map (fun y => [x, y]) ++ prs L
def trs : List α → List (List α)
  | [] => []
  | x :: L => (prs L).map (fun t => x :: t) ++ trs L
theorem len_prs (p : List α → Bool) (L : List α) : ((prs L).filter p).length = t2 (fun a b => (p [a, b]).toNat) L := by
  induction L with
  | nil => rfl
  | cons x L ih =>
    show ((L.map (fun y => [x, y]) ++ prs L).filter p).length = sm _ L + t2 _ L
    rw [List.filter_append, List.length_append, ih, sm_len, sm_map]
theorem len_trs (p : List α → Bool) (L : List α) : ((trs L).filter p).length = t3 (fun a b c => (p [a, b, c]).toNat) L := by
  induction L with
  | nil => rfl
  | cons x L ih =>
    show (((prs L).map (fun t => x :: t) ++ trs L).filter p).length = t2 _ L + t3 _ L
    rw [List.filter_append, List.length_append, ih, List.filter_map, List.length_map]
    rw [show (prs L).filter (p ∘ fun t => x :: t) = (prs L).filter (fun t => p (x :: t)) from rfl, len_prs]
theorem prs_form {L : List α} {t : List α} (h : t ∈ prs L) : ∃ a b, t = [a, b] ∧ a ∈ L ∧ b ∈ L := by
  induction L with
  | nil => cases h
  | cons x L ih =>
    rcases List.mem_append.mp h with h | h
    · obtain ⟨y, hy, rfl⟩ := List.mem_map.mp h
      exact ⟨x, y, rfl, List.mem_cons_self, List.mem_cons_of_mem _ hy⟩
    · obtain ⟨a, b, e, ha, hb⟩ := ih h
      exact ⟨a, b, e, List.mem_cons_of_mem _ ha, List.mem_cons_of_mem _ hb⟩
theorem trs_form {L : List α} {t : List α} (h : t ∈ trs L) : ∃ a b c, t = [a, b, c] ∧ a ∈ L ∧ b ∈ L ∧ c ∈ L := by
  induction L with
  | nil => cases h
  | cons x L ih =>
    rcases List.mem_append.mp h with h | h
    · obtain ⟨y, hy, rfl⟩ := List.mem_map.mp h
      obtain ⟨a, b, rfl, ha, hb⟩ := prs_form hy
      exact ⟨x, a, b, rfl, List.mem_cons_self, List.mem_cons_of_mem _ ha, List.mem_cons_of_mem _ hb⟩
    · obtain ⟨a, b, c, e, ha, hb, hc⟩ := ih h
      exact ⟨a, b, c, e, List.mem_cons_of_mem _ ha, List.mem_cons_of_mem _ hb, List.mem_cons_of_mem _ hc⟩
theorem prs_nodup {L : List α} (h : L.Nodup) : (prs L).Nodup := by
  induction L with
  | nil => exact List.nodup_nil
  | cons x L ih =>
    obtain ⟨h1, h2⟩ := List.nodup_cons.mp h
    refine List.nodup_append.mpr ⟨List.nodup_iff_pairwise_ne.mpr (List.pairwise_map.mpr (h2.imp fun {a b} hab e => hab (by injection e with _ e; injection e))), ih h2, fun t ht s hs e => ?_⟩
    obtain ⟨y, _, rfl⟩ := List.mem_map.mp ht
    obtain ⟨a, b, rfl, ha, _⟩ := prs_form hs
    injection e with e _
    exact h1 (e ▸ ha)
theorem trs_nodup {L : List α} (h : L.Nodup) : (trs L).Nodup := by
  induction L with
  | nil => exact List.nodup_nil
  | cons x L ih =>
    obtain ⟨h1, h2⟩ := List.nodup_cons.mp h
    refine List.nodup_append.mpr ⟨List.nodup_iff_pairwise_ne.mpr (List.pairwise_map.mpr ((prs_nodup h2).imp fun {a b} hab e => hab (by injection e))), ih h2, fun t ht s hs e => ?_⟩
    obtain ⟨y, _, rfl⟩ := List.mem_map.mp ht
    obtain ⟨a, b, c, rfl, ha, _⟩ := trs_form hs
    injection e with e _
    exact h1 (e ▸ ha)
end
theorem prs_inc {L : List Row} (h : Inc L) {a b : Row} : [a, b] ∈ prs L ↔ a ∈ L ∧ b ∈ L ∧ ltRow a b = true := by
  induction L with
  | nil => exact ⟨(fun h => nomatch h), (fun h => nomatch h.1)⟩
  | cons x L ih =>
    obtain ⟨h1, h2⟩ := List.pairwise_cons.mp h
    show [a, b] ∈ L.map (fun y => [x, y]) ++ prs L ↔ _
    rw [List.mem_append, ih h2]
    constructor
    · rintro (q | ⟨qa, qb, ql⟩)
      · obtain ⟨y, hy, e⟩ := List.mem_map.mp q
        injection e with e1 e2
        injection e2 with e2 _
        subst e1 e2
        exact ⟨List.mem_cons_self, List.mem_cons_of_mem _ hy, h1 y hy⟩
      · exact ⟨List.mem_cons_of_mem _ qa, List.mem_cons_of_mem _ qb, ql⟩
    · rintro ⟨qa, qb, ql⟩
      rcases List.mem_cons.mp qa with ea | qa'
      · subst ea
        rcases List.mem_cons.mp qb with eb | qb'
        · rw [eb, ltRow_ir] at ql; cases ql
        · exact .inl (List.mem_map_of_mem qb')
      · rcases List.mem_cons.mp qb with eb | qb'
        · rw [eb] at ql
          exact absurd (h1 a qa') (ltRow_as ql)
        · exact .inr ⟨qa', qb', ql⟩
theorem trs_inc {L : List Row} (h : Inc L) {a b c : Row} : [a, b, c] ∈ trs L ↔ (a ∈ L ∧ b ∈ L ∧ c ∈ L) ∧ ltRow a b = true ∧ ltRow b c = true := by
  induction L with
  | nil => exact ⟨(fun h => nomatch h), (fun h => nomatch h.1.1)⟩
  | cons x L ih =>
    obtain ⟨h1, h2⟩ := List.pairwise_cons.mp h
    show [a, b, c] ∈ (prs L).map (fun t => x :: t) ++ trs L ↔ _
    rw [List.mem_append, ih h2]
    constructor
    · rintro (q | ⟨⟨qa, qb, qc⟩, ql⟩)
      · obtain ⟨y, hy, e⟩ := List.mem_map.mp q
        injection e with e1 e2
        subst e1 e2
        obtain ⟨a1, a2, a3⟩ := (prs_inc h2).mp hy
        exact ⟨⟨List.mem_cons_self, List.mem_cons_of_mem _ a1, List.mem_cons_of_mem _ a2⟩, h1 b a1, a3⟩
      · exact ⟨⟨List.mem_cons_of_mem _ qa, List.mem_cons_of_mem _ qb, List.mem_cons_of_mem _ qc⟩, ql⟩
    · rintro ⟨⟨qa, qb, qc⟩, ql, qm⟩
      have nb : ∀ {y z : Row}, ltRow y z = true → z ∈ x :: L → y ∈ x :: L → z ∈ L := fun {y z} hl hz hy => by
        rcases List.mem_cons.mp hz with ez | hz'
        · rw [ez] at hl
          rcases List.mem_cons.mp hy with ey | hy'
          · rw [ey, ltRow_ir] at hl; cases hl
          · exact absurd (h1 y hy') (ltRow_as hl)
        · exact hz'
      have qb' := nb ql qb qa
      have qc' := nb qm qc qb
      rcases List.mem_cons.mp qa with rfl | qa
      · exact .inl (List.mem_map_of_mem ((prs_inc h2).mpr ⟨qb', qc', qm⟩))
      · exact .inr ⟨⟨qa, qb', qc'⟩, ql, qm⟩
abbrev qq (ks l : List Int) : Bool := l.all (pkV l ks)
theorem pkV_congr {l l' ks : List Int} (h : ∀ v, v ∈ l ↔ v ∈ l') (v : Int) : pkV l ks v = pkV l' ks v := by
  have e1 : decide (v - 1 ∈ l) = decide (v - 1 ∈ l') := decide_eq_decide.mpr (h (v - 1))
  have e2 : decide (v + 1 ∈ l) = decide (v + 1 ∈ l') := decide_eq_decide.mpr (h (v + 1))
  show (decide (v ∈ ks) || (if ks.isEmpty = true then decide (v = 0) || decide (v - 1 ∈ l) else if v < ixL ks 0 then decide (v + 1 ∈ l) || decide (v + 1 ∈ ks) else decide (v - 1 ∈ l) || decide (v - 1 ∈ ks))) = _
  rw [e1, e2]
theorem qq_congr {l l' ks : List Int} (h : ∀ v, v ∈ l ↔ v ∈ l') : qq ks l = qq ks l' := by
  rw [Bool.eq_iff_iff]
  show l.all _ = true ↔ l'.all _ = true
  rw [List.all_eq_true, List.all_eq_true]
  exact ⟨fun q v hv => by rw [← pkV_congr h]; exact q v ((h v).mpr hv), fun q v hv => by rw [pkV_congr h]; exact q v ((h v).mp hv)⟩
abbrev c1 (ks : List Int) (a : Int) : Nat := (qq ks [a]).toNat
abbrev c2 (ks : List Int) (a b : Int) : Nat := (qq ks [a, b]).toNat
abbrev c3 (ks : List Int) (a b c : Int) : Nat := (qq ks [a, b, c]).toNat
theorem sym_c (ks : List Int) : Sym3 (c1 ks) (c2 ks) (c3 ks) where
  xx := fun a => congrArg Bool.toNat (qq_congr fun v => by simp only [List.mem_cons, List.not_mem_nil, or_false]; omega)
  s2 := fun a b => congrArg Bool.toNat (qq_congr fun v => by simp only [List.mem_cons, List.not_mem_nil, or_false]; omega)
  aab := fun a b => congrArg Bool.toNat (qq_congr fun v => by simp only [List.mem_cons, List.not_mem_nil, or_false]; omega)
  s12 := fun a b c => congrArg Bool.toNat (qq_congr fun v => by simp only [List.mem_cons, List.not_mem_nil, or_false]; omega)
  s23 := fun a b c => congrArg Bool.toNat (qq_congr fun v => by simp only [List.mem_cons, List.not_mem_nil, or_false]; omega)
theorem sym_mul {α β : Type} {p1 : α → Nat} {p2 : α → α → Nat} {p : α → α → α → Nat} {q1 : β → Nat} {q2 : β → β → Nat} {q : β → β → β → Nat} (S : Sym3 p1 p2 p) (T : Sym3 q1 q2 q) :
    Sym3 (fun x : α × β => p1 x.1 * q1 x.2) (fun x y : α × β => p2 x.1 y.1 * q2 x.2 y.2) (fun x y z : α × β => p x.1 y.1 z.1 * q x.2 y.2 z.2) where
  xx := fun a => by rw [S.xx, T.xx]
  s2 := fun a b => by rw [S.s2, T.s2]
  aab := fun a b => by rw [S.aab, T.aab]
  s12 := fun a b c => by rw [S.s12, T.s12]
  s23 := fun a b c => by rw [S.s23, T.s23]
abbrev R1 (r : List Mk2) (x : Row) : Nat := c1 (consts r 0) x.1 * (c1 (consts r 1) x.2.1 * c1 (consts r 2) x.2.2)
abbrev R2 (r : List Mk2) (x y : Row) : Nat := c2 (consts r 0) x.1 y.1 * (c2 (consts r 1) x.2.1 y.2.1 * c2 (consts r 2) x.2.2 y.2.2)
abbrev R3 (r : List Mk2) (x y z : Row) : Nat := c3 (consts r 0) x.1 y.1 z.1 * (c3 (consts r 1) x.2.1 y.2.1 z.2.1 * c3 (consts r 2) x.2.2 y.2.2 z.2.2)
theorem sym_R (r : List Mk2) : Sym3 (R1 r) (R2 r) (R3 r) := sym_mul (sym_c (consts r 0)) (sym_mul (sym_c (consts r 1)) (sym_c (consts r 2)))
abbrev PT (r : List Mk2) (t : List Row) : Bool := qq (consts r 0) (colOf 0 t) && (qq (consts r 1) (colOf 1 t) && qq (consts r 2) (colOf 2 t))
theorem toNat_and (a b : Bool) : (a && b).toNat = a.toNat * b.toNat := by cases a <;> cases b <;> rfl
theorem PT1 (r : List Mk2) (x : Row) : (PT r [x]).toNat = R1 r x := by rw [toNat_and, toNat_and]; rfl
theorem PT2 (r : List Mk2) (x y : Row) : (PT r [x, y]).toNat = R2 r x y := by rw [toNat_and, toNat_and]; rfl
theorem PT3 (r : List Mk2) (x y z : Row) : (PT r [x, y, z]).toNat = R3 r x y z := by rw [toNat_and, toNat_and]; rfl
theorem PT_iff {r : List Mk2} {M : List (Fin 3 × Int)} (h : MkL r M) (t : List Row) : PT r t = true ↔ PkT r t := by
  have one : ∀ c : Fin 3, qq (consts r c) (colOf c t) = true ↔ ∀ o ∈ t, PkP (colOf c t) (consts r c) (rowAt o (c.val : Int)) := fun c => by
    show (colOf c t).all _ = true ↔ _
    rw [List.all_eq_true]
    exact ⟨fun q o ho => (pkV_iff (consts_srt h c) _).mp (q _ (mem_col c ho)), fun q v hv => by
      obtain ⟨o, ho, rfl⟩ := List.mem_map.mp hv
      exact (pkV_iff (consts_srt h c) _).mpr (q o ho)⟩
  rw [Bool.and_eq_true, Bool.and_eq_true, one, one, one]
  exact ⟨fun ⟨q0, q1, q2⟩ c => by
    have : c = 0 ∨ c = 1 ∨ c = 2 := by revert c; decide
    rcases this with rfl | rfl | rfl
    · exact q0
    · exact q1
    · exact q2, fun q => ⟨q 0, q 1, q 2⟩⟩
theorem near_prd (C : Fin 3 → Bool) (r : List Mk2) : (m_candidate_rows (colS C) r (3 : Int)).val = prd (valsN C r 0) (prd (valsN C r 1) (valsN C r 2)) := by
  have e : (m_candidate_rows (colS C) r (3 : Int)).val = (valsN C r 0).flatMap fun i => (valsN C r 1).flatMap fun j => (valsN C r 2).map fun k => (i, j, k) := by
    unfold m_candidate_rows
    rw [abc_l]
    simp only [filter_t]
    rfl
  rw [e]
  show _ = (valsN C r 0).flatMap fun i => ((valsN C r 1).flatMap fun j => (valsN C r 2).map fun k => (j, k)).map fun b => (i, b)
  congr 1
  funext i
  rw [List.map_flatMap]
  congr 1
  funext j
  rw [List.map_map]
  rfl
theorem tabs_nodup {r : List Mk2} {near : List Row} {tabs : List (List Row)} (T : TabsE r near tabs) : tabs.Nodup := T.srt.imp fun {a b} q e => by
  subst e
  exact ltT_as q q
theorem tabs_len {C : Fin 3 → Bool} {r : List Mk2} {M : List (Fin 3 × Int)} (h : MkL r M) (hMC : ∀ p ∈ M, C p.1 = true) (hw : (colS C).length + r.length ≤ 4) :
    (m_packed_tables (colS C) r).val.length = sm (R1 r) (m_candidate_rows (colS C) r (3 : Int)).val + t2 (R2 r) (m_candidate_rows (colS C) r (3 : Int)).val + t3 (R3 r) (m_candidate_rows (colS C) r (3 : Int)).val := by
  have T := tablesE (C := C) h hw
  have O := (tables_sat h hMC hw).2
  have I := cand_inc (C := C) h
  have ndT := tabs_nodup T
  generalize (m_packed_tables (colS C) r).val = tabs at T O ndT ⊢
  generalize (m_candidate_rows (colS C) r (3 : Int)).val = L at T O I ⊢
  have ndL : L.Nodup := I.imp fun {a b} q e => by rw [e, ltRow_ir] at q; cases q
  have nd1 : (L.map fun x => [x]).Nodup := List.nodup_iff_pairwise_ne.mpr (List.pairwise_map.mpr (ndL.imp fun {a b} hab e => hab (by injection e)))
  have ndR : (((L.map fun x => [x]) ++ prs L ++ trs L).filter (PT r)).Nodup := by
    refine (List.nodup_append.mpr ⟨List.nodup_append.mpr ⟨nd1, prs_nodup ndL, fun t ht s hs e => ?_⟩, trs_nodup ndL, fun t ht s hs e => ?_⟩).filter _
    · obtain ⟨y, _, rfl⟩ := List.mem_map.mp ht
      obtain ⟨a, b, rfl, _⟩ := prs_form hs
      cases e
    · obtain ⟨a, b, c, rfl, _⟩ := trs_form hs
      rcases List.mem_append.mp ht with ht | ht
      · obtain ⟨y, _, rfl⟩ := List.mem_map.mp ht
        cases e
      · obtain ⟨a, b, rfl, _⟩ := prs_form ht
        cases e
  have mem : ∀ t, t ∈ tabs ↔ t ∈ ((L.map fun x => [x]) ++ prs L ++ trs L).filter (PT r) := fun t => by
    rw [List.mem_filter, PT_iff h]
    constructor
    · intro ht
      refine ⟨?_, T.pk t ht⟩
      obtain ⟨⟨l1, l3⟩, hm⟩ := O.sm t ht
      have hi := T.inc t ht
      match t, l1, l3, hm, hi with
      | [a], _, _, hm, _ => exact List.mem_append_left _ (List.mem_append_left _ (List.mem_map_of_mem (hm a List.mem_cons_self)))
      | [a, b], _, _, hm, hi => exact List.mem_append_left _ (List.mem_append_right _ ((prs_inc I).mpr ⟨hm a (by simp), hm b (by simp), (List.pairwise_cons.mp hi).1 b (by simp)⟩))
      | [a, b, c], _, _, hm, hi => exact List.mem_append_right _ ((trs_inc I).mpr ⟨⟨hm a (by simp), hm b (by simp), hm c (by simp)⟩, (List.pairwise_cons.mp hi).1 b (by simp), (List.pairwise_cons.mp (List.pairwise_cons.mp hi).2).1 c (by simp)⟩)
      | _ :: _ :: _ :: _ :: _, _, l3, _, _ => simp only [List.length_cons] at l3; omega
    · rintro ⟨ht, hp⟩
      rcases List.mem_append.mp ht with ht | ht
      · rcases List.mem_append.mp ht with ht | ht
        · obtain ⟨a, ha, rfl⟩ := List.mem_map.mp ht
          exact T.all _ (by simp) (by simp) (List.pairwise_singleton _ _) (fun o ho => by rw [List.mem_singleton.mp ho]; exact ha) hp
        · obtain ⟨a, b, rfl, ha, hb⟩ := prs_form ht
          obtain ⟨_, _, q⟩ := (prs_inc I).mp ht
          refine T.all _ (by simp) (by simp) (List.pairwise_cons.mpr ⟨fun o ho => by rw [List.mem_singleton.mp ho]; exact q, List.pairwise_singleton _ _⟩) (fun o ho => ?_) hp
          rcases List.mem_cons.mp ho with rfl | ho
          · exact ha
          · rw [List.mem_singleton.mp ho]; exact hb
      · obtain ⟨a, b, c, rfl, ha, hb, hc⟩ := trs_form ht
        obtain ⟨_, q1, q2⟩ := (trs_inc I).mp ht
        refine T.all _ (by simp) (by simp) (List.pairwise_cons.mpr ⟨fun o ho => ?_, List.pairwise_cons.mpr ⟨fun o ho => by rw [List.mem_singleton.mp ho]; exact q2, List.pairwise_singleton _ _⟩⟩) (fun o ho => ?_) hp
        · rcases List.mem_cons.mp ho with rfl | ho
          · exact q1
          · rw [List.mem_singleton.mp ho]; exact ltRow_tr q1 q2
        · rcases List.mem_cons.mp ho with rfl | ho
          · exact ha
          rcases List.mem_cons.mp ho with rfl | ho
          · exact hb
          · rw [List.mem_singleton.mp ho]; exact hc
  have e : tabs.length = (((L.map fun x => [x]) ++ prs L ++ trs L).filter (PT r)).length :=
    Nat.le_antisymm (nodup_sub _ _ ndT fun x hx => (mem x).mp hx) (nodup_sub _ _ ndR fun x hx => (mem x).mpr hx)
  rw [e, List.filter_append, List.filter_append, List.length_append, List.length_append, len_prs, len_trs, sm_len, sm_map]
  have f1 : (fun x => (PT r [x]).toNat) = R1 r := funext fun x => PT1 r x
  have f2 : (fun a b => (PT r [a, b]).toNat) = R2 r := funext fun x => funext fun y => PT2 r x y
  have f3 : (fun a b c => (PT r [a, b, c]).toNat) = R3 r := funext fun x => funext fun y => funext fun z => PT3 r x y z
  rw [f1, f2, f3]
abbrev n1 (C : Fin 3 → Bool) (r : List Mk2) (c : Fin 3) : Nat := sm (c1 (consts r c)) (valsN C r c)
abbrev n2 (C : Fin 3 → Bool) (r : List Mk2) (c : Fin 3) : Nat := s2 (c2 (consts r c)) (valsN C r c)
abbrev n3 (C : Fin 3 → Bool) (r : List Mk2) (c : Fin 3) : Nat := s3 (c3 (consts r c)) (valsN C r c)
theorem tabs_ways {C : Fin 3 → Bool} {r : List Mk2} {M : List (Fin 3 × Int)} (h : MkL r M) (hMC : ∀ p ∈ M, C p.1 = true) (hw : (colS C).length + r.length ≤ 4) :
    ∃ A B : Nat, (m_packed_tables (colS C) r).val.length = n1 C r 0 * (n1 C r 1 * n1 C r 2) + A + B ∧ n2 C r 0 * (n2 C r 1 * n2 C r 2) = n1 C r 0 * (n1 C r 1 * n1 C r 2) + 2 * A ∧ n3 C r 0 * (n3 C r 1 * n3 C r 2) = n1 C r 0 * (n1 C r 1 * n1 C r 2) + 6 * A + 6 * B := by
  have e := tabs_len h hMC hw
  rw [near_prd] at e
  have q1 : sm (R1 r) (prd (valsN C r 0) (prd (valsN C r 1) (valsN C r 2))) = n1 C r 0 * (n1 C r 1 * n1 C r 2) := by
    rw [← s1_prd (c1 (consts r 1)) (c1 (consts r 2)), ← s1_prd (c1 (consts r 0)) (fun y : Int × Int => c1 (consts r 1) y.1 * c1 (consts r 2) y.2)]
  have q2 : s2 (R2 r) (prd (valsN C r 0) (prd (valsN C r 1) (valsN C r 2))) = n2 C r 0 * (n2 C r 1 * n2 C r 2) := by
    rw [← s2_prd (c2 (consts r 1)) (c2 (consts r 2)), ← s2_prd (c2 (consts r 0)) (fun x y : Int × Int => c2 (consts r 1) x.1 y.1 * c2 (consts r 2) x.2 y.2)]
  have q3 : s3 (R3 r) (prd (valsN C r 0) (prd (valsN C r 1) (valsN C r 2))) = n3 C r 0 * (n3 C r 1 * n3 C r 2) := by
    rw [← s3_prd (c3 (consts r 1)) (c3 (consts r 2)), ← s3_prd (c3 (consts r 0)) (fun x y z : Int × Int => c3 (consts r 1) x.1 y.1 z.1 * c3 (consts r 2) x.2 y.2 z.2)]
  have S := sym_R r
  refine ⟨t2 (R2 r) _, t3 (R3 r) _, by rw [e, q1], ?_, ?_⟩
  · rw [← q2, s2_t2 (R2 r) S.s2, sm_congr (g := R1 r) fun a _ => S.xx a, q1]
  · rw [← q3, s3_t3 S, q1]
structure Sup (ks V : List Int) : Prop where
  nd : V.Nodup
  all : ∀ l : List Int, l.length ≤ 3 → qq ks l = true → ∀ v ∈ l, v ∈ V
theorem sup_near {ks V : List Int} (hs : ks.Pairwise (· < ·)) (h : NearV 3 ks V) (hf : ks = [] → ∀ i : Nat, i < 3 → (i : Int) ∈ V) (nd : V.Nodup) : Sup ks V := by
  refine ⟨nd, fun l hl hq v hv => ?_⟩
  have hp : ∀ v ∈ l, PkP l ks v := fun v hv => (pkV_iff hs v).mp (List.all_eq_true.mp hq v hv)
  have := col_vals h hf (Nat.le_trans (dd_len l) hl) v hv
  rwa [pk1_id hp hv] at this
theorem nat_of {b : Bool} (h : b.toNat ≠ 0) : b = true := by cases b with
  | true => rfl
  | false => exact absurd rfl h
theorem sup_sm {α : Type} [DecidableEq α] {f : α → Nat} {V W : List α} (nv : V.Nodup) (nw : W.Nodup) (hv : ∀ x, f x ≠ 0 → x ∈ V) (hw : ∀ x, f x ≠ 0 → x ∈ W) : sm f V = sm f W :=
  Nat.le_antisymm (sm_le nv nw fun x _ h => Classical.byContradiction fun q => h (hw x q)) (sm_le nw nv fun x _ h => Classical.byContradiction fun q => h (hv x q))
theorem sm_ne {α : Type} {f : α → Nat} {L : List α} (h : sm f L ≠ 0) : ∃ x ∈ L, f x ≠ 0 := Classical.byContradiction fun q => h (sm_zero fun x hx => Classical.byContradiction fun z => q ⟨x, hx, z⟩)
theorem sup_eq {ks V W : List Int} (A : Sup ks V) (B : Sup ks W) : sm (c1 ks) V = sm (c1 ks) W ∧ s2 (c2 ks) V = s2 (c2 ks) W ∧ s3 (c3 ks) V = s3 (c3 ks) W := by
  have a1 : ∀ {V}, Sup ks V → ∀ x, c1 ks x ≠ 0 → x ∈ V := fun A x h => A.all [x] (by simp) (nat_of h) x (by simp)
  have a2 : ∀ {V}, Sup ks V → ∀ x y, c2 ks x y ≠ 0 → x ∈ V ∧ y ∈ V := fun A x y h => ⟨A.all [x, y] (by simp) (nat_of h) x (by simp), A.all [x, y] (by simp) (nat_of h) y (by simp)⟩
  have a3 : ∀ {V}, Sup ks V → ∀ x y z, c3 ks x y z ≠ 0 → x ∈ V ∧ y ∈ V ∧ z ∈ V := fun A x y z h => ⟨A.all [x, y, z] (by simp) (nat_of h) x (by simp), A.all [x, y, z] (by simp) (nat_of h) y (by simp), A.all [x, y, z] (by simp) (nat_of h) z (by simp)⟩
  refine ⟨sup_sm A.nd B.nd (a1 A) (a1 B), ?_, ?_⟩
  · show sm (fun a => sm (fun b => c2 ks a b) V) V = sm (fun a => sm (fun b => c2 ks a b) W) W
    have e : ∀ a, sm (fun b => c2 ks a b) V = sm (fun b => c2 ks a b) W := fun a => sup_sm A.nd B.nd (fun b h => (a2 A a b h).2) fun b h => (a2 B a b h).2
    rw [sm_congr fun a _ => e a]
    refine sup_sm A.nd B.nd (fun a h => ?_) fun a h => ?_
    · obtain ⟨b, _, h⟩ := sm_ne h; exact (a2 A a b h).1
    · obtain ⟨b, _, h⟩ := sm_ne h; exact (a2 B a b h).1
  · show sm (fun a => sm (fun b => sm (fun c => c3 ks a b c) V) V) V = sm (fun a => sm (fun b => sm (fun c => c3 ks a b c) W) W) W
    have e : ∀ a b, sm (fun c => c3 ks a b c) V = sm (fun c => c3 ks a b c) W := fun a b => sup_sm A.nd B.nd (fun c h => (a3 A a b c h).2.2) fun c h => (a3 B a b c h).2.2
    have e2 : ∀ a, sm (fun b => sm (fun c => c3 ks a b c) V) V = sm (fun b => sm (fun c => c3 ks a b c) W) W := fun a => by
      rw [sm_congr fun b _ => e a b]
      refine sup_sm A.nd B.nd (fun b h => ?_) fun b h => ?_
      · obtain ⟨c, _, h⟩ := sm_ne h; exact (a3 A a b c h).2.1
      · obtain ⟨c, _, h⟩ := sm_ne h; exact (a3 B a b c h).2.1
    rw [sm_congr fun a _ => e2 a]
    refine sup_sm A.nd B.nd (fun a h => ?_) fun a h => ?_
    · obtain ⟨b, _, h⟩ := sm_ne h; obtain ⟨c, _, h⟩ := sm_ne h; exact (a3 A a b c h).1
    · obtain ⟨b, _, h⟩ := sm_ne h; obtain ⟨c, _, h⟩ := sm_ne h; exact (a3 B a b c h).1
theorem toNat_le (b : Bool) : b.toNat ≤ 1 := by cases b <;> decide
theorem n_crude (ks V : List Int) : sm (c1 ks) V ≤ V.length ∧ s3 (c3 ks) V ≤ V.length * (V.length * V.length) := by
  refine ⟨by have := sm_bound (f := c1 ks) (n := 1) (L := V) fun x _ => toNat_le _; omega, sm_bound fun a _ => sm_bound fun b _ => ?_⟩
  have := sm_bound (f := fun c => c3 ks a b c) (n := 1) (L := V) fun x _ => toNat_le _
  omega
theorem pkV_shift (k v : Int) (l : List Int) : pkV (l.map fun x => x + k) [k] (v + k) = pkV l [0] v := by
  have m : ∀ u : Int, decide (u + k ∈ l.map fun x => x + k) = decide (u ∈ l) := fun u => decide_eq_decide.mpr ⟨fun h => by
    obtain ⟨x, hx, e⟩ := List.mem_map.mp h
    have : x = u := by omega
    exact this ▸ hx, fun h => List.mem_map_of_mem h⟩
  have s : ∀ u : Int, decide (u + k ∈ [k]) = decide (u ∈ [(0 : Int)]) := fun u => decide_eq_decide.mpr (by simp only [List.mem_singleton]; omega)
  have e1 : v + k - 1 = (v - 1) + k := by omega
  have e2 : v + k + 1 = (v + 1) + k := by omega
  show (decide (v + k ∈ [k]) || (if ([k] : List Int).isEmpty = true then decide (v + k = 0) || decide (v + k - 1 ∈ l.map fun x => x + k) else if v + k < ixL [k] 0 then decide (v + k + 1 ∈ l.map fun x => x + k) || decide (v + k + 1 ∈ [k]) else decide (v + k - 1 ∈ l.map fun x => x + k) || decide (v + k - 1 ∈ [k]))) = _
  rw [e1, e2, m, m, s, s, s]
  have c : (v + k < ixL [k] 0) = (v < ixL [(0 : Int)] 0) := propext (by show v + k < k ↔ v < 0; omega)
  simp only [c]
  rfl
theorem qq_shift (k : Int) (l : List Int) : qq [k] (l.map fun x => x + k) = qq [0] l := by
  rw [Bool.eq_iff_iff]
  show (l.map fun x => x + k).all _ = true ↔ l.all _ = true
  rw [List.all_eq_true, List.all_eq_true]
  exact ⟨fun h v hv => by rw [← pkV_shift k]; exact h _ (List.mem_map_of_mem hv), fun h v hv => by
    obtain ⟨x, hx, rfl⟩ := List.mem_map.mp hv
    rw [pkV_shift]; exact h x hx⟩
abbrev E7 : List Int := [-3, -2, -1, 0, 1, 2, 3]
theorem e7_all : sm (c1 [0]) E7 = 3 ∧ s3 (c3 [0]) E7 = 75 := by decide +kernel
theorem free_all : sm (c1 []) [0, 1, 2] = 1 ∧ s3 (c3 []) [0, 1, 2] = 13 := by decide +kernel
theorem one_mark (k : Int) : sm (c1 [k]) (E7.map fun x => x + k) = 3 ∧ s3 (c3 [k]) (E7.map fun x => x + k) = 75 := by
  have e1 : ∀ a, c1 [k] (a + k) = c1 [0] a := fun a => congrArg Bool.toNat (qq_shift k [a])
  have e3 : ∀ a b c, c3 [k] (a + k) (b + k) (c + k) = c3 [0] a b c := fun a b c => congrArg Bool.toNat (qq_shift k [a, b, c])
  refine ⟨by rw [sm_map, sm_congr fun a _ => e1 a]; exact e7_all.1, ?_⟩
  show sm (fun a => sm (fun b => sm (fun c => c3 [k] a b c) (E7.map fun x => x + k)) (E7.map fun x => x + k)) (E7.map fun x => x + k) = _
  rw [sm_map]
  rw [sm_congr (g := fun a => sm (fun b => sm (fun c => c3 [0] a b c) E7) E7) fun a _ => by
    rw [sm_map]
    refine sm_congr fun b _ => ?_
    rw [sm_map]
    exact sm_congr fun c _ => e3 a b c]
  exact e7_all.2
theorem sup_one (k : Int) : Sup [k] (E7.map fun x => x + k) := by
  have im : ∀ j : Int, -3 ≤ j → j ≤ 3 → j + k ∈ E7.map fun x => x + k := fun j h1 h2 => List.mem_map_of_mem (by simp only [List.mem_cons, List.not_mem_nil, or_false]; omega)
  refine sup_near (List.pairwise_singleton _ _) ⟨fun k' hk i hi => ?_, fun _ => ⟨k, by simp, fun k' hk => by rw [List.mem_singleton.mp hk]; exact Int.le_refl _, fun i h1 h2 => ?_⟩, fun e => nomatch e⟩ (fun e => nomatch e) ?_
  · rw [List.mem_singleton.mp hk, Int.add_comm]; exact im _ (by omega) (by omega)
  · have := im (-(i : Int)) (by omega) (by omega)
    rwa [show -(i : Int) + k = k - (i : Int) by omega] at this
  · refine List.nodup_iff_pairwise_ne.mpr (List.pairwise_map.mpr ((List.nodup_iff_pairwise_ne.mp (by decide : E7.Nodup)).imp fun {a b} q e => q (by omega)))
theorem sup_vals {C : Fin 3 → Bool} {r : List Mk2} {M : List (Fin 3 × Int)} (h : MkL r M) (hMC : ∀ p ∈ M, C p.1 = true) (c : Fin 3) (hc : C c = true) : Sup (consts r c) (valsN C r c) := by
  obtain ⟨_, V⟩ := near_sat h c (colS C) (n := 3) (by omega)
  have hm : lN c ∈ charsL (colS C) := of_decide_eq_true ((colS_mem C c).trans hc)
  refine sup_near (consts_srt h c) (nearV_consts h (V.yes (decide_eq_true hm))) (fun hk i hi => ?_) ((vals_srt h c (colS C)).imp fun {a b} q => by omega)
  show (i : Int) ∈ valsN C r c
  rw [show valsN C r c = rangeL 0 3 from near_free h hm hk]
  exact (range_iff 0 3 i).mpr ⟨by omega, by omega⟩
theorem vals_no {C : Fin 3 → Bool} {r : List Mk2} {M : List (Fin 3 × Int)} (h : MkL r M) (c : Fin 3) (hc : C c = false) : valsN C r c = [0] := by
  obtain ⟨_, V⟩ := near_sat h c (colS C) (n := 3) (by omega)
  exact V.no ((colS_mem C c).trans hc)
abbrev b1_ (b : Bool) (j : Nat) : Nat := if b = true then (if j = 0 then 1 else if j = 1 then 3 else 3 + 4 * j) else 1
abbrev b3_ (b : Bool) (j : Nat) : Nat := if b = true then (if j = 0 then 13 else if j = 1 then 75 else (3 + 4 * j) * ((3 + 4 * j) * (3 + 4 * j))) else 1
theorem n_bound {C : Fin 3 → Bool} {r : List Mk2} {M : List (Fin 3 × Int)} (h : MkL r M) (hMC : ∀ p ∈ M, C p.1 = true) (c : Fin 3) : n1 C r c ≤ b1_ (C c) (consts r c).length ∧ n3 C r c ≤ b3_ (C c) (consts r c).length := by
  cases hc : C c with
  | false =>
    have e : consts r c = [] := no_consts h hMC (by rw [hc]; decide)
    unfold n1 n3
    rw [vals_no h c hc]
    have := n_crude (consts r c) [0]
    exact this
  | true =>
    have S := sup_vals h hMC c hc
    by_cases h0 : (consts r c).length = 0
    · have e : consts r c = [] := List.length_eq_zero_iff.mp h0
      have hm : lN c ∈ charsL (colS C) := of_decide_eq_true ((colS_mem C c).trans hc)
      have ev : valsN C r c = [0, 1, 2] := near_free h hm e
      unfold n1 n3
      rw [ev, e, free_all.1, free_all.2]
      exact ⟨Nat.le_refl _, Nat.le_refl _⟩
    · by_cases h1 : (consts r c).length = 1
      · obtain ⟨k, ek⟩ := List.length_eq_one_iff.mp h1
        unfold n1 n3
        rw [ek] at S ⊢
        obtain ⟨q1, _, q3⟩ := sup_eq S (sup_one k)
        rw [q1, q3, (one_mark k).1, (one_mark k).2]
        exact ⟨Nat.le_refl _, Nat.le_refl _⟩
      · obtain ⟨_, V⟩ := near_sat h c (colS C) (n := 3) (by omega)
        have hl : (valsN C r c).length ≤ _ := V.len
        rw [colS_mem, if_pos hc, if_neg h0] at hl
        have hl' : (valsN C r c).length ≤ 3 + 4 * (consts r c).length := by omega
        obtain ⟨q1, q3⟩ := n_crude (consts r c) (valsN C r c)
        show _ ≤ (if true = true then _ else _) ∧ _ ≤ (if true = true then _ else _)
        rw [if_pos rfl, if_pos rfl, if_neg h0, if_neg h0, if_neg h1, if_neg h1]
        exact ⟨Nat.le_trans q1 hl', Nat.le_trans q3 (Nat.mul_le_mul hl' (Nat.mul_le_mul hl' hl'))⟩
theorem bnd_k11 : ∀ (b0 b1 b2 : Bool) (m0 m1 m2 : Fin 5), (if b0 = true then 1 else 0) + (if b1 = true then 1 else 0) + (if b2 = true then 1 else 0) + (m0.val + m1.val + m2.val) ≤ 4 → (b0 = false → m0.val = 0) → (b1 = false → m1.val = 0) → (b2 = false → m2.val = 0) →
    b3_ b0 m0.val * (b3_ b1 m1.val * b3_ b2 m2.val) + 5 * (b1_ b0 m0.val * (b1_ b1 m1.val * b1_ b2 m2.val)) ≤ 18000 := by decide +kernel
theorem tabs_few {C : Fin 3 → Bool} {r : List Mk2} {M : List (Fin 3 × Int)} (h : MkL r M) (hMC : ∀ p ∈ M, C p.1 = true) (hw : (colS C).length + r.length ≤ 4) : (m_packed_tables (colS C) r).val.length ≤ 3000 := by
  obtain ⟨A, B, e1, e2, e3⟩ := tabs_ways h hMC hw
  have hs := consts_sum h
  have hl := colS_len C
  have nc : ∀ c : Fin 3, C c = false → (consts r c).length = 0 := fun c hc => by rw [no_consts h hMC (by rw [hc]; decide)]; rfl
  have bb := bnd_k11 (C 0) (C 1) (C 2) ⟨(consts r 0).length, by omega⟩ ⟨(consts r 1).length, by omega⟩ ⟨(consts r 2).length, by omega⟩ (by rw [← hl]; show _ + ((consts r 0).length + (consts r 1).length + (consts r 2).length) ≤ 4; omega) (nc 0) (nc 1) (nc 2)
  obtain ⟨p0, q0⟩ := n_bound h hMC 0
  obtain ⟨p1, q1⟩ := n_bound h hMC 1
  obtain ⟨p2, q2⟩ := n_bound h hMC 2
  have z1 := Nat.mul_le_mul p0 (Nat.mul_le_mul p1 p2)
  have z3 := Nat.mul_le_mul q0 (Nat.mul_le_mul q1 q2)
  have bb' : b3_ (C 0) (consts r 0).length * (b3_ (C 1) (consts r 1).length * b3_ (C 2) (consts r 2).length) + 5 * (b1_ (C 0) (consts r 0).length * (b1_ (C 1) (consts r 1).length * b1_ (C 2) (consts r 2).length)) ≤ 18000 := bb
  generalize b3_ (C 0) (consts r 0).length * (b3_ (C 1) (consts r 1).length * b3_ (C 2) (consts r 2).length) = T3 at z3 bb'
  generalize b1_ (C 0) (consts r 0).length * (b1_ (C 1) (consts r 1).length * b1_ (C 2) (consts r 2).length) = T1 at z1 bb'
  generalize n1 C r 0 * (n1 C r 1 * n1 C r 2) = N1 at *
  generalize n3 C r 0 * (n3 C r 1 * n3 C r 2) = N3 at *
  omega
end DL

set_option Elab.async false
set_option linter.all false
set_option maxRecDepth 100000
set_option maxHeartbeats 4000000
namespace DL
open PySem PySem.Spec PyProof.Rows L2 TL
theorem sat_quiet {α R : Type} {L : Type} {xs : List α} {f : α → Unit → Cmp (Ctl Unit Unit R)} (hs : ∀ x ∈ xs, (f x ()).sat (· = .nx ())) : (forC (L := L) f xs ()).sat (· = .nx ()) := by
  refine sat_mono (sat_forC (fun _ _ => True) trivial fun i x s hx _ => sat_mono (hs x (List.mem_of_getElem? hx)) fun c hc => ⟨(), .inl hc, trivial⟩) fun c hc => ?_
  obtain ⟨s', e, _⟩ := hc
  exact e
theorem isrow_sat (o : Row) : (m_law_is_row o).sat (· = true) := by
  unfold m_law_is_row
  refine sat_ite (fun q => absurd q (by decide)) fun _ => sat_bindR (P := (· = .nx ())) (sat_quiet fun v hv => sat_ite (fun q => absurd q (by decide)) fun _ => sat_ret rfl) fun c hc => by subst hc; exact sat_ret rfl
theorem el3 : ∀ c : Fin 3, ixS (Str.ofString "abc") (c.val : Int) = lN c := by decide +kernel
theorem fine_sat {C : Fin 3 → Bool} {r : List Mk2} {M : List (Fin 3 × Int)} (h : MkL r M) (hr : r.length ≤ 4) {z : Str} (hz : ∀ c : Fin 3, decide (lN c ∈ charsL z) = C c) {t : List Row} (l1 : 1 ≤ t.length) (l3 : t.length ≤ 3) (inc : Inc t) (pk : PkT r t) (zr : ∀ c : Fin 3, C c = false → ∀ o ∈ t, rowAt o (c.val : Int) = 0) : (m_law_fine t z r).sat (· = true) := by
  unfold m_law_fine
  refine sat_ite (fun q => ?_) fun _ => ?_
  · rw [Bool.not_true, Bool.false_or, Bool.or_eq_true] at q
    rcases q with q | q
    · have := of_decide_eq_true q; omega
    · have := of_decide_eq_true q; omega
  refine sat_bindR (P := (· = .nx ())) (sat_quiet fun o ho => sat_req (isrow_sat o).1 (by rw [(isrow_sat o).2]; exact sat_ite (fun q => absurd q (by decide)) fun _ => sat_ret rfl)) fun c hc => ?_
  subst hc
  show Cmp.sat (Cmp.req _ _) _
  refine sat_req ⟨by omega, by omega, by omega, by omega⟩ (sat_bindR (P := (· = .nx ())) (sat_quiet fun k hk => ?_) fun c hc => ?_)
  · obtain ⟨k0, k1⟩ := (range_iff _ _ _).mp hk
    have lt : ltRow (ixL t (k - 1)) (ixL t k) = true := by
      have ei : ∀ (j : Int) (h0 : 0 ≤ j) (h1 : j < (t.length : Int)), ixL t j = t[j.toNat]'(by omega) := fun j h0 h1 => by
        unfold ixL
        simp [show j.toNat < t.length by omega]
      rw [ei (k - 1) (by omega) (by omega), ei k (by omega) (by omega)]
      exact List.pairwise_iff_getElem.mp inc _ _ (by omega) (by omega) (by omega)
    refine sat_req ⟨by omega, by omega⟩ ?_
    rw [lt]
    exact sat_ite (fun q => absurd q (by decide)) fun _ => sat_ret rfl
  subst hc
  show Cmp.sat (Cmp.bindR _ _) _
  refine sat_bindR (P := (· = .nx ())) (sat_quiet fun at_ ha => ?_) fun c hc => by subst hc; exact sat_ret rfl
  obtain ⟨a0, a3⟩ := (range_iff _ _ _).mp ha
  obtain ⟨c, rfl⟩ := fin_of (n := 3) a0 a3
  have l3' : (Str.ofString "abc").length = 3 := by decide +kernel
  have hc3 := c.isLt
  refine sat_req ⟨fun _ _ => by omega, by rw [size_big]; omega⟩ (sat_bnd (sat_req ⟨fun _ _ => by rw [l3']; omega, by rw [size_big]; omega⟩ (sat_bnd (sat_req ⟨by rw [l3']; omega, fun _ => by omega, fun _ => ?_⟩ ?_))))
  · show 1 * _ ≤ _
    rw [size_big]; omega
  rw [filter_t, el3]
  show Cmp.sat (if ((!decide (lN c ∈ charsL z)) && (!decide (colOf c t = (List.replicate (t.length : Int).toNat [(0 : Int)]).flatten))) = true then _ else Cmp.req (∀ (_ : (decide (lN c ∈ charsL z)) = true), (m_law_pack (colOf c t) (consts r c)).ok) (if ((decide (lN c ∈ charsL z)) && (!decide (colOf c t = (m_law_pack (colOf c t) (consts r c)).val))) = true then _ else _)) _
  have hcl : (consts r c).length ≤ 4 := by
    unfold consts
    rw [List.length_map]
    exact Nat.le_trans (List.length_filter_le _ _) hr
  obtain ⟨op, ep⟩ := lpack_sat (vs := colOf c t) (ks := consts r c) (by rw [List.length_map]; omega) (by omega)
  have e : colOf c t = (m_law_pack (colOf c t) (consts r c)).val := by
    rw [ep]
    have hp : ∀ v ∈ colOf c t, PkP (colOf c t) (consts r c) v := fun v hv => by
      obtain ⟨o, ho, rfl⟩ := List.mem_map.mp hv
      exact pk c o ho
    have : ((colOf c t).map (pk1 (colOf c t) (consts r c))) = (colOf c t).map id := List.map_congr_left fun v hv => pk1_id hp hv
    rw [this, List.map_id]
  rw [hz c]
  refine sat_ite (fun q => ?_) fun _ => sat_req (fun _ => op) (sat_ite (fun q => ?_) fun _ => sat_ret rfl)
  · exfalso
    obtain ⟨q1, q2⟩ := (Bool.and_eq_true _ _).mp q
    have hc : C c = false := by
      cases w : C c with
      | false => rfl
      | true => rw [w] at q1; cases q1
    have : colOf c t = (List.replicate (t.length : Int).toNat [(0 : Int)]).flatten := by
      have f : ∀ n : Nat, (List.replicate n [(0 : Int)]).flatten = List.replicate n 0 := fun n => by
        induction n with
        | zero => rfl
        | succ n ih => rw [List.replicate_succ, List.flatten_cons, ih]; rfl
      rw [f]
      refine List.eq_replicate_iff.mpr ⟨by rw [List.length_map]; omega, fun v hv => ?_⟩
      obtain ⟨o, ho, rfl⟩ := List.mem_map.mp hv
      exact zr c hc o ho
    rw [decide_eq_true this] at q2; cases q2
  · exfalso
    obtain ⟨_, q2⟩ := (Bool.and_eq_true _ _).mp q
    rw [decide_eq_true e] at q2; cases q2
theorem told_sat {C : Fin 3 → Bool} {r : List Mk2} {M : List (Fin 3 × Int)} (h : MkL r M) (hMC : ∀ p ∈ M, C p.1 = true) (hw : (colS C).length + r.length ≤ 4) : (m_law_told (colS C) r).sat (· = (m_packed_tables (colS C) r).val) ∧ (m_packed_tables (colS C) r).val ≠ [] := by
  obtain ⟨op, T⟩ := tables_sat h hMC hw
  have E := tablesE h hw
  have few := tabs_few h hMC hw
  obtain ⟨oc, nm, nl⟩ := cand3_sat h hw
  have ny : (m_packed_a (colS C) r).sat (· = (m_packed_tables (colS C) r).val) := by
    have all : ∀ {α : Type} (xs : List α), (forY (fun x => (Cmp.ret (some x) : Cmp (Option α))) xs).sat (· = xs) := fun {α} xs => by
      induction xs with
      | nil => exact ⟨trivial, rfl⟩
      | cons x xs ih =>
        obtain ⟨o, e⟩ := ih
        exact ⟨⟨trivial, o, trivial⟩, by
          show (some x).toList ++ (forY (fun x => (Cmp.ret (some x) : Cmp (Option α))) xs).val = _
          rw [e]; rfl⟩
    exact sat_req op (all _)
  generalize m_packed_tables (colS C) r = mp at op T E few ny ⊢
  obtain ⟨oa, ea⟩ := ny
  have zr : ∀ t ∈ mp.val, ∀ c : Fin 3, C c = false → ∀ o ∈ t, rowAt o (c.val : Int) = 0 := fun t ht c hc o ho => by
    have := (nm o).mp ((T.sm t ht).2 o ho) c
    rw [vals_no h c hc] at this
    exact List.mem_singleton.mp this
  have fine : ∀ t ∈ mp.val, (m_law_fine t (colS C) r).sat (· = true) := fun t ht => fine_sat h (by omega) (colS_mem C) (T.sm t ht).1.1 (T.sm t ht).1.2 (E.inc t ht) (E.pk t ht) (zr t ht)
  constructor
  · unfold m_law_told
    rw [ea]
    refine sat_bnd (sat_req ⟨oa, fun y hy => ⟨fun e => ?_, ?_⟩, by omega⟩ (sat_bindR (sat_forC (fun i (l : List (List Row)) => l = mp.val.take i) (by simp) fun i t l hi hl => ?_) fun c ⟨l, e, hl⟩ => ?_))
    · have := (T.sm y hy).1.1
      rw [e] at this; exact absurd this (by decide)
    · have := (T.sm y hy).1.2; omega
    · obtain ⟨hil, et⟩ := List.getElem?_eq_some_iff.mp hi
      obtain ⟨of, ef⟩ := fine t (et ▸ List.getElem_mem hil)
      subst hl
      have ll : (mp.val.take i).length = i := by rw [List.length_take]; omega
      refine sat_req (fun _ => of) ?_
      rw [ef]
      refine sat_ite (fun q => ?_) fun _ => ?_
      · exfalso
        rw [Bool.not_true, Bool.or_false] at q
        have := of_decide_eq_true q; omega
      refine sat_bindC (P := (· = .nx ())) (sat_ite (fun q => ?_) fun _ => sat_ret rfl) fun c hc => ?_
      · have q := of_decide_eq_true q
        refine sat_req (by omega) (sat_bnd (sat_ite (fun w => ?_) fun _ => sat_ret rfl))
        exfalso
        have el : lastL (mp.val.take i) = mp.val[i - 1]'(by omega) := by
          unfold lastL
          rw [List.getLastD_eq_getLast?, List.getLast?_eq_getElem?, List.length_take, Nat.min_eq_left (Nat.le_of_lt hil), List.getElem?_take, if_pos (by omega), List.getElem?_eq_getElem (by omega)]
          rfl
        have lt : LtT (mp.val[i - 1]'(by omega)) mp.val[i] := List.pairwise_iff_getElem.mp E.srt _ _ (by omega) hil (by omega)
        rw [el, ← et] at w
        rw [Bool.or_eq_true, Bool.and_eq_true] at w
        rcases w with w | ⟨w1, w2⟩
        · have w := of_decide_eq_true w
          rcases lt with z | ⟨z, _⟩ <;> omega
        · have w1 := of_decide_eq_true w1
          rcases lt with z | ⟨_, z⟩
          · omega
          · rw [z] at w2; cases w2
      subst hc
      show Cmp.sat (Cmp.req _ _) _
      exact sat_req (by rw [size_big]; omega) (sat_bnd (sat_ret ⟨_, .inl rfl, by rw [take_at hi]⟩))
    · subst e
      rw [List.take_length] at hl
      subst hl
      exact sat_ite (fun q => by simp at q) fun _ => sat_ret rfl
  · intro e
    obtain ⟨_, _, _, t, ht, _⟩ := T.all default default default
    rw [e] at ht; cases ht
theorem sat_onlyE_ex {R' : Type} {j : Nat} {m : Cmp (Ctl Unit Unit R')} {d : D} (h : m.sat (· = .ex ⟨j, d⟩)) : (onlyE j m).sat (· = .ex ⟨j, d⟩) := sat_bind h fun c hc => by
  subst hc
  show Cmp.sat (if j = j then Cmp.ret (Ctl.ex ⟨j, d⟩) else ⟨False, Ctl.ex ⟨j, d⟩⟩) _
  rw [if_pos rfl]; exact sat_ret rfl
theorem lcols_sat {C : Fin 3 → Bool} {z : Str} (hz : ∀ c : Fin 3, decide (lN c ∈ charsL z) = C c) (hl : z.length ≤ 3) : (m_law_columns z).sat (· = colS C) := by
  have e : (([97, 98, 99] : List Nat).filter fun x1 => decide (x1 ∈ charsL z)) = [97, 98, 99].filter fun l => if l = 97 then C 0 else if l = 98 then C 1 else C 2 := by
    refine List.filter_congr fun l hl => ?_
    obtain ⟨c, rfl⟩ := col_of hl
    rw [colS_l]; exact hz c
  unfold m_law_columns
  rw [abc_l, List.map_id', e]
  refine sat_req ?_ (sat_ret rfl)
  revert C
  intro C _ _
  have all : ∀ a b c : Bool, ((((([97, 98, 99] : List Nat).filter fun l => if l = 97 then a else if l = 98 then b else c)).map cS).map (·.length)).sum + (((([97, 98, 99] : List Nat).filter fun l => if l = 97 then a else if l = 98 then b else c)).map cS).length * (Str.ofString "").length ≤ 16777216 := by decide +kernel
  exact all (C 0) (C 1) (C 2)
theorem mkl_frame {fr : Str × List (Str × Int) × Int} (hf : FrW fr) : (m_law_ordered fr.2.1).sat fun r => MkL r (MM fr.2.1) ∧ r.length ≤ fr.2.1.length := by
  refine sat_mono (lord_sat (P := fr.2.1) (by have := hf.ok.ml; omega)) fun r ⟨h1, h2, h3⟩ => ?_
  have hm : MkL r (MM fr.2.1) := by
    refine ⟨h1, h2, fun p => ?_⟩
    rw [h3]
    constructor
    · rintro ⟨hp, _⟩
      obtain ⟨c, e, _⟩ := hf.mem p hp
      exact ⟨(cF p.1, p.2), List.mem_map_of_mem hp, by rw [e, cF_l, ← e]⟩
    · rintro ⟨q, hq, rfl⟩
      obtain ⟨p, hp, rfl⟩ := List.mem_map.mp hq
      obtain ⟨c, e, _⟩ := hf.mem p hp
      have : (cS (lN (cF p.1)), p.2) = p := by rw [e, cF_l, ← e]
      rw [this]
      exact ⟨hp, lN c, col_l c, e⟩
  refine ⟨hm, nodup_sub _ _ (h1.imp fun {a b} q e => by subst e; exact lt2_as _ _ q q) fun x hx => ((h3 x).mp hx).1⟩
theorem cols_le {C : Fin 3 → Bool} {z : Str} (hz : ∀ c : Fin 3, decide (lN c ∈ charsL z) = C c) : (colS C).length ≤ z.length := by
  have e1 : (colS C).length = (charsL (colS C)).length := (Array.length_toList).symm
  have e2 : z.length = (charsL z).length := (Array.length_toList).symm
  rw [e1, e2]
  have ec : charsL (colS C) = [97, 98, 99].filter fun l => if l = 97 then C 0 else if l = 98 then C 1 else C 2 := charsL_letters _
  rw [ec]
  refine nodup_sub _ _ ((by decide : ([97, 98, 99] : List Nat).Nodup).filter _) fun l hl => ?_
  obtain ⟨h1, h2⟩ := List.mem_filter.mp hl
  obtain ⟨c, rfl⟩ := col_of h1
  rw [colS_l, ← hz] at h2
  exact of_decide_eq_true h2
theorem refused_sat {z : Str} {r : List Mk2} (h : 4 < z.length + r.length) (hz : z.length ≤ 100) : (m_law_refused z r).sat (· = (z.length : Int) + (r.length : Int)) := by
  have h1 : (mx_packed_tables z r).sat (· = .ex ⟨4, .int ((z.length : Int) + (r.length : Int))⟩) := by
    unfold mx_packed_tables
    exact sat_bindX_ex (weightH_sat h hz rfl) rfl
  have h2 : (mx_packed z r).sat (· = .ex ⟨4, .int ((z.length : Int) + (r.length : Int))⟩) := by
    unfold mx_packed
    exact sat_bindX_ex h1 rfl
  unfold m_law_refused
  refine sat_bindR (P := (· = .rt ((z.length : Int) + (r.length : Int)))) (sat_try_ex (sat_bindX_ex (sat_onlyE_ex h2) rfl) (sat_onErr (sat_ite (fun q => absurd q (by decide)) fun _ => sat_ret rfl))) fun c hc => by subst hc; exact sat_ret rfl
abbrev L7 : List Str := [(Str.ofString "a"), (Str.ofString "b"), (Str.ofString "c"), (Str.ofString "ab"), (Str.ofString "ac"), (Str.ofString "bc"), (Str.ofString "abc")]
theorem l7_all : ∀ z ∈ L7, (1 ≤ z.length ∧ z.length ≤ 3) ∧ (∀ i : Fin 3, i.val < z.length → ixS z (i.val : Int) ∈ [97, 98, 99]) ∧ ∀ i j : Fin 3, i.val < z.length → j.val < z.length → cS (ixS z (i.val : Int)) = cS (ixS z (j.val : Int)) → i = j := by decide +kernel
abbrev hvM (z : Str) (d : Int) (k : Nat) : Str × Int := (cS (ixS z ((k : Int) % (z.length : Int))), 10 * ((k : Int) / (z.length : Int)) + d)
theorem heavy_sat (one two : Int) : (m_law_heavy one two).sat fun v => ∃ (n : Nat) (d : Int), v.1 ∈ L7 ∧ v.2 = (List.range n).map (hvM v.1 d) ∧ 4 < v.1.length + n ∧ n ≤ 7 := by
  have h0 := Int.emod_nonneg one (show (7 : Int) ≠ 0 by decide)
  have h1 := Int.emod_lt_of_pos one (show (0 : Int) < 7 by decide)
  have g0 := Int.emod_nonneg two (show (3 : Int) ≠ 0 by decide)
  have g1 := Int.emod_lt_of_pos two (show (0 : Int) < 3 by decide)
  have hm : ixL L7 (one % 7) ∈ L7 := ixL_mem h0 h1
  unfold m_law_heavy
  refine sat_bnd ?_
  show Cmp.sat (Cmp.req ((ixL L7 (one % 7)).length ≤ sizeLine) _) _
  generalize ixL L7 (one % 7) = z at hm ⊢
  obtain ⟨⟨z1, z3⟩, _, _⟩ := l7_all z hm
  refine sat_req (by rw [size_big]; omega) (sat_bnd (sat_bnd (sat_req ⟨by omega, by omega⟩ ?_)))
  refine sat_bind (sat_forR (fun i (l : List (Str × Int)) => l = (List.range i).map (hvM z (two / 3 % 5 - 2)) ∧ i ≤ 7) ⟨rfl, by decide⟩ fun i l hi ⟨hl, _⟩ => ?_) fun l hl => sat_ret ⟨(5 - (z.length : Int) + two % 3).toNat, two / 3 % 5 - 2, hm, hl.1, by show 4 < z.length + _; omega, hl.2⟩
  have m0 := Int.emod_nonneg (i : Int) (show (z.length : Int) ≠ 0 by omega)
  have m1 := Int.emod_lt_of_pos (i : Int) (show 0 < (z.length : Int) by omega)
  have ll : l.length = i := by rw [hl, List.length_map, List.length_range]
  refine sat_req (by unfold CDiv; first | omega | (refine ⟨?_, ?_⟩ <;> omega)) (sat_bnd (sat_req ⟨by omega, ⟨m0, m1⟩, by rw [size_big]; omega⟩ (sat_bnd (sat_ret ⟨?_, by omega⟩))))
  rw [hl, List.range_succ, List.map_append]
  show _ ++ [_] = _ ++ [_]
  congr 2
  show (_, _) = (_, _)
  congr 1
  omega
theorem heavy_ord {z : Str} {n : Nat} {d : Int} (hz : z ∈ L7) (hn : n ≤ 7) : (m_law_ordered ((List.range n).map (hvM z d))).sat fun r => r.length = n := by
  obtain ⟨⟨z1, z3⟩, hl, hi⟩ := l7_all z hz
  have pos : ∀ k : Nat, ∃ i : Fin 3, i.val < z.length ∧ ((i.val : Nat) : Int) = (k : Int) % (z.length : Int) := fun k => by
    have m0 := Int.emod_nonneg (k : Int) (show (z.length : Int) ≠ 0 by omega)
    have m1 := Int.emod_lt_of_pos (k : Int) (show 0 < (z.length : Int) by omega)
    exact ⟨⟨((k : Int) % (z.length : Int)).toNat, by omega⟩, by show ((k : Int) % (z.length : Int)).toNat < z.length; omega, by show ((((k : Int) % (z.length : Int)).toNat : Nat) : Int) = _; omega⟩
  refine sat_mono (lord_sat (P := (List.range n).map (hvM z d)) (by rw [List.length_map, List.length_range]; omega)) fun r ⟨h1, h2, h3⟩ => ?_
  have nr : r.Nodup := h1.imp fun {a b} q e => by subst e; exact lt2_as _ _ q q
  have np : ((List.range n).map (hvM z d)).Nodup := by
    refine List.nodup_iff_pairwise_ne.mpr (List.pairwise_map.mpr ((List.nodup_iff_pairwise_ne.mp List.nodup_range).imp fun {a b} q e => q ?_))
    obtain ⟨i, i1, i2⟩ := pos a
    obtain ⟨j, j1, j2⟩ := pos b
    have e1 : cS (ixS z ((a : Int) % (z.length : Int))) = cS (ixS z ((b : Int) % (z.length : Int))) := congrArg Prod.fst e
    have e2 : 10 * ((a : Int) / (z.length : Int)) + d = 10 * ((b : Int) / (z.length : Int)) + d := congrArg Prod.snd e
    rw [← i2, ← j2] at e1
    have := hi i j i1 j1 e1
    subst this
    have d1 := Int.mul_ediv_add_emod (a : Int) (z.length : Int)
    have d2 := Int.mul_ediv_add_emod (b : Int) (z.length : Int)
    have e3 : (a : Int) / (z.length : Int) = (b : Int) / (z.length : Int) := by omega
    rw [e3] at d1
    omega
  have lp : ((List.range n).map (hvM z d)).length = n := by rw [List.length_map, List.length_range]
  have s1 := nodup_sub r _ nr fun x hx => ((h3 x).mp hx).1
  have s2 := nodup_sub _ r np fun x hx => (h3 x).mpr ⟨hx, by
    obtain ⟨k, _, rfl⟩ := List.mem_map.mp hx
    obtain ⟨i, i1, i2⟩ := pos k
    exact ⟨_, hl i i1, by show cS (ixS z ((k : Int) % (z.length : Int))) = _; rw [← i2]⟩⟩
  omega
theorem empty_told : (m_law_told (Str.ofString "") []).sat (· = [[((0 : Int), (0 : Int), (0 : Int))]]) := by
  have hm : MkL [] [] := ⟨.nil, by decide, fun p => ⟨fun h => (nomatch h), fun ⟨q, hq, _⟩ => (nomatch hq)⟩⟩
  have ez : colS (fun _ => false) = Str.ofString "" := by decide +kernel
  obtain ⟨⟨o, e⟩, _⟩ := told_sat (C := fun _ => false) hm (fun p hp => nomatch hp) (by decide +kernel)
  rw [ez] at o e
  exact ⟨o, e.trans (by decide +kernel)⟩
theorem one_told : ∀ c : Fin 3, (m_law_told (cS (lN c)) []).sat (fun v => v.length = 3) := fun c => by
  have hm : MkL [] [] := ⟨.nil, by decide, fun p => ⟨fun h => (nomatch h), fun ⟨q, hq, _⟩ => (nomatch hq)⟩⟩
  have ez : ∀ c : Fin 3, colS (fun x => decide (x = c)) = cS (lN c) := by decide +kernel
  obtain ⟨⟨o, e⟩, _⟩ := told_sat (C := fun x => decide (x = c)) hm (fun p hp => nomatch hp) (by revert c; decide +kernel)
  rw [ez] at o e
  have n3 : ∀ c : Fin 3, (m_packed_tables (cS (lN c)) []).val.length = 3 := by decide +kernel
  exact ⟨o, by rw [e]; exact n3 c⟩
theorem law_true (s : List Int) (h : s.length ≤ 63) : (m_law s).ok ∧ (m_law s).val = true := by
  show (m_law s).sat (· = true)
  unfold m_law
  obtain ⟨o0, hp⟩ := pool_sat s (k := 0) (n := 10) (by omega) (by omega) (by omega)
  refine sat_req o0 (sat_bnd ?_)
  generalize (m_law_pool s 0 10).val = pool at hp ⊢
  obtain ⟨of, hf⟩ := frameW_sat (shapes := 9) hp (by omega) (by omega) (by omega)
  refine sat_req of (sat_bnd ?_)
  generalize (m_law_frame pool 9).val = fr at hf ⊢
  obtain ⟨z, ms, base⟩ := fr
  obtain ⟨om, hm, hrl⟩ := mkl_frame hf
  refine sat_req om (sat_bnd ?_)
  have hrl : (m_law_ordered ms).val.length ≤ ms.length := hrl
  have hm : MkL (m_law_ordered ms).val (MM ms) := hm
  generalize (m_law_ordered ms).val = r at hm hrl ⊢
  have hz : ∀ c : Fin 3, decide (lN c ∈ charsL z) = CC z c := fun c => rfl
  have hMC : ∀ p ∈ MM ms, CC z p.1 = true := fun p hp => by
    obtain ⟨q, hq, rfl⟩ := List.mem_map.mp hp
    obtain ⟨c, e, hc⟩ := hf.mem q hq
    show decide (lN (cF q.1) ∈ charsL z) = true
    rw [e, cF_l]; exact decide_eq_true hc
  have hlow : z.length + ms.length ≤ 4 := hf.low
  have hw : (colS (CC z)).length + r.length ≤ 4 := by have := cols_le hz; omega
  obtain ⟨i1, a1, b1⟩ := hp.at (i := 1) (by omega) (by omega)
  obtain ⟨i8, a8, b8⟩ := hp.at (i := 8) (by omega) (by omega)
  obtain ⟨i9, a9, b9⟩ := hp.at (i := 9) (by omega) (by omega)
  obtain ⟨oc, ec⟩ := lcols_sat hz (by have := hf.ok.l3; exact this)
  obtain ⟨⟨ot, et⟩, tn⟩ := told_sat hm hMC hw
  have ec : (m_law_columns z).val = colS (CC z) := ec
  have et : (m_law_told (colS (CC z)) r).val = _ := et
  rw [ec]
  refine sat_bnd (sat_req ⟨oc, ot⟩ (sat_bnd ?_))
  have so : ∀ y ∈ r, PyData.strOk y.1 = true ∧ True := fun y hy => by
    obtain ⟨q, _, e⟩ := (hm.mem y).mp hy
    rw [e]; exact ⟨strOk_l _ (col_l q.1), trivial⟩
  have tn : (m_law_told (colS (CC z)) r).val ≠ [] := by rw [et]; exact tn
  refine sat_req ⟨fun _ => so, fun _ => so⟩ (sat_ite (fun q => ?_) fun _ => ?_)
  · exfalso
    rw [decide_eq_true rfl, decide_eq_true rfl, Bool.not_true, Bool.or_false, Bool.or_false] at q
    have := of_decide_eq_true q
    exact tn (List.length_eq_zero_iff.mp (by omega))
  obtain ⟨oe, ee⟩ := empty_told
  refine sat_req oe ?_
  rw [ee]
  refine sat_ite (fun q => absurd q (by decide)) fun _ => ?_
  have m0 := Int.emod_nonneg (ixL pool 1) (show (3 : Int) ≠ 0 by decide)
  have m3 := Int.emod_lt_of_pos (ixL pool 1) (show (0 : Int) < 3 by decide)
  obtain ⟨c, hc⟩ := fin_of (n := 3) m0 m3
  rw [← hc, el3]
  obtain ⟨o1, e1⟩ := one_told c
  refine sat_req ⟨i1, o1⟩ (sat_ite (fun q => ?_) fun _ => ?_)
  · exfalso
    rw [e1] at q; exact absurd q (by decide)
  obtain ⟨oh, hh⟩ := heavy_sat (ixL pool 9) (ixL pool 8)
  refine sat_req ⟨i9, i8, oh⟩ (sat_bnd ?_)
  generalize (m_law_heavy (ixL pool 9) (ixL pool 8)).val = hv at hh ⊢
  obtain ⟨y, hvy⟩ := hv
  obtain ⟨n, d, hy, e, hn4, hn7⟩ := hh
  have e : hvy = (List.range n).map (hvM y d) := e
  have hy : y ∈ L7 := hy
  have hn4 : 4 < y.length + n := hn4
  obtain ⟨oo, eo⟩ := heavy_ord (d := d) hy hn7
  obtain ⟨⟨y1, y3⟩, _, _⟩ := l7_all y hy
  subst e
  dsimp only
  obtain ⟨or_, er⟩ := refused_sat (z := y) (r := (m_law_ordered ((List.range n).map (hvM y d))).val) (by rw [eo]; exact hn4) (by omega)
  refine sat_req ⟨oo, or_⟩ (sat_bnd (sat_req (fun _ _ => by rw [size_big]; omega) (sat_ret ?_)))
  rw [er, eo, List.length_map, List.length_range, decide_eq_true rfl]; rfl
end DL

set_option Elab.async false
set_option linter.all false
set_option maxRecDepth 100000
set_option maxHeartbeats 4000000
namespace DL
open PySem PySem.Spec PyProof.Rows L2 TL
theorem law_ok {ad : Ads} (L : Om) (s : List Int) (h : s.length ≤ 63) : ar_law ad L [.frl (s.map D.int)] (.bl true) := ⟨_, s, rfl, .inr rfl, (law_true s h).1, by rw [(law_true s h).2]⟩
set_option hygiene false in
local macro_rules | `(term| decl_name%) => `(({ CBadFormula := 0, CBadKey := CBadKey, CBadPlan := 0, CBadRoom := 0, CBest := 0, CClash := 0, CFormula := 0, CKeep := 0, CKeys := 0, CNoOrder := 0, CNoRanking := 0, CNoRow := 0, CNoStep := 0, CPlan := 0, CRank := 0, CReader := 0, CStore := 0, CTableError := CTableError, CTooHeavy := CTooHeavy, CTooLong := 0, CTooManySteps := 0, CTwoSided := 0, f_TooHeavy___init__ := f_TooHeavy___init__ } : Ads))
abbrev s_TooHeavy___init__ : Stmt := inClass (top 2) 0
theorem all_mk {P : Program} {w : World} {K : PySem.W.Frag} {h : Heap} {mg : Str → Option Value} {fa : Addr} (X : K.In h) (G : h.Ns mainGlobals mg) (hfa : mg "law" = some (.ref fa))
    {f_check_weight CTooHeavy CTableError f_TooHeavy___init__ f_values_near f_candidate_rows f_is_packed f_column_shapes f_small_tables f_packed_tables f_packed_a f_packed f_law_pool f_law_frame f_law_ordered f_law_columns f_law_pack f_law_is_row f_law_heavy f_law_fine f_law_told f_law_refused CBadKey f_law : Addr} {od_check_weight an_check_weight od_values_near an_values_near od_candidate_rows an_candidate_rows od_is_packed an_is_packed od_column_shapes an_column_shapes od_small_tables an_small_tables od_packed_tables an_packed_tables od_packed_a an_packed_a od_packed an_packed od_law_pool an_law_pool od_law_frame an_law_frame od_law_ordered an_law_ordered od_law_columns an_law_columns od_law_pack an_law_pack od_law_is_row an_law_is_row od_law_heavy an_law_heavy od_law_fine an_law_fine od_law_told an_law_told od_law_refused an_law_refused od_law an_law : Option Addr} {sl_check_weight sl_values_near sl_candidate_rows sl_is_packed sl_column_shapes sl_small_tables sl_packed_tables sl_packed_a sl_packed sl_law_pool sl_law_frame sl_law_ordered sl_law_columns sl_law_pack sl_law_is_row sl_law_heavy sl_law_fine sl_law_told sl_law_refused sl_law : Array (Option Value)} {oc_check_weight kV_check_weight dc_check_weight pm_check_weight cd_check_weight ct_check_weight oc_values_near kV_values_near dc_values_near pm_values_near cd_values_near ct_values_near oc_candidate_rows kV_candidate_rows dc_candidate_rows pm_candidate_rows cd_candidate_rows ct_candidate_rows oc_is_packed kV_is_packed dc_is_packed pm_is_packed cd_is_packed ct_is_packed oc_column_shapes kV_column_shapes dc_column_shapes pm_column_shapes cd_column_shapes ct_column_shapes oc_small_tables kV_small_tables dc_small_tables pm_small_tables cd_small_tables ct_small_tables oc_packed_tables kV_packed_tables dc_packed_tables pm_packed_tables cd_packed_tables ct_packed_tables oc_packed_a kV_packed_a dc_packed_a pm_packed_a cd_packed_a ct_packed_a oc_packed kV_packed dc_packed pm_packed cd_packed ct_packed oc_law_pool kV_law_pool dc_law_pool pm_law_pool cd_law_pool ct_law_pool oc_law_frame kV_law_frame dc_law_frame pm_law_frame cd_law_frame ct_law_frame oc_law_ordered kV_law_ordered dc_law_ordered pm_law_ordered cd_law_ordered ct_law_ordered oc_law_columns kV_law_columns dc_law_columns pm_law_columns cd_law_columns ct_law_columns oc_law_pack kV_law_pack dc_law_pack pm_law_pack cd_law_pack ct_law_pack oc_law_is_row kV_law_is_row dc_law_is_row pm_law_is_row cd_law_is_row ct_law_is_row oc_law_heavy kV_law_heavy dc_law_heavy pm_law_heavy cd_law_heavy ct_law_heavy oc_law_fine kV_law_fine dc_law_fine pm_law_fine cd_law_fine ct_law_fine oc_law_told kV_law_told dc_law_told pm_law_told cd_law_told ct_law_told oc_law_refused kV_law_refused dc_law_refused pm_law_refused cd_law_refused ct_law_refused oc_law kV_law dc_law pm_law cd_law ct_law : Value} {tCOLUMNS tHEAVIEST : Tok} {nm_TooHeavy q_TooHeavy : Str} {N_TooHeavy : Addr} {bs_TooHeavy : List Value} {sn_TooHeavy : List Str} {sub_TooHeavy : List Value} {ab_TooHeavy : Bool} {col_TooHeavy : Option Bool} {dd_TooHeavy : Option Addr} {m0_TooHeavy m1_TooHeavy m2_TooHeavy m3_TooHeavy m5_TooHeavy : Option Value} {oc_TooHeavy : Value} {od_TooHeavy : Option Addr} {kV_TooHeavy dc_TooHeavy pm_TooHeavy : Value} {an_TooHeavy : Option Addr} {ct_TooHeavy : Value} {sl_TooHeavy : Array (Option Value)} {cda_TooHeavy cc_TooHeavy : Addr} {ccl_TooHeavy cl_TooHeavy : Value} {cdd_TooHeavy cld_TooHeavy : Option Addr} {ccs_TooHeavy csl_TooHeavy : Array (Option Value)} {fs_TooHeavy : Array Value} {file_TooHeavy : Str} {tf_TooHeavy : Tok}
    (aC_TooHeavy : PySem.W.nsIn K mainGlobals "TooHeavy" = some (some (.ref CTooHeavy)))
    (aC_TableError : PySem.W.nsIn K mainGlobals "TableError" = some (some (.ref CTableError)))
    (aC_BadKey : PySem.W.nsIn K mainGlobals "BadKey" = some (some (.ref CBadKey)))
    (a_check_weight : PySem.W.nsIn K mainGlobals "check_weight" = some (some (.ref f_check_weight)))
    (l_check_weight : K.lookup f_check_weight = some ⟨oc_check_weight, od_check_weight, .func (PySem.W.fnOf "check_weight" "check_weight" (defArgs s_check_weight) (defBody s_check_weight) (defScope s_check_weight) .none kV_check_weight dc_check_weight pm_check_weight an_check_weight cd_check_weight ct_check_weight), sl_check_weight⟩)
    (c_check_weight : PySem.W.codeIn K cd_check_weight "check_weight" = true)
    (kp_check_weight : PySem.W.keepIn K (.ref f_check_weight) = true)
    (z_len : PySem.W.nsIn K mainGlobals "len" = some none)
    (ga_HEAVIEST : PySem.W.nsIn K mainGlobals "HEAVIEST" = some (some (.int 4 tHEAVIEST)))
    (xL_TooHeavy : K.lookup CTooHeavy = some (excClassObj nm_TooHeavy q_TooHeavy CTooHeavy N_TooHeavy bs_TooHeavy [.ref CTableError, .type "ValueError", .type "Exception", .type "BaseException", .type "object"] true sn_TooHeavy sub_TooHeavy ab_TooHeavy col_TooHeavy dd_TooHeavy m0_TooHeavy m1_TooHeavy m2_TooHeavy m3_TooHeavy m5_TooHeavy "ValueError.__new__"))
    (es_TooHeavy : PySem.W.findIn K (.ref CTooHeavy) "__setattr__" = some (some (.builtin "object.__setattr__")))
    (eg_TooHeavy : PySem.W.findIn K (.ref CTooHeavy) "__getattribute__" = some (some (.builtin "BaseException.__getattribute__")))
    (ek_TooHeavy : PySem.W.findIn K (.ref CTooHeavy) "__getattr__" = some none)
    (en_TooHeavy : PySem.W.findIn K (.ref CTooHeavy) "weight" = some none)
    (ei_TooHeavy : PySem.W.findIn K (.ref CTooHeavy) "__init__" = some (some (.ref f_TooHeavy___init__)))
    (et_TooHeavy : PySem.W.typeIn K (.ref f_TooHeavy___init__) = some (.type "function"))
    (ekp_TooHeavy : PySem.W.keepIn K (.ref CTooHeavy) = true)
    (eex_TooHeavy : PySem.W.subIn K (.ref CTooHeavy) (.type "BaseException") = some true)
    (ety_TooHeavy : PySem.W.typeIn K (.ref CTooHeavy) = some (.type "type"))
    (ehd_TooHeavy : PySem.W.hasDictIn K CTooHeavy = true)
    (emr_TooHeavy : PySem.W.mroIn K CTooHeavy (.ref CTooHeavy) = some true)
    (esu_TooHeavy : PySem.W.ks_superIn K CTooHeavy CTooHeavy "__init__" = some (some (.builtin "ValueError.__init__")))
    (eve_TooHeavy : PySem.W.subIn K (.ref CTooHeavy) (.type "ValueError") = some true)
    (est : PySem.W.nsIn K cStatics "thirdparty.any" = some none)
    (z_super : PySem.W.nsIn K mainGlobals "super" = some none)
    (etp : (P.main.scope.names.lookup ("super" : Str)).isSome = false)
    (l_TooHeavy___init__ : K.lookup f_TooHeavy___init__ = some ⟨oc_TooHeavy, od_TooHeavy, .func (PySem.W.fnX "__init__" "TooHeavy.__init__" (defArgs s_TooHeavy___init__) (defBody s_TooHeavy___init__) (defScope s_TooHeavy___init__) [("__class__", cc_TooHeavy)] .none kV_TooHeavy dc_TooHeavy pm_TooHeavy an_TooHeavy (.ref cda_TooHeavy) ct_TooHeavy), sl_TooHeavy⟩)
    (c_TooHeavy___init__ : PySem.W.codeIn K (.ref cda_TooHeavy) "TooHeavy.__init__" = true)
    (hc_TooHeavy : K.lookup cda_TooHeavy = some ⟨ccl_TooHeavy, cdd_TooHeavy, .fields fs_TooHeavy, ccs_TooHeavy⟩)
    (hf_TooHeavy : fs_TooHeavy[2]? = some (.str file_TooHeavy tf_TooHeavy))
    (hl_TooHeavy : ((P.main.file : Str) == file_TooHeavy) = true)
    (hw_TooHeavy : K.lookup cc_TooHeavy = some ⟨cl_TooHeavy, cld_TooHeavy, .cell (some (.ref CTooHeavy)), csl_TooHeavy⟩)
    (a_values_near : PySem.W.nsIn K mainGlobals "values_near" = some (some (.ref f_values_near)))
    (l_values_near : K.lookup f_values_near = some ⟨oc_values_near, od_values_near, .func (PySem.W.fnOf "values_near" "values_near" (defArgs s_values_near) (defBody s_values_near) (defScope s_values_near) .none kV_values_near dc_values_near pm_values_near an_values_near cd_values_near ct_values_near), sl_values_near⟩)
    (c_values_near : PySem.W.codeIn K cd_values_near "values_near" = true)
    (kp_values_near : PySem.W.keepIn K (.ref f_values_near) = true)
    (z_list : PySem.W.nsIn K mainGlobals "list" = some none)
    (z_range : PySem.W.nsIn K mainGlobals "range" = some none)
    (z_int : PySem.W.nsIn K mainGlobals "int" = some none)
    (z_sorted : PySem.W.nsIn K mainGlobals "sorted" = some none)
    (a_candidate_rows : PySem.W.nsIn K mainGlobals "candidate_rows" = some (some (.ref f_candidate_rows)))
    (l_candidate_rows : K.lookup f_candidate_rows = some ⟨oc_candidate_rows, od_candidate_rows, .func (PySem.W.fnOf "candidate_rows" "candidate_rows" (defArgs s_candidate_rows) (defBody s_candidate_rows) (defScope s_candidate_rows) .none kV_candidate_rows dc_candidate_rows pm_candidate_rows an_candidate_rows cd_candidate_rows ct_candidate_rows), sl_candidate_rows⟩)
    (c_candidate_rows : PySem.W.codeIn K cd_candidate_rows "candidate_rows" = true)
    (kp_candidate_rows : PySem.W.keepIn K (.ref f_candidate_rows) = true)
    (ga_COLUMNS : PySem.W.nsIn K mainGlobals "COLUMNS" = some (some (.str "abc" tCOLUMNS)))
    (a_is_packed : PySem.W.nsIn K mainGlobals "is_packed" = some (some (.ref f_is_packed)))
    (l_is_packed : K.lookup f_is_packed = some ⟨oc_is_packed, od_is_packed, .func (PySem.W.fnOf "is_packed" "is_packed" (defArgs s_is_packed) (defBody s_is_packed) (defScope s_is_packed) .none kV_is_packed dc_is_packed pm_is_packed an_is_packed cd_is_packed ct_is_packed), sl_is_packed⟩)
    (c_is_packed : PySem.W.codeIn K cd_is_packed "is_packed" = true)
    (kp_is_packed : PySem.W.keepIn K (.ref f_is_packed) = true)
    (a_column_shapes : PySem.W.nsIn K mainGlobals "column_shapes" = some (some (.ref f_column_shapes)))
    (l_column_shapes : K.lookup f_column_shapes = some ⟨oc_column_shapes, od_column_shapes, .func (PySem.W.fnOf "column_shapes" "column_shapes" (defArgs s_column_shapes) (defBody s_column_shapes) (defScope s_column_shapes) .none kV_column_shapes dc_column_shapes pm_column_shapes an_column_shapes cd_column_shapes ct_column_shapes), sl_column_shapes⟩)
    (c_column_shapes : PySem.W.codeIn K cd_column_shapes "column_shapes" = true)
    (kp_column_shapes : PySem.W.keepIn K (.ref f_column_shapes) = true)
    (a_small_tables : PySem.W.nsIn K mainGlobals "small_tables" = some (some (.ref f_small_tables)))
    (l_small_tables : K.lookup f_small_tables = some ⟨oc_small_tables, od_small_tables, .func (PySem.W.fnOf "small_tables" "small_tables" (defArgs s_small_tables) (defBody s_small_tables) (defScope s_small_tables) .none kV_small_tables dc_small_tables pm_small_tables an_small_tables cd_small_tables ct_small_tables), sl_small_tables⟩)
    (c_small_tables : PySem.W.codeIn K cd_small_tables "small_tables" = true)
    (kp_small_tables : PySem.W.keepIn K (.ref f_small_tables) = true)
    (a_packed_tables : PySem.W.nsIn K mainGlobals "packed_tables" = some (some (.ref f_packed_tables)))
    (l_packed_tables : K.lookup f_packed_tables = some ⟨oc_packed_tables, od_packed_tables, .func (PySem.W.fnOf "packed_tables" "packed_tables" (defArgs s_packed_tables) (defBody s_packed_tables) (defScope s_packed_tables) .none kV_packed_tables dc_packed_tables pm_packed_tables an_packed_tables cd_packed_tables ct_packed_tables), sl_packed_tables⟩)
    (c_packed_tables : PySem.W.codeIn K cd_packed_tables "packed_tables" = true)
    (kp_packed_tables : PySem.W.keepIn K (.ref f_packed_tables) = true)
    (z_tuple : PySem.W.nsIn K mainGlobals "tuple" = some none)
    (a_packed_a : PySem.W.nsIn K mainGlobals "packed" = some (some (.ref f_packed_a)))
    (l_packed_a : K.lookup f_packed_a = some ⟨oc_packed_a, od_packed_a, .func (PySem.W.fnOf "packed" "packed" (defArgs s_packed_a) (defBody s_packed_a) (defScope s_packed_a) .none kV_packed_a dc_packed_a pm_packed_a an_packed_a cd_packed_a ct_packed_a), sl_packed_a⟩)
    (c_packed_a : PySem.W.codeIn K cd_packed_a "packed" = true)
    (kp_packed_a : PySem.W.keepIn K (.ref f_packed_a) = true)
    (a_packed : PySem.W.nsIn K mainGlobals "packed" = some (some (.ref f_packed)))
    (l_packed : K.lookup f_packed = some ⟨oc_packed, od_packed, .func (PySem.W.fnOf "packed" "packed" (defArgs s_packed) (defBody s_packed) (defScope s_packed) .none kV_packed dc_packed pm_packed an_packed cd_packed ct_packed), sl_packed⟩)
    (c_packed : PySem.W.codeIn K cd_packed "packed" = true)
    (kp_packed : PySem.W.keepIn K (.ref f_packed) = true)
    (a_law_pool : PySem.W.nsIn K mainGlobals "_law_pool" = some (some (.ref f_law_pool)))
    (l_law_pool : K.lookup f_law_pool = some ⟨oc_law_pool, od_law_pool, .func (PySem.W.fnOf "_law_pool" "_law_pool" (defArgs s_law_pool) (defBody s_law_pool) (defScope s_law_pool) .none kV_law_pool dc_law_pool pm_law_pool an_law_pool cd_law_pool ct_law_pool), sl_law_pool⟩)
    (c_law_pool : PySem.W.codeIn K cd_law_pool "_law_pool" = true)
    (kp_law_pool : PySem.W.keepIn K (.ref f_law_pool) = true)
    (a_law_frame : PySem.W.nsIn K mainGlobals "_law_frame" = some (some (.ref f_law_frame)))
    (l_law_frame : K.lookup f_law_frame = some ⟨oc_law_frame, od_law_frame, .func (PySem.W.fnOf "_law_frame" "_law_frame" (defArgs s_law_frame) (defBody s_law_frame) (defScope s_law_frame) .none kV_law_frame dc_law_frame pm_law_frame an_law_frame cd_law_frame ct_law_frame), sl_law_frame⟩)
    (c_law_frame : PySem.W.codeIn K cd_law_frame "_law_frame" = true)
    (kp_law_frame : PySem.W.keepIn K (.ref f_law_frame) = true)
    (a_law_ordered : PySem.W.nsIn K mainGlobals "_law_ordered" = some (some (.ref f_law_ordered)))
    (l_law_ordered : K.lookup f_law_ordered = some ⟨oc_law_ordered, od_law_ordered, .func (PySem.W.fnOf "_law_ordered" "_law_ordered" (defArgs s_law_ordered) (defBody s_law_ordered) (defScope s_law_ordered) .none kV_law_ordered dc_law_ordered pm_law_ordered an_law_ordered cd_law_ordered ct_law_ordered), sl_law_ordered⟩)
    (c_law_ordered : PySem.W.codeIn K cd_law_ordered "_law_ordered" = true)
    (kp_law_ordered : PySem.W.keepIn K (.ref f_law_ordered) = true)
    (a_law_columns : PySem.W.nsIn K mainGlobals "_law_columns" = some (some (.ref f_law_columns)))
    (l_law_columns : K.lookup f_law_columns = some ⟨oc_law_columns, od_law_columns, .func (PySem.W.fnOf "_law_columns" "_law_columns" (defArgs s_law_columns) (defBody s_law_columns) (defScope s_law_columns) .none kV_law_columns dc_law_columns pm_law_columns an_law_columns cd_law_columns ct_law_columns), sl_law_columns⟩)
    (c_law_columns : PySem.W.codeIn K cd_law_columns "_law_columns" = true)
    (kp_law_columns : PySem.W.keepIn K (.ref f_law_columns) = true)
    (a_law_pack : PySem.W.nsIn K mainGlobals "_law_pack" = some (some (.ref f_law_pack)))
    (l_law_pack : K.lookup f_law_pack = some ⟨oc_law_pack, od_law_pack, .func (PySem.W.fnOf "_law_pack" "_law_pack" (defArgs s_law_pack) (defBody s_law_pack) (defScope s_law_pack) .none kV_law_pack dc_law_pack pm_law_pack an_law_pack cd_law_pack ct_law_pack), sl_law_pack⟩)
    (c_law_pack : PySem.W.codeIn K cd_law_pack "_law_pack" = true)
    (kp_law_pack : PySem.W.keepIn K (.ref f_law_pack) = true)
    (z_min : PySem.W.nsIn K mainGlobals "min" = some none)
    (z_max : PySem.W.nsIn K mainGlobals "max" = some none)
    (a_law_is_row : PySem.W.nsIn K mainGlobals "_law_is_row" = some (some (.ref f_law_is_row)))
    (l_law_is_row : K.lookup f_law_is_row = some ⟨oc_law_is_row, od_law_is_row, .func (PySem.W.fnOf "_law_is_row" "_law_is_row" (defArgs s_law_is_row) (defBody s_law_is_row) (defScope s_law_is_row) .none kV_law_is_row dc_law_is_row pm_law_is_row an_law_is_row cd_law_is_row ct_law_is_row), sl_law_is_row⟩)
    (c_law_is_row : PySem.W.codeIn K cd_law_is_row "_law_is_row" = true)
    (kp_law_is_row : PySem.W.keepIn K (.ref f_law_is_row) = true)
    (z_isinstance : PySem.W.nsIn K mainGlobals "isinstance" = some none)
    (z_bool : PySem.W.nsIn K mainGlobals "bool" = some none)
    (a_law_heavy : PySem.W.nsIn K mainGlobals "_law_heavy" = some (some (.ref f_law_heavy)))
    (l_law_heavy : K.lookup f_law_heavy = some ⟨oc_law_heavy, od_law_heavy, .func (PySem.W.fnOf "_law_heavy" "_law_heavy" (defArgs s_law_heavy) (defBody s_law_heavy) (defScope s_law_heavy) .none kV_law_heavy dc_law_heavy pm_law_heavy an_law_heavy cd_law_heavy ct_law_heavy), sl_law_heavy⟩)
    (c_law_heavy : PySem.W.codeIn K cd_law_heavy "_law_heavy" = true)
    (kp_law_heavy : PySem.W.keepIn K (.ref f_law_heavy) = true)
    (a_law_fine : PySem.W.nsIn K mainGlobals "_law_fine" = some (some (.ref f_law_fine)))
    (l_law_fine : K.lookup f_law_fine = some ⟨oc_law_fine, od_law_fine, .func (PySem.W.fnOf "_law_fine" "_law_fine" (defArgs s_law_fine) (defBody s_law_fine) (defScope s_law_fine) .none kV_law_fine dc_law_fine pm_law_fine an_law_fine cd_law_fine ct_law_fine), sl_law_fine⟩)
    (c_law_fine : PySem.W.codeIn K cd_law_fine "_law_fine" = true)
    (kp_law_fine : PySem.W.keepIn K (.ref f_law_fine) = true)
    (a_law_told : PySem.W.nsIn K mainGlobals "_law_told" = some (some (.ref f_law_told)))
    (l_law_told : K.lookup f_law_told = some ⟨oc_law_told, od_law_told, .func (PySem.W.fnOf "_law_told" "_law_told" (defArgs s_law_told) (defBody s_law_told) (defScope s_law_told) .none kV_law_told dc_law_told pm_law_told an_law_told cd_law_told ct_law_told), sl_law_told⟩)
    (c_law_told : PySem.W.codeIn K cd_law_told "_law_told" = true)
    (kp_law_told : PySem.W.keepIn K (.ref f_law_told) = true)
    (a_law_refused : PySem.W.nsIn K mainGlobals "_law_refused" = some (some (.ref f_law_refused)))
    (l_law_refused : K.lookup f_law_refused = some ⟨oc_law_refused, od_law_refused, .func (PySem.W.fnOf "_law_refused" "_law_refused" (defArgs s_law_refused) (defBody s_law_refused) (defScope s_law_refused) .none kV_law_refused dc_law_refused pm_law_refused an_law_refused cd_law_refused ct_law_refused), sl_law_refused⟩)
    (c_law_refused : PySem.W.codeIn K cd_law_refused "_law_refused" = true)
    (kp_law_refused : PySem.W.keepIn K (.ref f_law_refused) = true)
    (esst_TooHeavy : PySem.W.subIn K (.ref CTooHeavy) (.type "StopIteration") = some false)
    (ess_TooHeavy : PySem.W.subIn K (.ref CTooHeavy) (.ref CTooHeavy) = some true)
    (ecl_TooHeavy : PySem.W.findIn K (.ref CTooHeavy) "__class__" = some (some (.builtin "object.__class__")))
    (ocg : PySem.W.specialIn K (.builtin "object.__class__") "__get__" = some (some (.builtin "getset_descriptor.__get__")))
    (oct : PySem.W.takesIn K (.builtin "object.__class__") = some true)
    (eo_TooHeavy : PySem.W.mroIn K CTooHeavy (.type "object") = some true)
    (kt_TooHeavy_BadKey : PySem.W.kitOne K (.ref CTooHeavy) (.ref CBadKey) = some false)
    (kt_TooHeavy_TableError : PySem.W.kitOne K (.ref CTooHeavy) (.ref CTableError) = some true)
    (z_ValueError : PySem.W.nsIn K mainGlobals "ValueError" = some none)
    (kt_TooHeavy_ValueError : PySem.W.kitOne K (.ref CTooHeavy) (.type "ValueError") = some true)
    (a_law : PySem.W.nsIn K mainGlobals "law" = some (some (.ref f_law)))
    (l_law : K.lookup f_law = some ⟨oc_law, od_law, .func (PySem.W.fnOf "law" "law" (defArgs s_law) (defBody s_law) (defScope s_law) .none kV_law dc_law pm_law an_law cd_law ct_law), sl_law⟩)
    (c_law : PySem.W.codeIn K cd_law "law" = true)
    (kp_law : PySem.W.keepIn K (.ref f_law) = true)
    : ∃ fd : FuncData, (∀ (s : Shared) (v : Value), BindsTo s fd ⟨[v], []⟩ [("_law_script", v)]) ∧ ∀ base : Heap, K.In base → base.Ns mainGlobals mg → FnOk P w K mg base CX0 9 fa fd ["_law_script"] (spP K arLaw) := by
  have e := hfa.symm.trans (PySem.W.mg_of X G a_law)
  cases e
  have e_TooHeavy : PySem.ErX.ErrT P K mg CTooHeavy f_TooHeavy___init__ "weight" := { cls := ⟨_, _, _, _, _, _, _, _, _, _, _, _, _, _, _, xL_TooHeavy, rfl⟩, sa := es_TooHeavy, ga := eg_TooHeavy, gg := ek_TooHeavy, noN := en_TooHeavy, iC := ei_TooHeavy, tC := et_TooHeavy, kC := ekp_TooHeavy, exC := eex_TooHeavy, tyC := ety_TooHeavy, hdC := ehd_TooHeavy, subC := emr_TooHeavy, sup := esu_TooHeavy, isB := eve_TooHeavy, stat := est, gS := PySem.W.mg_none_of X G z_super, top := etp, lkS := rfl, lkC := rfl, lkN := rfl, ndn := by decide, nse := by decide, fn := ⟨_, _, _, _, _, _, _, _, _, _, _, _, _, _, _, _, _, _, _, _, _, _, _, _, _, _, _, _, _, _, #[], _, _, _, _, _, l_TooHeavy___init__, c_TooHeavy___init__, hc_TooHeavy, hf_TooHeavy, hl_TooHeavy, hw_TooHeavy, fun s x v => .of_eq (by first | rfl | with_unfolding_all rfl), ⟨_, fun _ => rfl⟩⟩ }
  have F_check_weight := fun_mk (st := s_check_weight) l_check_weight c_check_weight kp_check_weight
  have b_check_weight := F_check_weight.binds (ps := ["columns", "marks"]) fun _ _ _ _ _ _ us hl => match us, hl with | [_, _], _ => rfl
  have F_values_near := fun_mk (st := s_values_near) l_values_near c_values_near kp_values_near
  have b_values_near := F_values_near.binds (ps := ["letter", "columns", "marks", "many"]) fun _ _ _ _ _ _ us hl => match us, hl with | [_, _, _, _], _ => rfl
  have F_candidate_rows := fun_mk (st := s_candidate_rows) l_candidate_rows c_candidate_rows kp_candidate_rows
  have b_candidate_rows := F_candidate_rows.binds (ps := ["columns", "marks", "many"]) fun _ _ _ _ _ _ us hl => match us, hl with | [_, _, _], _ => rfl
  have F_is_packed := fun_mk (st := s_is_packed) l_is_packed c_is_packed kp_is_packed
  have b_is_packed := F_is_packed.binds (ps := ["values", "constants"]) fun _ _ _ _ _ _ us hl => match us, hl with | [_, _], _ => rfl
  have F_column_shapes := fun_mk (st := s_column_shapes) l_column_shapes c_column_shapes kp_column_shapes
  have b_column_shapes := F_column_shapes.binds (ps := ["letter", "columns", "marks"]) fun _ _ _ _ _ _ us hl => match us, hl with | [_, _, _], _ => rfl
  have F_small_tables := fun_mk (st := s_small_tables) l_small_tables c_small_tables kp_small_tables
  have b_small_tables := F_small_tables.binds (ps := ["rows"]) fun _ _ _ _ _ _ us hl => match us, hl with | [_], _ => rfl
  have F_packed_tables := fun_mk (st := s_packed_tables) l_packed_tables c_packed_tables kp_packed_tables
  have b_packed_tables := F_packed_tables.binds (ps := ["columns", "marks"]) fun _ _ _ _ _ _ us hl => match us, hl with | [_, _], _ => rfl
  have F_packed_a := fun_mk (st := s_packed_a) l_packed_a c_packed_a kp_packed_a
  have b_packed_a := F_packed_a.binds (ps := ["columns", "marks"]) fun _ _ _ _ _ _ us hl => match us, hl with | [_, _], _ => rfl
  have F_packed := fun_mk (st := s_packed) l_packed c_packed kp_packed
  have b_packed := F_packed.binds (ps := ["columns", "marks"]) fun _ _ _ _ _ _ us hl => match us, hl with | [_, _], _ => rfl
  have F_law_pool := fun_mk (st := s_law_pool) l_law_pool c_law_pool kp_law_pool
  have b_law_pool := F_law_pool.binds (ps := ["_law_script", "_law_k", "_law_many"]) fun _ _ _ _ _ _ us hl => match us, hl with | [_, _, _], _ => rfl
  have F_law_frame := fun_mk (st := s_law_frame) l_law_frame c_law_frame kp_law_frame
  have b_law_frame := F_law_frame.binds (ps := ["_law_pool_here", "_law_shapes"]) fun _ _ _ _ _ _ us hl => match us, hl with | [_, _], _ => rfl
  have F_law_ordered := fun_mk (st := s_law_ordered) l_law_ordered c_law_ordered kp_law_ordered
  have b_law_ordered := F_law_ordered.binds (ps := ["_law_marks"]) fun _ _ _ _ _ _ us hl => match us, hl with | [_], _ => rfl
  have F_law_columns := fun_mk (st := s_law_columns) l_law_columns c_law_columns kp_law_columns
  have b_law_columns := F_law_columns.binds (ps := ["_law_letters"]) fun _ _ _ _ _ _ us hl => match us, hl with | [_], _ => rfl
  have F_law_pack := fun_mk (st := s_law_pack) l_law_pack c_law_pack kp_law_pack
  have b_law_pack := F_law_pack.binds (ps := ["_law_values", "_law_constants"]) fun _ _ _ _ _ _ us hl => match us, hl with | [_, _], _ => rfl
  have F_law_is_row := fun_mk (st := s_law_is_row) l_law_is_row c_law_is_row kp_law_is_row
  have b_law_is_row := F_law_is_row.binds (ps := ["_law_row"]) fun _ _ _ _ _ _ us hl => match us, hl with | [_], _ => rfl
  have F_law_heavy := fun_mk (st := s_law_heavy) l_law_heavy c_law_heavy kp_law_heavy
  have b_law_heavy := F_law_heavy.binds (ps := ["_law_one", "_law_two"]) fun _ _ _ _ _ _ us hl => match us, hl with | [_, _], _ => rfl
  have F_law_fine := fun_mk (st := s_law_fine) l_law_fine c_law_fine kp_law_fine
  have b_law_fine := F_law_fine.binds (ps := ["_law_table", "_law_columns_here", "_law_marks"]) fun _ _ _ _ _ _ us hl => match us, hl with | [_, _, _], _ => rfl
  have F_law_told := fun_mk (st := s_law_told) l_law_told c_law_told kp_law_told
  have b_law_told := F_law_told.binds (ps := ["_law_columns_here", "_law_marks"]) fun _ _ _ _ _ _ us hl => match us, hl with | [_, _], _ => rfl
  have F_law_refused := fun_mk (st := s_law_refused) l_law_refused c_law_refused kp_law_refused
  have b_law_refused := F_law_refused.binds (ps := ["_law_columns_here", "_law_marks"]) fun _ _ _ _ _ _ us hl => match us, hl with | [_, _], _ => rfl
  have F_law := fun_mk (st := s_law) l_law c_law kp_law
  refine ⟨PySem.W.fnOf "law" "law" (defArgs s_law) (defBody s_law) (defScope s_law) .none kV_law dc_law pm_law an_law cd_law ct_law, fun s v => .of_eq rfl, fun base hb1 hb2 => ?_⟩
  have GX_check_weight : Fok P w K mg base (L2.CX P w) 1 f_check_weight (spX K (ax_check_weight decl_name%)) := ⟨⟨_, _, okx_check_weight (ad := decl_name%) F_check_weight (PySem.W.mg_none_of X G z_len) ⟨_, PySem.W.mg_of X G ga_HEAVIEST⟩ e_TooHeavy (PySem.W.mg_of X G aC_TooHeavy), b_check_weight⟩, kp_check_weight⟩
  have G_check_weight : Fok P w K mg base CX0 1 f_check_weight (spP K (ar_check_weight decl_name%)) := ⟨⟨_, _, okc_check_weight (okx_check_weight (ad := decl_name%) F_check_weight (PySem.W.mg_none_of X G z_len) ⟨_, PySem.W.mg_of X G ga_HEAVIEST⟩ e_TooHeavy (PySem.W.mg_of X G aC_TooHeavy)), b_check_weight⟩, kp_check_weight⟩
  have G_values_near : Fok P w K mg base CX0 1 f_values_near (spN K (ar_values_near decl_name%)) := ⟨⟨_, _, ok_values_near (ad := decl_name%) F_values_near (PySem.W.mg_none_of X G z_list) (PySem.W.mg_none_of X G z_range) (PySem.W.mg_none_of X G z_int) (PySem.W.mg_none_of X G z_sorted), b_values_near⟩, kp_values_near⟩
  have G_candidate_rows : Fok P w K mg base CX0 2 f_candidate_rows (spN K (ar_candidate_rows decl_name%)) := ⟨⟨_, _, ok_candidate_rows (ad := decl_name%) F_candidate_rows ⟨_, PySem.W.mg_of X G ga_COLUMNS⟩ ⟨_, G_values_near, PySem.W.mg_of X G a_values_near⟩, b_candidate_rows⟩, kp_candidate_rows⟩
  have G_is_packed : Fok P w K mg base CX0 1 f_is_packed (spP K (ar_is_packed decl_name%)) := ⟨⟨_, _, ok_is_packed (ad := decl_name%) F_is_packed , b_is_packed⟩, kp_is_packed⟩
  have G_column_shapes : Fok P w K mg base CX0 2 f_column_shapes (spP K (ar_column_shapes decl_name%)) := ⟨⟨_, _, ok_column_shapes (ad := decl_name%) F_column_shapes ⟨_, G_values_near, PySem.W.mg_of X G a_values_near⟩ ⟨_, G_is_packed, PySem.W.mg_of X G a_is_packed⟩, b_column_shapes⟩, kp_column_shapes⟩
  have G_small_tables : Fok P w K mg base CX0 1 f_small_tables (spN K (ar_small_tables decl_name%)) := ⟨⟨_, _, ok_small_tables (ad := decl_name%) F_small_tables (PySem.W.mg_none_of X G z_len) (PySem.W.mg_none_of X G z_range), b_small_tables⟩, kp_small_tables⟩
  have GX_packed_tables : Fok P w K mg base (L2.CX P w) 3 f_packed_tables (spX K (ax_packed_tables decl_name%)) := ⟨⟨_, _, okx_packed_tables (ad := decl_name%) F_packed_tables ⟨_, GX_check_weight, PySem.W.mg_of X G a_check_weight⟩ ⟨_, PySem.W.mg_of X G ga_COLUMNS⟩ ⟨_, G_column_shapes, PySem.W.mg_of X G a_column_shapes⟩ ⟨_, G_candidate_rows, PySem.W.mg_of X G a_candidate_rows⟩ ⟨_, G_small_tables, PySem.W.mg_of X G a_small_tables⟩ (PySem.W.mg_none_of X G z_tuple), b_packed_tables⟩, kp_packed_tables⟩
  have G_packed_tables : Fok P w K mg base CX0 3 f_packed_tables (spP K (ar_packed_tables decl_name%)) := ⟨⟨_, _, okc_packed_tables (okx_packed_tables (ad := decl_name%) F_packed_tables ⟨_, GX_check_weight, PySem.W.mg_of X G a_check_weight⟩ ⟨_, PySem.W.mg_of X G ga_COLUMNS⟩ ⟨_, G_column_shapes, PySem.W.mg_of X G a_column_shapes⟩ ⟨_, G_candidate_rows, PySem.W.mg_of X G a_candidate_rows⟩ ⟨_, G_small_tables, PySem.W.mg_of X G a_small_tables⟩ (PySem.W.mg_none_of X G z_tuple)), b_packed_tables⟩, kp_packed_tables⟩
  have GN_packed_a : CalN P w K mg base 4 "packed" (ar_packed_a decl_name%) := ⟨⟨_, _, _, ok_packed_a (ad := decl_name%) (funG_of F_packed_a) ⟨_, G_packed_tables, PySem.W.mg_of X G a_packed_tables⟩, PySem.W.mg_of X G a_packed_a, kp_packed_a, b_packed_a⟩⟩
  have GG_packed : CalGX P w K mg base 4 "packed" (spFX K (ax_packed decl_name%)) := ⟨_, _, _, ok_packed (ad := decl_name%) (funG_of F_packed) ⟨_, GX_packed_tables, PySem.W.mg_of X G a_packed_tables⟩, PySem.W.mg_of X G a_packed, kp_packed, b_packed⟩
  have G_law_pool : Fok P w K mg base CX0 1 f_law_pool (spN K (ar_law_pool decl_name%)) := ⟨⟨_, _, ok_law_pool (ad := decl_name%) F_law_pool (PySem.W.mg_none_of X G z_len) (PySem.W.mg_none_of X G z_range) (PySem.W.mg_none_of X G z_int), b_law_pool⟩, kp_law_pool⟩
  have G_law_frame : Fok P w K mg base CX0 1 f_law_frame (spP K (ar_law_frame decl_name%)) := ⟨⟨_, _, ok_law_frame (ad := decl_name%) F_law_frame (PySem.W.mg_none_of X G z_int) (PySem.W.mg_none_of X G z_range), b_law_frame⟩, kp_law_frame⟩
  have G_law_ordered : Fok P w K mg base CX0 1 f_law_ordered (spN K (ar_law_ordered decl_name%)) := ⟨⟨_, _, ok_law_ordered (ad := decl_name%) F_law_ordered (PySem.W.mg_none_of X G z_int) (PySem.W.mg_none_of X G z_sorted), b_law_ordered⟩, kp_law_ordered⟩
  have G_law_columns : Fok P w K mg base CX0 1 f_law_columns (spP K (ar_law_columns decl_name%)) := ⟨⟨_, _, ok_law_columns (ad := decl_name%) F_law_columns , b_law_columns⟩, kp_law_columns⟩
  have G_law_pack : Fok P w K mg base CX0 1 f_law_pack (spN K (ar_law_pack decl_name%)) := ⟨⟨_, _, ok_law_pack (ad := decl_name%) F_law_pack (PySem.W.mg_none_of X G z_len) (PySem.W.mg_none_of X G z_int) (PySem.W.mg_none_of X G z_min) (PySem.W.mg_none_of X G z_max), b_law_pack⟩, kp_law_pack⟩
  have G_law_is_row : Fok P w K mg base CX0 1 f_law_is_row (spP K (ar_law_is_row decl_name%)) := ⟨⟨_, _, ok_law_is_row (ad := decl_name%) F_law_is_row (PySem.W.mg_none_of X G z_isinstance) (PySem.W.mg_none_of X G z_tuple) (PySem.W.mg_none_of X G z_len) (PySem.W.mg_none_of X G z_int) (PySem.W.mg_none_of X G z_bool), b_law_is_row⟩, kp_law_is_row⟩
  have G_law_heavy : Fok P w K mg base CX0 1 f_law_heavy (spP K (ar_law_heavy decl_name%)) := ⟨⟨_, _, ok_law_heavy (ad := decl_name%) F_law_heavy (PySem.W.mg_none_of X G z_int) (PySem.W.mg_none_of X G z_len) (PySem.W.mg_none_of X G z_range), b_law_heavy⟩, kp_law_heavy⟩
  have G_law_fine : Fok P w K mg base CX0 2 f_law_fine (spP K (ar_law_fine decl_name%)) := ⟨⟨_, _, ok_law_fine (ad := decl_name%) F_law_fine (PySem.W.mg_none_of X G z_isinstance) (PySem.W.mg_none_of X G z_list) (PySem.W.mg_none_of X G z_len) ⟨_, G_law_is_row, PySem.W.mg_of X G a_law_is_row⟩ (PySem.W.mg_none_of X G z_range) ⟨_, G_law_pack, PySem.W.mg_of X G a_law_pack⟩, b_law_fine⟩, kp_law_fine⟩
  have G_law_told : Fok P w K mg base CX0 8 f_law_told (spN K (ar_law_told decl_name%)) := ⟨⟨_, _, ok_law_told (ad := decl_name%) F_law_told GN_packed_a (PySem.W.mg_none_of X G z_len) ⟨_, G_law_fine, PySem.W.mg_of X G a_law_fine⟩ (PySem.W.mg_none_of X G z_list) (PySem.W.mg_none_of X G z_range), b_law_told⟩, kp_law_told⟩
  have G_law_refused : Fok P w K mg base CX0 8 f_law_refused (spP K (ar_law_refused decl_name%)) := ⟨⟨_, _, ok_law_refused (ad := decl_name%) F_law_refused esst_TooHeavy GG_packed e_TooHeavy (PySem.W.mg_of X G aC_TooHeavy) (PySem.W.exm_ref eex_TooHeavy ehd_TooHeavy ety_TooHeavy ess_TooHeavy) ⟨eg_TooHeavy, ek_TooHeavy, eex_TooHeavy, ehd_TooHeavy, ecl_TooHeavy, ocg, oct, eo_TooHeavy⟩ (PySem.W.mg_of X G aC_BadKey) kt_TooHeavy_BadKey (PySem.W.mg_none_of X G z_isinstance) (PySem.W.mg_of X G aC_TableError) kt_TooHeavy_TableError (PySem.W.mg_none_of X G z_ValueError) kt_TooHeavy_ValueError, b_law_refused⟩, kp_law_refused⟩
  exact fn_law (ok_law (ad := decl_name%) F_law ⟨_, G_law_pool, PySem.W.mg_of X G a_law_pool⟩ ⟨_, G_law_frame, PySem.W.mg_of X G a_law_frame⟩ ⟨_, G_law_ordered, PySem.W.mg_of X G a_law_ordered⟩ (PySem.W.mg_none_of X G z_list) ⟨_, G_law_columns, PySem.W.mg_of X G a_law_columns⟩ ⟨_, G_law_told, PySem.W.mg_of X G a_law_told⟩ (PySem.W.mg_none_of X G z_len) (PySem.W.mg_none_of X G z_int) ⟨_, G_law_heavy, PySem.W.mg_of X G a_law_heavy⟩ ⟨_, G_law_refused, PySem.W.mg_of X G a_law_refused⟩ (PySem.W.mg_none_of X G z_isinstance) (PySem.W.mg_none_of X G z_bool)) law_ok
theorem walk {l : PySem.W.OpenLaw} {q : Program} {loose : List Str} {XP : (Str → Option Value) → Heap → Prop} {YP : World → Heap → Prop} {d : DefRec} {K : Params → PySem.W.Frag} (hn : l.most = some 63) (hdf : d.params.defaults = [])
    (hY : ∀ (w : World) (h : Heap), YP w h → (K w.params).In h)
    (F : ∀ (w : World) (mg : Str → Option Value) (fa : Addr) (h : Heap), (K w.params).In h → h.Ns mainGlobals mg → mg d.name = some (.ref fa) →
      ∃ fd : FuncData, (∀ (s : Shared) (u : Value), BindsTo s fd ⟨[u], []⟩ [("_law_script", u)]) ∧ ∀ base : Heap, (K w.params).In base → base.Ns mainGlobals mg → FnOk l.prog w (K w.params) mg base CX0 9 fa fd ["_law_script"] (spP (K w.params) arLaw)) :
    PySem.W.WalkO q loose XP YP l.row.toRowW d [] (fun f vs => PySem.call f vs) :=
  L2.walk_of (n := 63) (k := 9) (x := "_law_script") (CX := fun _ => CX0) (sp := fun w => spP (K w.params) arLaw) hn (by decide) hdf ⟨rfl, by decide, by decide⟩ hY F (fun _ _ a ns hl _ hS => law_sp ⟨ns, rfl, hl, rfl⟩ hS fun _ => rfl) fun _ _ _ _ _ z => z
end DL
namespace DL
open PySem PySem.W PySem.Calls PyProof.Rows HeadRun
theorem left_rows {p q : Program} {loose : List PySem.Str} {Xt : Shared → Bool} {K : Params → Frag} {as : List Addr} {ek : ∀ P, as = (K P).map (·.1)} {N : Nat} (M : Nat) (row : String)
    (e : opening p = plainProg p.main.scope.names) (hN : Nat.ble 600 N = true) (f : ∀ s, fenceModules? p s = some s) (le : Nat.ble M N = true)
    (run : ∀ (b : Bool) (w : World) (os : OsState), (endF (stepQ (denQ tabQ) p (w.withFollow row b)) M p (w.withFollow row b) os).map (fun s => (looksF p (boot_heap (w.withFollow row b).params) s.abs, seenQ q loose (importedModules p.main.body) Xt s.abs, as.map (getT s))) = some (true, openGood q loose, (K (w.withFollow row b).params).map fun x => some x.2)) :
    LeftO p q loose Xt (Hook.obs (kHook K as ek)) (Hook.val (kHook K as ek)) N true :=
  left_oneK (M := M) e hN f le fun w os => by
    have z := run (w.params.followText row) w os
    rw [World.withFollow_self] at z
    exact z
def vq : Program := { PySem.Challenge.pw_unbettered_k10_packed_tables with main := { PySem.Challenge.pw_unbettered_k10_packed_tables.main with body := [PySem.Challenge.pw_unbettered_k10_packed_tables.main.body.getD 26 (.Pass ⟨0, 0, 0, 0⟩)] } }
def vl : List PySem.Str := [PySem.Str.ofString "__name__", PySem.Str.ofString "TableError", PySem.Str.ofString "TooHeavy", PySem.Str.ofString "BadKey", PySem.Str.ofString "COLUMNS", PySem.Str.ofString "HEAVIEST", PySem.Str.ofString "check_weight", PySem.Str.ofString "values_near", PySem.Str.ofString "candidate_rows", PySem.Str.ofString "is_packed", PySem.Str.ofString "column_shapes", PySem.Str.ofString "small_tables", PySem.Str.ofString "packed_tables", PySem.Str.ofString "packed", PySem.Str.ofString "_law_pool", PySem.Str.ofString "_law_frame", PySem.Str.ofString "_law_ordered", PySem.Str.ofString "_law_columns", PySem.Str.ofString "_law_pack", PySem.Str.ofString "_law_is_row", PySem.Str.ofString "_law_heavy", PySem.Str.ofString "_law_fine", PySem.Str.ofString "_law_told", PySem.Str.ofString "_law_refused"]
end DL
local macro_rules | `(tactic| o_headL $H) => `(tactic| (refine PySem.W.holds_open (q := DL.vq) (loose := DL.vl) (Xt := fun s => PySem.W.xlAt DL.vq [] s && PySem.W.recOk (PySem.W.RowW.records (PySem.W.OpenRow.toRowW (PySem.W.OpenLaw.row PySem.Challenge.rw_unbettered_k10_packed_tables))) s) (XP := PySem.W.XL DL.vq []) (Yf := PySem.W.Hook.obs $H) (Ya := PySem.W.Hook.val $H) (YP := PySem.W.Hook.says $H) (N := 20700) ?hl (PySem.W.Hook.of $H) (PySem.W.Hook.keeps $H) (fun s e => PySem.W.xl_of s (Bool.and_eq_true_iff.mp e).1) PySem.W.XL.keeps (by rfl) (by rfl) (by rfl) (fun s e => PySem.W.recFacts_of (Bool.and_eq_true_iff.mp e).2) (by rfl) (by assumption) (by decide +kernel) ⟨rfl, rfl, rfl, rfl, rfl, by decide +kernel⟩ ?hw ?hc))

open PySem PySem.W PyProof.Rows in
set_option maxRecDepth 100000 in
set_option maxHeartbeats 0 in
set_option pp.maxSteps 400 in
set_option pp.deepTerms false in
theorem PySem.Challenge.cw_unbettered_k10_packed_tables_holds : PySem.Challenge.rw_unbettered_k10_packed_tables.Holds := by
  w_on; o_law; k_headL; (case hw => w_witness2)
  (case hl => exact DL.left_rows 20000 "special-get-raises" (by kernel_rfl) (by rfl) (fun s => by kernel_rfl) (by rfl) (fun b w os => by cases b <;> kernel_rfl))
  k_fill
  refine DL.walk (l := PySem.Challenge.rw_unbettered_k10_packed_tables) rfl rfl (fun w h Y => PySem.W.kIn_of Y) ?F
  case F =>
    intro w mg fa h KX G hmg
    refine' DL.all_mk KX G hmg ?aC_TooHeavy ?aC_TableError ?aC_BadKey ?a_check_weight ?l_check_weight ?c_check_weight ?kp_check_weight ?z_len ?ga_HEAVIEST ?xL_TooHeavy ?es_TooHeavy ?eg_TooHeavy ?ek_TooHeavy ?en_TooHeavy ?ei_TooHeavy ?et_TooHeavy ?ekp_TooHeavy ?eex_TooHeavy ?ety_TooHeavy ?ehd_TooHeavy ?emr_TooHeavy ?esu_TooHeavy ?eve_TooHeavy ?est ?z_super ?etp ?l_TooHeavy___init__ ?c_TooHeavy___init__ ?hc_TooHeavy ?hf_TooHeavy ?hl_TooHeavy ?hw_TooHeavy ?a_values_near ?l_values_near ?c_values_near ?kp_values_near ?z_list ?z_range ?z_int ?z_sorted ?a_candidate_rows ?l_candidate_rows ?c_candidate_rows ?kp_candidate_rows ?ga_COLUMNS ?a_is_packed ?l_is_packed ?c_is_packed ?kp_is_packed ?a_column_shapes ?l_column_shapes ?c_column_shapes ?kp_column_shapes ?a_small_tables ?l_small_tables ?c_small_tables ?kp_small_tables ?a_packed_tables ?l_packed_tables ?c_packed_tables ?kp_packed_tables ?z_tuple ?a_packed_a ?l_packed_a ?c_packed_a ?kp_packed_a ?a_packed ?l_packed ?c_packed ?kp_packed ?a_law_pool ?l_law_pool ?c_law_pool ?kp_law_pool ?a_law_frame ?l_law_frame ?c_law_frame ?kp_law_frame ?a_law_ordered ?l_law_ordered ?c_law_ordered ?kp_law_ordered ?a_law_columns ?l_law_columns ?c_law_columns ?kp_law_columns ?a_law_pack ?l_law_pack ?c_law_pack ?kp_law_pack ?z_min ?z_max ?a_law_is_row ?l_law_is_row ?c_law_is_row ?kp_law_is_row ?z_isinstance ?z_bool ?a_law_heavy ?l_law_heavy ?c_law_heavy ?kp_law_heavy ?a_law_fine ?l_law_fine ?c_law_fine ?kp_law_fine ?a_law_told ?l_law_told ?c_law_told ?kp_law_told ?a_law_refused ?l_law_refused ?c_law_refused ?kp_law_refused ?esst_TooHeavy ?ess_TooHeavy ?ecl_TooHeavy ?ocg ?oct ?eo_TooHeavy ?kt_TooHeavy_BadKey ?kt_TooHeavy_TableError ?z_ValueError ?kt_TooHeavy_ValueError ?a_law ?l_law ?c_law ?kp_law
    (case aC_TooHeavy => k_is)
    (case aC_TableError => k_is)
    (case aC_BadKey => k_is)
    (case a_check_weight => k_is)
    (case l_check_weight => k_is)
    (case c_check_weight => k_is)
    (case kp_check_weight => k_is)
    (case z_len => k_is)
    (case ga_HEAVIEST => k_is)
    (case xL_TooHeavy => k_is)
    (case es_TooHeavy => k_is)
    (case eg_TooHeavy => k_is)
    (case ek_TooHeavy => k_is)
    (case en_TooHeavy => k_is)
    (case ei_TooHeavy => k_is)
    (case et_TooHeavy => k_is)
    (case ekp_TooHeavy => k_is)
    (case eex_TooHeavy => k_is)
    (case ety_TooHeavy => k_is)
    (case ehd_TooHeavy => k_is)
    (case emr_TooHeavy => first | k_is | rfl)
    (case esu_TooHeavy => first | k_is | rfl)
    (case eve_TooHeavy => k_is)
    (case est => k_is)
    (case z_super => k_is)
    (case etp => first | rfl | decide +kernel)
    (case l_TooHeavy___init__ => k_is)
    (case c_TooHeavy___init__ => k_is)
    (case hc_TooHeavy => k_is)
    (case hf_TooHeavy => first | rfl | k_is)
    (case hl_TooHeavy => first | rfl | decide +kernel)
    (case hw_TooHeavy => k_is)
    (case a_values_near => k_is)
    (case l_values_near => k_is)
    (case c_values_near => k_is)
    (case kp_values_near => k_is)
    (case z_list => k_is)
    (case z_range => k_is)
    (case z_int => k_is)
    (case z_sorted => k_is)
    (case a_candidate_rows => k_is)
    (case l_candidate_rows => k_is)
    (case c_candidate_rows => k_is)
    (case kp_candidate_rows => k_is)
    (case ga_COLUMNS => k_is)
    (case a_is_packed => k_is)
    (case l_is_packed => k_is)
    (case c_is_packed => k_is)
    (case kp_is_packed => k_is)
    (case a_column_shapes => k_is)
    (case l_column_shapes => k_is)
    (case c_column_shapes => k_is)
    (case kp_column_shapes => k_is)
    (case a_small_tables => k_is)
    (case l_small_tables => k_is)
    (case c_small_tables => k_is)
    (case kp_small_tables => k_is)
    (case a_packed_tables => k_is)
    (case l_packed_tables => k_is)
    (case c_packed_tables => k_is)
    (case kp_packed_tables => k_is)
    (case z_tuple => k_is)
    (case a_packed_a => k_is)
    (case l_packed_a => k_is)
    (case c_packed_a => k_is)
    (case kp_packed_a => k_is)
    (case a_packed => k_is)
    (case l_packed => k_is)
    (case c_packed => k_is)
    (case kp_packed => k_is)
    (case a_law_pool => k_is)
    (case l_law_pool => k_is)
    (case c_law_pool => k_is)
    (case kp_law_pool => k_is)
    (case a_law_frame => k_is)
    (case l_law_frame => k_is)
    (case c_law_frame => k_is)
    (case kp_law_frame => k_is)
    (case a_law_ordered => k_is)
    (case l_law_ordered => k_is)
    (case c_law_ordered => k_is)
    (case kp_law_ordered => k_is)
    (case a_law_columns => k_is)
    (case l_law_columns => k_is)
    (case c_law_columns => k_is)
    (case kp_law_columns => k_is)
    (case a_law_pack => k_is)
    (case l_law_pack => k_is)
    (case c_law_pack => k_is)
    (case kp_law_pack => k_is)
    (case z_min => k_is)
    (case z_max => k_is)
    (case a_law_is_row => k_is)
    (case l_law_is_row => k_is)
    (case c_law_is_row => k_is)
    (case kp_law_is_row => k_is)
    (case z_isinstance => k_is)
    (case z_bool => k_is)
    (case a_law_heavy => k_is)
    (case l_law_heavy => k_is)
    (case c_law_heavy => k_is)
    (case kp_law_heavy => k_is)
    (case a_law_fine => k_is)
    (case l_law_fine => k_is)
    (case c_law_fine => k_is)
    (case kp_law_fine => k_is)
    (case a_law_told => k_is)
    (case l_law_told => k_is)
    (case c_law_told => k_is)
    (case kp_law_told => k_is)
    (case a_law_refused => k_is)
    (case l_law_refused => k_is)
    (case c_law_refused => k_is)
    (case kp_law_refused => k_is)
    (case esst_TooHeavy => k_is)
    (case ess_TooHeavy => first | rfl | k_is)
    (case ecl_TooHeavy => k_is)
    (case ocg => k_is)
    (case oct => k_is)
    (case eo_TooHeavy => first | k_is | rfl)
    (case kt_TooHeavy_BadKey => first | kit_is | k_is | rfl)
    (case kt_TooHeavy_TableError => first | kit_is | k_is | rfl)
    (case z_ValueError => k_is)
    (case kt_TooHeavy_ValueError => first | kit_is | k_is | rfl)
    (case a_law => k_is)
    (case l_law => k_is)
    (case c_law => k_is)
    (case kp_law => k_is)
