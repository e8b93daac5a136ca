import PyProof.Rows.All
import Wide.All
import OpenK.AllK
import Wide.FinOn
import HandS.ForMost
import HandS.Exc
import HandS.TryOnly
import HandS.ExcOwn
import HandS.WordsExc
import HandS.Deep
import HandS.Wide
import HandS.IsInst
import KE.KDictKeyed
import HandS.Style
import HandS.Conv
import HandS.Iter
import HandS.Zip
import KE.SortKeyed
import KE.DataMinMax
import KE.DataCmp
import HandS.TupAny
import HandS.TupSets
import KE.SortData
import HandS.SetFor
import HandS.Strs
import HandS.ExcIs
import KE.BitLaws
import HandS.TupMul
import PySem.Challenge.RW_cellships_k20_fates_of_a_turn
set_option Elab.async false
set_option linter.all false
set_option maxRecDepth 100000
set_option autoImplicit false
set_option maxHeartbeats 4000000
/-! The value layer: Python data as values of Lean (D), states as slots (Rho), what a text does as a function of them. -/
namespace G
open PySem PySem.Spec PyProof.Rows L2

inductive D where
  | non | bl (b : Bool) | int (i : Int) | str (x : Str) | ty (n : String) | tup (ds : List D) | lst (ds : List D) | fix (ds : List D)
  | dicK (z : Bool) (es : List (Key × D)) | dicT (z : Bool) (es : List (List Key × D)) | dicN (z : Bool) (es : List (D × D))
mutual
/-- the key of nested tuples of whole numbers that a value is -/
def nkD : D → Option NestedKey
  | .int i => some (.num i)
  | .tup ds => (nkDs ds).map .tup
  | _ => none
def nkDs : List D → Option (List NestedKey)
  | [] => some []
  | d :: ds => (nkD d).bind fun k => (nkDs ds).map (k :: ·)
end
/-- at a stands a dict whose keys are nested tuples of whole numbers: each key, the address of its tuple, its value -/
def NDict (a : Addr) (kvs : List (NestedKey × Addr × V)) : Heap → Prop := fun h => kvs.length ≤ sizeLine ∧ (a == sysModules) = false ∧ (∀ e ∈ kvs, e.1.depth ≤ 8) ∧ ∃ xs : List (NestedKey × Addr × Value),
  Paired (fun (p : NestedKey × Addr × V) (q : NestedKey × Addr × Value) => p.1 = q.1 ∧ p.2.1 = q.2.1 ∧ RelV p.2.2 q.2.2) kvs xs ∧
  ∃ o es ep, h.get? a = some o ∧ o.ExactDict ∧ o.data = .dict es ep ∧ (∀ (P : Program) (w : World), es.toList = xs.map (entryOfKey (nestedKind P w))) ∧ (xs.map (·.1)).Nodup
/-- a dict, locked for good or not -/
def frzIf (z : Bool) (o : Obj) (u : HO) : HO := if z = true then .frz o u else u

mutual
inductive Rp (K : PySem.W.Frag) (F : Hp) : V → D → Prop
  | non : Rp K F .non .non
  | bl (b : Bool) : Rp K F (.bl b) (.bl b)
  | int (i : Int) : Rp K F (.int i) (.int i)
  | str (x : Str) : Rp K F (.str x) (.str x)
  | ty (n : String) : Rp K F (.ty n) (.ty n)
  | tup {a : Addr} {xs : List V} {ds : List D} : F a = some (.tup xs) → RpAll K F xs ds → Rp K F (.ref a) (.tup ds)
  | lst {a : Addr} {xs : List V} {ds : List D} : F a = some (.lst xs) → RpAll K F xs ds → Rp K F (.ref a) (.lst ds)
  | fix {a : Addr} {xs : List V} {ds : List D} : SqL K F a xs → RpAll K F xs ds → Rp K F (.ref a) (.fix ds)
  | dicK {z : Bool} {o : Obj} {a : Addr} {kvs : List (Key × V)} {es : List (Key × D)} : F a = some (frzIf z o (.dK kvs)) → kvs.map (·.1) = es.map (·.1) → RpAll K F (kvs.map (·.2)) (es.map (·.2)) → Rp K F (.ref a) (.dicK z es)
  | dicT {z : Bool} {o : Obj} {a : Addr} {kvs : List (List Key × V)} {es : List (List Key × D)} : F a = some (frzIf z o (.dT kvs)) → kvs.map (·.1) = es.map (·.1) → RpAll K F (kvs.map (·.2)) (es.map (·.2)) → Rp K F (.ref a) (.dicT z es)
  | dicN {z : Bool} {o : Obj} {a : Addr} {kvs : List (NestedKey × Addr × V)} {es : List (D × D)} : F a = some (frzIf z o (.ext (NDict a kvs))) → kvs.map (fun e => some e.1) = es.map (fun e => nkD e.1) → RpAll K F (kvs.map fun e => V.ref e.2.1) (es.map (·.1)) → RpAll K F (kvs.map fun e => e.2.2) (es.map (·.2)) → Rp K F (.ref a) (.dicN z es)
inductive RpAll (K : PySem.W.Frag) (F : Hp) : List V → List D → Prop
  | nil : RpAll K F [] []
  | cons {v : V} {vs : List V} {d : D} {ds : List D} : Rp K F v d → RpAll K F vs ds → RpAll K F (v :: vs) (d :: ds)
end

theorem same_seqT {K : PySem.W.Frag} {H H' : Hp} {a : Addr} {xs : List V} (e : Same H H') (h : SqT K H a xs) : SqT K H' a xs := by
  rcases h with (h | ⟨o, h⟩) | h
  · exact .inl (.inl (e _ _ h))
  · exact .inl (.inr ⟨o, e _ _ h⟩)
  · exact .inr h
section
variable {K : PySem.W.Frag} {F F' H H' : Hp}
theorem Rp.mono (e : Same F F') {v : V} {d : D} (h : Rp K F v d) : Rp K F' v d := by
  refine Rp.rec (motive_1 := fun v d _ => Rp K F' v d) (motive_2 := fun vs ds _ => RpAll K F' vs ds) ?_ ?_ ?_ ?_ ?_ ?_ ?_ ?_ ?_ ?_ ?_ ?_ ?_ h
  · exact .non
  · exact fun b => .bl b
  · exact fun i => .int i
  · exact fun x => .str x
  · exact fun n => .ty n
  · exact fun h _ r => .tup (e _ _ h) r
  · exact fun h _ r => .lst (e _ _ h) r
  · exact fun h _ r => .fix (e.seq h) r
  · exact fun h k _ r => .dicK (e _ _ h) k r
  · exact fun h k _ r => .dicT (e _ _ h) k r
  · exact fun h k _ _ r q => .dicN (e _ _ h) k r q
  · exact .nil
  · exact fun _ _ r1 r2 => .cons r1 r2
theorem RpAll.mono (e : Same F F') : ∀ {vs : List V} {ds : List D}, RpAll K F vs ds → RpAll K F' vs ds
  | _, _, .nil => .nil
  | _, _, .cons a b => .cons (a.mono e) (b.mono e)
theorem RpAll.length : ∀ {vs : List V} {ds : List D}, RpAll K F vs ds → vs.length = ds.length
  | _, _, .nil => rfl
  | _, _, .cons _ b => by rw [List.length_cons, List.length_cons, b.length]
theorem RpAll.append : ∀ {vs ws : List V} {ds es : List D}, RpAll K F vs ds → RpAll K F ws es → RpAll K F (vs ++ ws) (ds ++ es)
  | _, _, _, _, .nil, h => h
  | _, _, _, _, .cons a b, h => .cons a (b.append h)
theorem RpAll.snoc {vs : List V} {ds : List D} {v : V} {d : D} (h : RpAll K F vs ds) (q : Rp K F v d) : RpAll K F (vs ++ [v]) (ds ++ [d]) := h.append (.cons q .nil)
theorem RpAll.get : ∀ {vs : List V} {ds : List D} {i : Nat} {d : D}, RpAll K F vs ds → ds[i]? = some d → ∃ v, vs[i]? = some v ∧ Rp K F v d
  | _, _, _, _, .nil, e => by simp at e
  | _, _, 0, _, .cons r _, e => by simp at e; subst e; exact ⟨_, rfl, r⟩
  | _, _, i + 1, d, .cons _ t, e => by
    obtain ⟨u, h1, h2⟩ := RpAll.get (i := i) (d := d) t (by simpa using e)
    exact ⟨u, by simpa using h1, h2⟩
theorem RpAll.getV : ∀ {vs : List V} {ds : List D} {i : Nat} {v : V}, RpAll K F vs ds → vs[i]? = some v → ∃ d, ds[i]? = some d ∧ Rp K F v d
  | _, _, _, _, .nil, e => by simp at e
  | _, _, 0, _, .cons r _, e => by simp at e; subst e; exact ⟨_, rfl, r⟩
  | _, _, i + 1, d, .cons _ t, e => by
    obtain ⟨u, h1, h2⟩ := RpAll.getV (i := i) (v := d) t (by simpa using e)
    exact ⟨u, by simpa using h1, h2⟩
theorem RpAll.set {v : V} {d : D} (r : Rp K F v d) : ∀ {xs : List V} {us : List D} (i : Nat), RpAll K F xs us → RpAll K F (xs.set i v) (us.set i d)
  | _, _, _, .nil => .nil
  | _, _, 0, .cons _ t => .cons r t
  | _, _, i + 1, .cons q t => .cons q (RpAll.set r i t)
theorem RpAll.reverse {vs : List V} {ds : List D} (h : RpAll K F vs ds) : RpAll K F vs.reverse ds.reverse := by
  induction vs generalizing ds with
  | nil => cases h; exact .nil
  | cons v vs ih => cases h with | cons a b => rw [List.reverse_cons, List.reverse_cons]; exact (ih b).snoc a
theorem RpAll.take : ∀ {vs : List V} {ds : List D} (n : Nat), RpAll K F vs ds → RpAll K F (vs.take n) (ds.take n)
  | _, _, 0, _ => .nil
  | _, _, _ + 1, .nil => .nil
  | _, _, n + 1, .cons a b => .cons a (b.take n)
theorem RpAll.drop : ∀ {vs : List V} {ds : List D} (n : Nat), RpAll K F vs ds → RpAll K F (vs.drop n) (ds.drop n)
  | _, _, 0, h => h
  | _, _, _ + 1, .nil => .nil
  | _, _, n + 1, .cons _ b => b.drop n
theorem RpAll.ints : ∀ {vs : List V} {ns : List Int}, RpAll K F vs (ns.map D.int) → vs = ns.map V.int
  | _, [], .nil => rfl
  | _, _ :: _, .cons (.int _) b => by rw [RpAll.ints b]; rfl
theorem RpAll.of_ints : ∀ (ns : List Int), RpAll K F (ns.map V.int) (ns.map D.int)
  | [] => .nil
  | n :: ns => .cons (.int n) (RpAll.of_ints ns)
end

/-! ### slots -/
/-- a slot holds nothing, a value, an object of its own, a thing that is only read here and stays as it is, or the exception at a -/
inductive Slot where
  | emp | val (d : D) | own (d : D) | rd (d : D) | adr (a : Addr)
abbrev Rho := List Slot
/-- what an owned object holds -/
inductive Ro (K : PySem.W.Frag) (F : Hp) : Addr → HO → D → Prop
  | lst {p : Addr} {xs : List V} {ds : List D} : RpAll K F xs ds → Ro K F p (.lst xs) (.lst ds)
  | dicK {p : Addr} {z : Bool} {o : Obj} {kvs : List (Key × V)} {es : List (Key × D)} : kvs.map (·.1) = es.map (·.1) → RpAll K F (kvs.map (·.2)) (es.map (·.2)) → Ro K F p (frzIf z o (.dK kvs)) (.dicK z es)
  | dicT {p : Addr} {z : Bool} {o : Obj} {kvs : List (List Key × V)} {es : List (List Key × D)} : kvs.map (·.1) = es.map (·.1) → RpAll K F (kvs.map (·.2)) (es.map (·.2)) → Ro K F p (frzIf z o (.dT kvs)) (.dicT z es)
  | dicN {p : Addr} {z : Bool} {o : Obj} {kvs : List (NestedKey × Addr × V)} {es : List (D × D)} : kvs.map (fun e => some e.1) = es.map (fun e => nkD e.1) → RpAll K F (kvs.map fun e => V.ref e.2.1) (es.map (·.1)) → RpAll K F (kvs.map fun e => e.2.2) (es.map (·.2)) → Ro K F p (frzIf z o (.ext (NDict p kvs))) (.dicN z es)
theorem Ro.mono {K : PySem.W.Frag} {F F' : Hp} (e : Same F F') {p : Addr} {o : HO} {d : D} : Ro K F p o d → Ro K F' p o d
  | .lst r => .lst (r.mono e)
  | .dicK k r => .dicK k (r.mono e)
  | .dicT k r => .dicT k (r.mono e)
  | .dicN k r q => .dicN k (r.mono e) (q.mono e)

/-- not a tuple: a tuple that is tracked may become known at any time -/
def NTup (o : HO) : Prop := ∀ xs, o ≠ .tup xs
theorem nt_lst {xs : List V} : NTup (.lst xs) := fun _ h => by cases h
theorem Ro.nt {K : PySem.W.Frag} {F : Hp} {p : Addr} {o : HO} {d : D} : Ro K F p o d → NTup o
  | .lst _ => fun _ h => nomatch h
  | .dicK (z := z) _ _ => fun xs h => by cases z <;> exact nomatch h
  | .dicT (z := z) _ _ => fun xs h => by cases z <;> exact nomatch h
  | .dicN (z := z) _ _ _ => fun xs h => by cases z <;> exact nomatch h

/-- what can be read: a value, or an object that is not frozen -/
def nofx : D → Bool
  | .fix _ => false
  | _ => true
theorem rp_at {K : PySem.W.Frag} {F : Hp} {p : Addr} {d : D} (h : Rp K F (.ref p) d) (n : nofx d = true) (e : F p = none) : False := by
  cases h with
  | tup h _ => rw [e] at h; cases h
  | lst h _ => rw [e] at h; cases h
  | fix _ _ => cases n
  | dicK h _ _ => rw [e] at h; cases h
  | dicT h _ _ => rw [e] at h; cases h
  | dicN h _ _ _ => rw [e] at h; cases h
inductive Ra (K : PySem.W.Frag) (F H : Hp) : V → D → Prop
  | val {v : V} {d : D} : Rp K F v d → nofx d = true → Ra K F H v d
  | own {p : Addr} {o : HO} {d : D} : F p = none → H p = some o → Ro K F p o d → Ra K F H (.ref p) d
inductive SRel (K : PySem.W.Frag) (F H : Hp) : Slot → Option V → Prop
  | emp {o : Option V} : SRel K F H .emp o
  | val {v : V} {d : D} : Rp K F v d → SRel K F H (.val d) (some v)
  | own {p : Addr} {o : HO} {d : D} : F p = none → H p = some o → Ro K F p o d → SRel K F H (.own d) (some (.ref p))
  | rd {v : V} {d : D} : Ra K F H v d → SRel K F H (.rd d) (some v)
  | adr {a : Addr} : SRel K F H (.adr a) (some (.ref a))
theorem Ra.step {K : PySem.W.Frag} {F H F' H' : Hp} {v : V} {d : D} (ex : Same F F') (k : ∀ p u, NTup u → v = .ref p → H p = some u → F p = none → H' p = some u ∧ F' p = none) : Ra K F H v d → Ra K F' H' v d
  | .val r n => .val (r.mono ex) n
  | .own h1 h2 h3 => .own (k _ _ h3.nt rfl h2 h1).2 (k _ _ h3.nt rfl h2 h1).1 (h3.mono ex)
theorem SRel.step {K : PySem.W.Frag} {F H F' H' : Hp} {s : Slot} {o : Option V} (ex : Same F F') (k : ∀ p u, NTup u → o = some (.ref p) → H p = some u → F p = none → H' p = some u ∧ F' p = none) : SRel K F H s o → SRel K F' H' s o
  | .emp => .emp
  | .val r => .val (r.mono ex)
  | .own h1 h2 h3 => .own (k _ _ h3.nt rfl h2 h1).2 (k _ _ h3.nt rfl h2 h1).1 (h3.mono ex)
  | .rd r => .rd (r.step ex fun p u n e => k p u n (by rw [e]))
  | .adr => .adr
def Own (ρ : Rho) (σ : L2.St) (p : Addr) : Prop := ∃ (i : Nat) (d : D), ρ[i]? = some (Slot.own d) ∧ σ[i]? = some (some (V.ref p))
structure Rel (K : PySem.W.Frag) (F H : Hp) (ρ : Rho) (σ : L2.St) : Prop where
  ex : Same F H
  len : ρ.length = σ.length
  at' : ∀ (i : Nat) (s : Slot) (o : Option V), ρ[i]? = some s → σ[i]? = some o → SRel K F H s o
  dis : ∀ (i j : Nat) (d e : D) (p : Addr), ρ[i]? = some (Slot.own d) → ρ[j]? = some (Slot.own e) → σ[i]? = some (some (V.ref p)) → σ[j]? = some (some (V.ref p)) → i = j
  rdis : ∀ (i : Nat) (d : D) (p : Addr), ρ[i]? = some (Slot.rd d) → σ[i]? = some (some (V.ref p)) → ¬ Own ρ σ p
structure Go (K : PySem.W.Frag) (ρ : Rho) (σ : L2.St) (F H : Hp) (ρ' : Rho) (σ' : L2.St) (F' H' : Hp) : Prop where
  rel : Rel K F' H' ρ' σ'
  ex : Same F F'
  keep : ∀ a o, H a = some o → F a = none → ¬ Own ρ σ a → H' a = some o ∧ (NTup o → F' a = none)
  own : ∀ p, Own ρ' σ' p → Own ρ σ p ∨ H p = none
  low : σ'[0]? = σ[0]?
  lowO : ∀ d : D, ρ[0]? = some (Slot.own d) → ∃ d' : D, ρ'[0]? = some (Slot.own d')
  rdb : ∀ (i : Nat) (d : D), ρ'[i]? = some (Slot.rd d) → ρ[i]? = some (Slot.rd d) ∧ σ'[i]? = σ[i]?
section
variable {K : PySem.W.Frag} {F H F1 H1 F2 H2 : Hp} {ρ ρ1 ρ2 : Rho} {σ σ1 σ2 : L2.St}
theorem Go.refl (r : Rel K F H ρ σ) : Go K ρ σ F H ρ σ F H := ⟨r, Same.refl F, fun _ _ h1 h2 _ => ⟨h1, fun _ => h2⟩, fun _ h => .inl h, rfl, fun d h => ⟨d, h⟩, fun _ _ h => ⟨h, rfl⟩⟩
theorem Go.trans (r : Rel K F H ρ σ) (a : Go K ρ σ F H ρ1 σ1 F1 H1) (b : Go K ρ1 σ1 F1 H1 ρ2 σ2 F2 H2) : Go K ρ σ F H ρ2 σ2 F2 H2 where
  rel := b.rel
  ex := a.ex.trans b.ex
  keep := fun p o h1 h2 h3 => by
    obtain ⟨q1, q2⟩ := a.keep p o h1 h2 h3
    have no : ¬ Own ρ1 σ1 p := fun z => by
      rcases a.own p z with z | z
      · exact h3 z
      · rw [h1] at z; cases z
    cases qf : F1 p with
    | none =>
      obtain ⟨k1, k2⟩ := b.keep p o q1 qf no
      exact ⟨k1, k2⟩
    | some u =>
      have e1 := a.rel.ex p u qf
      rw [q1] at e1
      cases e1
      exact ⟨b.rel.ex p o (b.ex p o qf), fun n => by rw [q2 n] at qf; cases qf⟩
  own := fun p h => by
    rcases b.own p h with h | h
    · exact a.own p h
    · cases q : H p with
      | none => exact .inr rfl
      | some o =>
        refine .inl ?_
        cases qf : F p with
        | some u =>
          have := (a.rel.ex) p u (a.ex p u qf)
          rw [h] at this; cases this
        | none =>
          refine Classical.byContradiction fun z => ?_
          have := (a.keep p o q qf z).1
          rw [h] at this; cases this
  low := b.low.trans a.low
  lowO := fun d h => by
    obtain ⟨d1, h1⟩ := a.lowO d h
    exact b.lowO d1 h1
  rdb := fun i d h => by
    obtain ⟨h1, h2⟩ := b.rdb i d h
    obtain ⟨h3, h4⟩ := a.rdb i d h1
    exact ⟨h3, h2.trans h4⟩
/-- all that was known is as it was -/
theorem Go.sameH (r : Rel K F H ρ σ) (a : Go K ρ σ F H ρ1 σ1 F1 H1) {p : Addr} {o : HO} (h : H p = some o) (hn : ¬ Own ρ σ p) : H1 p = some o := by
  cases qf : F p with
  | some u =>
    have e1 := r.ex p u qf
    rw [h] at e1
    cases e1
    exact a.rel.ex p o (a.ex p o qf)
  | none => exact (a.keep p o h qf hn).1
theorem Rel.val {i : Nat} {d : D} (r : Rel K F H ρ σ) (h : ρ[i]? = some (.val d)) : ∃ v, σ[i]? = some (some v) ∧ Rp K F v d := by
  have hi : i < ρ.length := by
    cases Nat.lt_or_ge i ρ.length with
    | inl z => exact z
    | inr z => rw [List.getElem?_eq_none z] at h; cases h
  have hs : i < σ.length := r.len ▸ hi
  have e := r.at' i _ _ h (List.getElem?_eq_getElem hs)
  rw [List.getElem?_eq_getElem hs]
  cases q : σ[i] with
  | none => rw [q] at e; cases e
  | some v => rw [q] at e; cases e with | val e => exact ⟨v, rfl, e⟩
theorem Rel.own {i : Nat} {d : D} (r : Rel K F H ρ σ) (h : ρ[i]? = some (.own d)) : ∃ p o, σ[i]? = some (some (.ref p)) ∧ F p = none ∧ H p = some o ∧ Ro K F p o d := by
  have hi : i < ρ.length := by
    cases Nat.lt_or_ge i ρ.length with
    | inl z => exact z
    | inr z => rw [List.getElem?_eq_none z] at h; cases h
  have hs : i < σ.length := r.len ▸ hi
  have e := r.at' i _ _ h (List.getElem?_eq_getElem hs)
  rw [List.getElem?_eq_getElem hs]
  cases q : σ[i] with
  | none => rw [q] at e; cases e
  | some v => rw [q] at e; cases e with | own e1 e2 e3 => exact ⟨_, _, rfl, e1, e2, e3⟩
end

/-- what slot i holds can be read -/
def rdD (i : Nat) (ρ : Rho) : Option D := match ρ[i]? with
  | some (.own d) => some d
  | some (.rd d) => some d
  | _ => none
theorem Rel.rd {K : PySem.W.Frag} {F H : Hp} {ρ : Rho} {σ : L2.St} {i : Nat} {d : D} (r : Rel K F H ρ σ) (h : rdD i ρ = some d) : ∃ v, σ[i]? = some (some v) ∧ Ra K F H v d := by
  unfold rdD at h
  have look : ∀ s, ρ[i]? = some s → ∃ o, σ[i]? = some o ∧ SRel K F H s o := fun s hs => by
    have hi : i < ρ.length := by
      cases Nat.lt_or_ge i ρ.length with
      | inl z => exact z
      | inr z => rw [List.getElem?_eq_none z] at hs; cases hs
    have hs2 : i < σ.length := r.len ▸ hi
    exact ⟨_, List.getElem?_eq_getElem hs2, r.at' i _ _ hs (List.getElem?_eq_getElem hs2)⟩
  split at h
  · rename_i e
    cases h
    obtain ⟨o, h1, h2⟩ := look _ e
    cases h2 with
    | own a b c => exact ⟨_, h1, .own a b c⟩
  · rename_i e
    cases h
    obtain ⟨o, h1, h2⟩ := look _ e
    cases h2 with
    | rd a => exact ⟨_, h1, a⟩
  · cases h

/-! ### growth by new objects -/
structure Gr (F H F' H' : Hp) : Prop where
  ex : Same F F'
  exH : Same H H'
  sub : Same F' H'
  keep : ∀ a o, NTup o → H a = some o → F a = none → F' a = none
section
variable {K : PySem.W.Frag} {F H F1 H1 F2 H2 : Hp} {ρ : Rho} {σ : L2.St}
theorem Gr.refl (e : Same F H) : Gr F H F H := ⟨Same.refl F, Same.refl H, e, fun _ _ _ _ h => h⟩
theorem Gr.trans (a : Gr F H F1 H1) (b : Gr F1 H1 F2 H2) : Gr F H F2 H2 := ⟨a.ex.trans b.ex, a.exH.trans b.exH, b.sub, fun p o n h1 h2 => b.keep p o n (a.exH p o h1) (a.keep p o n h1 h2)⟩
theorem SRel.gr {s : Slot} {o : Option V} (g : Gr F H F1 H1) (h : SRel K F H s o) : SRel K F1 H1 s o := h.step g.ex fun p u n _ h1 h2 => ⟨g.exH p u h1, g.keep p u n h1 h2⟩
theorem Ra.gr {v : V} {d : D} (g : Gr F H F1 H1) (h : Ra K F H v d) : Ra K F1 H1 v d := h.step g.ex fun p u n _ h1 h2 => ⟨g.exH p u h1, g.keep p u n h1 h2⟩
theorem Rel.gr (g : Gr F H F1 H1) (r : Rel K F H ρ σ) : Rel K F1 H1 ρ σ := ⟨g.sub, r.len, fun i s o h1 h2 => (r.at' i s o h1 h2).gr g, r.dis, r.rdis⟩
theorem Gr.go (g : Gr F H F1 H1) (r : Rel K F H ρ σ) : Go K ρ σ F H ρ σ F1 H1 := ⟨r.gr g, g.ex, fun p o h1 h2 _ => ⟨g.exH p o h1, fun n => g.keep p o n h1 h2⟩, fun _ h => .inl h, rfl, fun d h => ⟨d, h⟩, fun _ _ h => ⟨h, rfl⟩⟩
/-- a new frozen object -/
theorem Gr.new {p : Addr} {o : HO} (e : Same F H) (hp : H p = none) : Gr F H (upd F p o) (upd H p o) := by
  have hf : F p = none := e.free hp
  refine ⟨fun b u h => by rw [upd_ne (ne_of_none h hf)]; exact h, fun b u h => by rw [upd_ne (ne_of_none h hp)]; exact h, fun b u h => ?_, fun a u _ h1 h2 => by rw [upd_ne (ne_of_none h1 hp)]; exact h2⟩
  by_cases hb : b = p
  · subst hb; rw [upd_same] at h ⊢; exact h
  · rw [upd_ne hb] at h ⊢; exact e b u h
/-- a new object, not frozen -/
theorem Gr.newO {p : Addr} {o : HO} (e : Same F H) (hp : H p = none) : Gr F H F (upd H p o) := by
  refine ⟨Same.refl F, fun b u h => by rw [upd_ne (ne_of_none h hp)]; exact h, fun b u h => by rw [upd_ne (ne_of_none (e b u h) hp)]; exact e b u h, fun a u _ h1 h2 => h2⟩
end

/-! ### results -/
inductive Res (α : Type) where
  | ok (a : α) (ρ : Rho) | exc (c : String) (ρ : Rho) | bad
def Res.bind {α β : Type} (r : Res α) (f : α → Rho → Res β) : Res β := match r with
  | .ok a ρ => f a ρ
  | .exc c ρ => .exc c ρ
  | .bad => .bad
abbrev XV := Rho → Res D
abbrev XT := Rho → Res Bool
abbrev XA := Rho → Res (List D)
/-- the wish of exceptions -/
abbrev EW := String → L2.St → Hp → Prop

section
variable (K : PySem.W.Frag) (E : EW)
/-- what is asked of an expression that does t -/
def Pend {α : Type} (t : Rho → Res α) (ρ : Rho) (σ : L2.St) (F H : Hp) (Q : α → Rho → Hp → Hp → Prop) : Prop := match t ρ with
  | .ok a ρ' => ∀ F' H', Go K ρ σ F H ρ' σ F' H' → Q a ρ' F' H'
  | .exc c ρ' => ∀ F' H', Go K ρ σ F H ρ' σ F' H' → E c σ H'
  | .bad => False
def lE (t : XV) : TE := fun σ H Q => ∃ F ρ, Rel K F H ρ σ ∧ Pend K E t ρ σ F H fun d _ F' H' => ∀ v, Rp K F' v d → Q v H'
def lT (t : XT) : TT := fun σ H Q => ∃ F ρ, Rel K F H ρ σ ∧ Pend K E t ρ σ F H fun b _ _ H' => Q b H'
def lA (t : XA) : TA := fun σ H Q => ∃ F ρ, Rel K F H ρ σ ∧ Pend K E t ρ σ F H fun ds _ F' H' => ∀ vs, RpAll K F' vs ds → Q vs H'
/-- a new object: it is known, not frozen, owned by none -/
def lN (t : XV) : TE := fun σ H Q => ∃ F ρ, Rel K F H ρ σ ∧ Pend K E t ρ σ F H fun d ρ' F' H' => ∀ p o, F' p = none → H' p = some o → Ro K F' p o d → ¬ Own ρ' σ p → (Own ρ σ p ∨ H p = none) → Q (.ref p) H'
end
section
variable {K : PySem.W.Frag} {E : EW} {σ : L2.St} {F H : Hp} {ρ : Rho}
theorem Pend.mono {α : Type} {t : Rho → Res α} {Q Q' : α → Rho → Hp → Hp → Prop} (h : Pend K E t ρ σ F H Q) (k : ∀ a ρ' F' H', Go K ρ σ F H ρ' σ F' H' → Q a ρ' F' H' → Q' a ρ' F' H') : Pend K E t ρ σ F H Q' := by
  unfold Pend at h ⊢
  split <;> rename_i e <;> rw [e] at h
  · exact fun F' H' g => k _ _ _ _ g (h F' H' g)
  · exact h
  · exact h
/-- one after another -/
theorem Pend.bind {α β : Type} {t : Rho → Res α} {f : α → Rho → Res β} {Q : β → Rho → Hp → Hp → Prop} (r : Rel K F H ρ σ) (h : Pend K E (fun ρ => (t ρ).bind f) ρ σ F H Q) :
    Pend K E t ρ σ F H fun a ρ1 F1 H1 => Pend K E (f a) ρ1 σ F1 H1 Q := by
  unfold Pend at h ⊢
  split <;> rename_i e <;> simp only [e, Res.bind] at h
  · intro F1 H1 g
    split <;> rename_i e2 <;> rw [e2] at h
    · exact fun F2 H2 g2 => h F2 H2 (g.trans r g2)
    · exact fun F2 H2 g2 => h F2 H2 (g.trans r g2)
    · exact h
  · exact h
theorem Pend.ok {α : Type} {a : α} {ρ' : Rho} {t : Rho → Res α} {Q : α → Rho → Hp → Hp → Prop} (h : Pend K E t ρ σ F H Q) (e : t ρ = .ok a ρ') : ∀ F' H', Go K ρ σ F H ρ' σ F' H' → Q a ρ' F' H' := by
  unfold Pend at h
  rw [e] at h
  exact h
end
end G

namespace G
open PySem PySem.Spec PyProof.Rows L2

/-! ### weakening -/
section
variable {X : Cx}
theorem pe_imp {e : Expr} {t t' : TE} (h : PE X e t) (k : ∀ σ H Q, t' σ H Q → t σ H Q) : PE X e t' := ⟨fun pins s σ H Q I q => h.run pins s σ H Q I (k σ H Q q)⟩
theorem pt_imp {e : Expr} {t t' : TT} (h : PT X e t) (k : ∀ σ H Q, t' σ H Q → t σ H Q) : PT X e t' := ⟨fun pins s σ H Q I q => h.run pins s σ H Q I (k σ H Q q)⟩
theorem pa_imp {e : List Expr} {t t' : TA} (h : PA X e t) (k : ∀ σ H Q, t' σ H Q → t σ H Q) : PA X e t' := ⟨fun pos pins s σ H Q I q => h.run pos pins s σ H Q I (k σ H Q q)⟩
theorem ps_imp {e : Stmt} {t t' : TS} (h : PS X e t) (k : ∀ D σ H, t' D σ H → t D σ H) : PS X e t' := ⟨fun pins s σ H D I q => h.run pins s σ H D I (k D σ H q)⟩
theorem pss_imp {e : List Stmt} {t t' : TS} (h : PSs X e t) (k : ∀ D σ H, t' D σ H → t D σ H) : PSs X e t' := ⟨fun pins s σ H D I q => h.run pins s σ H D I (k D σ H q)⟩
end
section
variable {K : PySem.W.Frag} {E : EW} {σ : L2.St} {F H : Hp} {ρ : Rho}
theorem ro_rp {p : Addr} {o : HO} {d : D} (hf : F p = none) (ro : Ro K F p o d) : Rp K (upd F p o) (.ref p) d := by
  have hs : Same F (upd F p o) := fun b u q => by rw [upd_ne (ne_of_none q hf)]; exact q
  cases ro with
  | lst r => exact .lst upd_same (r.mono hs)
  | dicK k r => exact .dicK upd_same k (r.mono hs)
  | dicT k r => exact .dicT upd_same k (r.mono hs)
  | dicN k r q2 => exact .dicN upd_same k (r.mono hs) (q2.mono hs)
/-- a new object, taken as it is -/
theorem lE_of_lN {t : XV} {Q : VK} (h : lE K E t σ H Q) : lN K E t σ H Q := by
  obtain ⟨F, ρ, r, p⟩ := h
  refine ⟨F, ρ, r, ?_⟩
  unfold Pend at p ⊢
  split <;> rename_i e <;> rw [e] at p
  · rename_i d ρ'
    intro F1 H1 g a o hf hh ro hn hw
    refine p (upd F1 a o) H1 ?_ (.ref a) ?_
    · refine ⟨⟨fun b u q => ?_, g.rel.len, fun i s v h1 h2 => ?_, g.rel.dis, g.rel.rdis⟩, fun b u q => ?_, fun b u h1 h2 h3 => ?_, g.own, g.low, g.lowO, g.rdb⟩
      · by_cases hb : b = a
        · subst hb; rw [upd_same] at q; rw [hh]; exact q
        · rw [upd_ne hb] at q; exact g.rel.ex b u q
      · have hs : Same F1 (upd F1 a o) := fun b u q => by rw [upd_ne (ne_of_none q hf)]; exact q
        have z := g.rel.at' i s v h1 h2
        cases z with
        | emp => exact .emp
        | adr => exact .adr
        | val rp => exact .val (rp.mono hs)
        | own z1 z2 z3 =>
          refine .own ?_ z2 (z3.mono hs)
          rw [upd_ne]
          · exact z1
          · rintro rfl
            exact hn ⟨i, _, h1, h2⟩
        | rd ra =>
          cases ra with
          | val rp nf => exact .rd (.val (rp.mono hs) nf)
          | @own p u _ z1 z2 z3 =>
            by_cases hp : p = a
            · subst hp
              rw [hh] at z2
              cases z2
              exact .rd (.val (ro_rp hf z3) (by cases z3 <;> rfl))
            · exact .rd (.own (by rw [upd_ne hp]; exact z1) z2 (z3.mono hs))
      · have q' := g.ex b u q
        rw [upd_ne (ne_of_none q' hf)]
        exact q'
      · obtain ⟨q1, q2⟩ := g.keep b u h1 h2 h3
        refine ⟨q1, ?_⟩
        rw [upd_ne]
        · exact q2
        · rintro rfl
          rcases hw with hw | hw
          · exact h3 hw
          · rw [h1] at hw; cases hw
    · have hs : Same F1 (upd F1 a o) := fun b u q => by rw [upd_ne (ne_of_none q hf)]; exact q
      cases ro with
      | lst r => exact .lst upd_same (r.mono hs)
      | dicK k r => exact .dicK upd_same k (r.mono hs)
      | dicT k r => exact .dicT upd_same k (r.mono hs)
      | dicN k r q2 => exact .dicN upd_same k (r.mono hs) (q2.mono hs)
  · exact p
  · exact p
end
section
variable {X : Cx} {E : EW} {a b : Expr} {pos : Pos} {ta tb : XV}
theorem of_new {e : Expr} {t : XV} (h : PE X e (lN X.K E t)) : PE X e (lE X.K E t) := pe_imp h fun _ _ _ q => lE_of_lN q

/-! ### names, constants -/
def xVar (i : Nat) : XV := fun ρ => match ρ[i]? with
  | some (.val d) => .ok d ρ
  | _ => .bad
def xC (d : D) : XV := fun ρ => .ok d ρ
/-- an owned name, given away -/
def xTake (i : Nat) : XV := fun ρ => match ρ[i]? with
  | some (.own d) => .ok d (ρ.set i .emp)
  | _ => .bad
theorem xe_var (i : Nat) {x : Str} (hN : X.N[i]? = some x := by rfl) (hv : Vis X.env.scope x := by first | exact Or.inl rfl | exact Or.inr (Or.inl rfl) | exact Or.inr (Or.inr rfl)) (hd : (x == ("__debug__" : Str)) = false := by decide)
    (hcd : (x == ("__classdict__" : Str)) = false := by decide) : PE X (.Name x pos) (lE X.K E (xVar i)) := by
  refine pe_imp (pe_var hN hv hd hcd) fun σ H Q h => ?_
  obtain ⟨F, ρ, r, p⟩ := h
  unfold Pend xVar at p
  split at p <;> rename_i e
  · split at e
    · rename_i q
      cases e
      obtain ⟨v, h1, h2⟩ := r.val q
      exact ⟨v, h1, p F H (Go.refl r) v h2⟩
    · cases e
  · split at e <;> cases e
  · exact p.elim
theorem xe_const {e : Expr} {v : V} {d : D} (h : PE X e (tC v)) (hr : ∀ F, Rp X.K F v d) : PE X e (lE X.K E (xC d)) := by
  refine pe_imp h fun σ H Q h => ?_
  obtain ⟨F, ρ, r, p⟩ := h
  exact p F H (Go.refl r) v (hr F)
theorem xe_int {i : Int} {j : Nat} : PE X (.Constant (.int i) j pos) (lE X.K E (xC (.int i))) := xe_const pe_int fun _ => .int i
theorem xe_bl {i : Bool} {j : Nat} : PE X (.Constant (.bool i) j pos) (lE X.K E (xC (.bl i))) := xe_const pe_bl fun _ => .bl i
theorem xe_str {i : Str} {j : Nat} : PE X (.Constant (.str i) j pos) (lE X.K E (xC (.str i))) := xe_const pe_str fun _ => .str i
theorem xe_non {j : Nat} : PE X (.Constant .none j pos) (lE X.K E (xC .non)) := xe_const pe_non fun _ => .non
theorem xn_take (i : Nat) {x : Str} (h0 : i ≠ 0 := by decide) (hN : X.N[i]? = some x := by rfl) (hv : Vis X.env.scope x := by first | exact Or.inl rfl | exact Or.inr (Or.inl rfl) | exact Or.inr (Or.inr rfl)) (hd : (x == ("__debug__" : Str)) = false := by decide)
    (hcd : (x == ("__classdict__" : Str)) = false := by decide) : PE X (.Name x pos) (lN X.K E (xTake i)) := by
  refine pe_imp (pe_var hN hv hd hcd) fun σ H Q h => ?_
  obtain ⟨F, ρ, r, p⟩ := h
  unfold Pend xTake at p
  split at p <;> rename_i e
  · split at e
    · rename_i d q
      injection e with e1 e2
      subst e1 e2
      obtain ⟨b, o, h1, h2, h3, h4⟩ := r.own q
      have hi : i < ρ.length := by
        cases Nat.lt_or_ge i ρ.length with
        | inl z => exact z
        | inr z => rw [List.getElem?_eq_none z] at q; cases q
      have sub : ∀ p, Own (ρ.set i .emp) σ p → Own ρ σ p ∧ (σ[i]? = some (some (V.ref p)) → False) := by
        rintro c ⟨j, e, z1, z2⟩
        have hj : i ≠ j := by
          rintro rfl
          rw [List.getElem?_set_self hi] at z1; cases z1
        rw [List.getElem?_set_ne hj] at z1
        exact ⟨⟨j, e, z1, z2⟩, fun z => hj (r.dis i j d e c q z1 z z2)⟩
      have rdn : ∀ (j : Nat) (d : D), (ρ.set i .emp)[j]? = some (.rd d) → ρ[j]? = some (.rd d) := fun j d z => by
        by_cases hj : i = j
        · subst hj
          rw [List.getElem?_set_self hi] at z; cases z
        · rw [List.getElem?_set_ne hj] at z; exact z
      refine ⟨.ref b, h1, p F H ⟨⟨r.ex, by rw [List.length_set]; exact r.len, fun j s v z1 z2 => ?_, fun j k d1 d2 c z1 z2 z3 z4 => ?_, fun j d c z1 z2 z3 => r.rdis j d c (rdn j d z1) z2 (sub c z3).1⟩, Same.refl F, fun _ _ q1 q2 _ => ⟨q1, fun _ => q2⟩, fun c z => .inl (sub c z).1, rfl, fun d z => ⟨d, by rw [List.getElem?_set_ne h0]; exact z⟩, fun j d z => ⟨rdn j d z, rfl⟩⟩ b o h2 h3 h4 (fun z => (sub b z).2 h1) (.inl ⟨i, d, q, h1⟩)⟩
      · by_cases hj : i = j
        · subst hj
          rw [List.getElem?_set_self hi] at z1
          cases z1
          exact .emp
        · rw [List.getElem?_set_ne hj] at z1
          exact r.at' j s v z1 z2
      · have g1 : i ≠ j := by
          rintro rfl
          rw [List.getElem?_set_self hi] at z1; cases z1
        have g2 : i ≠ k := by
          rintro rfl
          rw [List.getElem?_set_self hi] at z2; cases z2
        rw [List.getElem?_set_ne g1] at z1
        rw [List.getElem?_set_ne g2] at z2
        exact r.dis j k d1 d2 c z1 z2 z3 z4
    · cases e
  · split at e <;> cases e
  · exact p.elim

/-! ### operators by values -/
/-- what comes out: a value, or a new object -/
def OutV (K : PySem.W.Frag) (F H : Hp) (d : D) (Q : VK) : Prop := ∀ v F' H', Gr F H F' H' → Rp K F' v d → Q v H'
def OutN (K : PySem.W.Frag) (F H : Hp) (d : D) (Q : VK) : Prop := ∀ p o F' H', Gr F H F' H' → H p = none → F' p = none → H' p = some o → Ro K F' p o d → Q (.ref p) H'
theorem OutV.n {K : PySem.W.Frag} {F H : Hp} {d : D} {Q : VK} (h : OutV K F H d Q) : OutN K F H d Q := fun p o F' H' g hp hf hh ro => by
  have hs : Same F' (upd F' p o) := fun b u q => by rw [upd_ne (ne_of_none q hf)]; exact q
  refine h (.ref p) (upd F' p o) H' ⟨g.ex.trans hs, g.exH, fun b u q => ?_, fun b u hn h1 h2 => ?_⟩ ?_
  · by_cases hb : b = p
    · subst hb; rw [upd_same] at q; rw [hh]; exact q
    · rw [upd_ne hb] at q; exact g.sub b u q
  · rw [upd_ne (ne_of_none h1 hp)]; exact g.keep b u hn h1 h2
  · cases ro with
    | lst r => exact .lst upd_same (r.mono hs)
    | dicK k r => exact .dicK upd_same k (r.mono hs)
    | dicT k r => exact .dicT upd_same k (r.mono hs)
    | dicN k r q2 => exact .dicN upd_same k (r.mono hs) (q2.mono hs)
theorem OutV.here {K : PySem.W.Frag} {F H : Hp} {d : D} {Q : VK} {v : V} (h : OutV K F H d Q) (e : Same F H) (r : Rp K F v d) : Q v H := h v F H (Gr.refl e) r
theorem OutV.new {K : PySem.W.Frag} {F H : Hp} {d : D} {Q : VK} {p : Addr} {o : HO} (h : OutV K F H d Q) (e : Same F H) (hp : H p = none) (r : Rp K (upd F p o) (.ref p) d) : Q (.ref p) (upd H p o) := h _ _ _ (Gr.new e hp) r
theorem OutN.new {K : PySem.W.Frag} {F H : Hp} {d : D} {Q : VK} {p : Addr} {o : HO} (h : OutN K F H d Q) (e : Same F H) (hp : H p = none) (r : Ro K F p o d) : Q (.ref p) (upd H p o) := h p o _ _ (Gr.newO e hp) hp (e.free hp) upd_same r

def Imp1 (K : PySem.W.Frag) (f : D → Option D) (r : V → Hp → VK → Prop) : Prop := ∀ F H v x d Q, Same F H → Rp K F v x → f x = some d → OutV K F H d Q → r v H Q
def Imp2 (K : PySem.W.Frag) (f : D → D → Option D) (r : R2) : Prop := ∀ F H v w x y d Q, Same F H → Rp K F v x → Rp K F w y → f x y = some d → OutV K F H d Q → r v w H Q
def Imp2N (K : PySem.W.Frag) (f : D → D → Option D) (r : R2) : Prop := ∀ F H v w x y d Q, Same F H → Rp K F v x → Rp K F w y → f x y = some d → OutN K F H d Q → r v w H Q
def ImpL (K : PySem.W.Frag) (f : List D → Option D) (r : List V → Hp → VK → Prop) : Prop := ∀ F H vs ds d Q, Same F H → RpAll K F vs ds → f ds = some d → OutV K F H d Q → r vs H Q
def ImpLN (K : PySem.W.Frag) (f : List D → Option D) (r : List V → Hp → VK → Prop) : Prop := ∀ F H vs ds d Q, Same F H → RpAll K F vs ds → f ds = some d → OutN K F H d Q → r vs H Q
def lift {α β : Type} (f : α → Option β) : α → Rho → Res β := fun a ρ => match f a with
  | some b => .ok b ρ
  | none => .bad
def xOp1 (f : D → Option D) (ta : XV) : XV := fun ρ => (ta ρ).bind (lift f)
def xOp2 (f : D → D → Option D) (ta tb : XV) : XV := fun ρ => (ta ρ).bind fun x ρ1 => (tb ρ1).bind (lift (f x))
def xOpL (f : List D → Option D) (ta : XA) : XV := fun ρ => (ta ρ).bind (lift f)
theorem Pend.lift {α β : Type} {K : PySem.W.Frag} {σ : L2.St} {F H : Hp} {ρ : Rho} {f : α → Option β} {x : α} {Q : β → Rho → Hp → Hp → Prop} (h : Pend K E (lift f x) ρ σ F H Q) : ∃ d, f x = some d ∧ ∀ F' H', Go K ρ σ F H ρ σ F' H' → Q d ρ F' H' := by
  unfold Pend G.lift at h
  cases q : f x with
  | none => rw [q] at h; exact h.elim
  | some d => rw [q] at h; exact ⟨d, rfl, h⟩
/-- the last step's end -/
theorem outV_of {K : PySem.W.Frag} {σ : L2.St} {F H : Hp} {ρ : Rho} {d : D} {Q : VK} (r : Rel K F H ρ σ) (h : ∀ F' H', Go K ρ σ F H ρ σ F' H' → ∀ v, Rp K F' v d → Q v H') : OutV K F H d Q := fun v F' H' g rv => h F' H' (g.go r) v rv
theorem not_own_new {K : PySem.W.Frag} {σ : L2.St} {F H : Hp} {ρ : Rho} {p : Addr} (r : Rel K F H ρ σ) (hp : H p = none) : ¬ Own ρ σ p := fun ⟨i, d, h1, h2⟩ => by
  obtain ⟨b, o, e1, _, e3, _⟩ := r.own h1
  rw [h2] at e1
  cases e1
  rw [hp] at e3; cases e3
theorem outN_of {K : PySem.W.Frag} {σ : L2.St} {F0 H0 F H : Hp} {ρ0 ρ : Rho} {d : D} {Q : VK} (r0 : Rel K F0 H0 ρ0 σ) (g0 : Go K ρ0 σ F0 H0 ρ σ F H) (h : ∀ F' H', Go K ρ σ F H ρ σ F' H' → ∀ p o, F' p = none → H' p = some o → Ro K F' p o d → ¬ Own ρ σ p → (Own ρ0 σ p ∨ H0 p = none) → Q (.ref p) H') : OutN K F H d Q :=
  fun p o F' H' g hp hf hh ro => h F' H' (g.go g0.rel) p o hf hh ro (not_own_new g0.rel hp) (by
    cases q : H0 p with
    | none => exact .inr rfl
    | some u =>
      by_cases hw : Own ρ0 σ p
      · exact .inl hw
      · have := g0.sameH r0 q hw
        rw [hp] at this; cases this)
theorem xe_op2R {op : Operator} {f : D → D → Option D} {r : R2} (ho : OpR X (binaryOp op) r) (hi : Imp2 X.K f r) (ha : PE X a (lE X.K E ta)) (hb : PE X b (lE X.K E tb)) : PE X (.BinOp a op b pos) (lE X.K E (xOp2 f ta tb)) := by
  refine pe_imp (pe_op ho ha hb) fun σ H Q h => ?_
  obtain ⟨F, ρ, r, p⟩ := h
  refine ⟨F, ρ, r, (Pend.bind r p).mono fun x ρ1 F1 H1 g1 q v rv => ⟨F1, ρ1, g1.rel, (Pend.bind g1.rel q).mono fun y ρ2 F2 H2 g2 q w rw => ?_⟩⟩
  obtain ⟨d, e, q⟩ := q.lift
  exact hi F2 H2 v w x y d Q g2.rel.ex (rv.mono g2.ex) rw e (outV_of g2.rel q)
theorem xn_op2R {op : Operator} {f : D → D → Option D} {r : R2} (ho : OpR X (binaryOp op) r) (hi : Imp2N X.K f r) (ha : PE X a (lE X.K E ta)) (hb : PE X b (lE X.K E tb)) : PE X (.BinOp a op b pos) (lN X.K E (xOp2 f ta tb)) := by
  refine pe_imp (pe_op ho ha hb) fun σ H Q h => ?_
  obtain ⟨F, ρ, r, p⟩ := h
  refine ⟨F, ρ, r, (Pend.bind r p).mono fun x ρ1 F1 H1 g1 q v rv => ⟨F1, ρ1, g1.rel, (Pend.bind g1.rel q).mono fun y ρ2 F2 H2 g2 q w rw => ?_⟩⟩
  obtain ⟨d, e, q⟩ := q.lift
  exact hi F2 H2 v w x y d Q g2.rel.ex (rv.mono g2.ex) rw e (outN_of r (g1.trans r g2) q)
theorem xe_un {op : UnaryOp} {f : D → Option D} {r : V → Hp → VK → Prop} (ho : UnR X (unaryOp op) r) (hi : Imp1 X.K f r) (ha : PE X a (lE X.K E ta)) : PE X (.UnaryOp op a pos) (lE X.K E (xOp1 f ta)) := by
  refine pe_imp (pe_un ho ha) fun σ H Q h => ?_
  obtain ⟨F, ρ, r, p⟩ := h
  refine ⟨F, ρ, r, (Pend.bind r p).mono fun x ρ1 F1 H1 g1 q v rv => ?_⟩
  obtain ⟨d, e, q⟩ := q.lift
  exact hi F1 H1 v x d Q g1.rel.ex rv e (outV_of g1.rel q)
theorem xe_cmp {op : CmpOp} {f : D → D → Option D} {r : R2} (ho : OpR X (compareOp op) r) (hi : Imp2 X.K f r) (ha : PE X a (lE X.K E ta)) (hb : PE X b (lE X.K E tb)) (hm : behindInMarks op b = false) : PE X (.Compare a [op] [b] pos) (lE X.K E (xOp2 f ta tb)) := by
  refine pe_imp (pe_cmpR ho ha hb hm) fun σ H Q h => ?_
  obtain ⟨F, ρ, r, p⟩ := h
  refine ⟨F, ρ, r, (Pend.bind r p).mono fun x ρ1 F1 H1 g1 q v rv => ⟨F1, ρ1, g1.rel, (Pend.bind g1.rel q).mono fun y ρ2 F2 H2 g2 q w rw => ?_⟩⟩
  obtain ⟨d, e, q⟩ := q.lift
  exact hi F2 H2 v w x y d Q g2.rel.ex (rv.mono g2.ex) rw e (outV_of g2.rel q)
theorem xe_ixR {f : D → D → Option D} {r : R2} (ho : IxR X r) (hi : Imp2 X.K f r) (ha : PE X a (lE X.K E ta)) (hb : PE X b (lE X.K E tb)) (hs : PlainIx b) : PE X (.Subscript a b pos) (lE X.K E (xOp2 f ta tb)) := by
  refine pe_imp (pe_ix ho ha hb hs) fun σ H Q h => ?_
  obtain ⟨F, ρ, r, p⟩ := h
  refine ⟨F, ρ, r, (Pend.bind r p).mono fun x ρ1 F1 H1 g1 q v rv => ⟨F1, ρ1, g1.rel, (Pend.bind g1.rel q).mono fun y ρ2 F2 H2 g2 q w rw => ?_⟩⟩
  obtain ⟨d, e, q⟩ := q.lift
  exact hi F2 H2 v w x y d Q g2.rel.ex (rv.mono g2.ex) rw e (outV_of g2.rel q)

/-! ### arguments -/
def xNil : XA := fun ρ => .ok [] ρ
def xCons (ta : XV) (tr : XA) : XA := fun ρ => (ta ρ).bind fun x ρ1 => (tr ρ1).bind fun xs ρ2 => .ok (x :: xs) ρ2
theorem xa_nil : PA X [] (lA X.K E xNil) := pa_imp pa_nil fun σ H Q h => by
  obtain ⟨F, ρ, r, p⟩ := h
  exact p F H (Go.refl r) [] .nil
theorem xa_cons {e : Expr} {es : List Expr} {tr : XA} (ha : PE X e (lE X.K E ta)) (hr : PA X es (lA X.K E tr)) (hs : starEach (e :: es) X.env = (false, eval e X.env) :: starEach es X.env := by rfl) : PA X (e :: es) (lA X.K E (xCons ta tr)) := by
  refine pa_imp (pa_cons ha hr hs) fun σ H Q h => ?_
  obtain ⟨F, ρ, r, p⟩ := h
  refine ⟨F, ρ, r, (Pend.bind r p).mono fun x ρ1 F1 H1 g1 q v rv => ⟨F1, ρ1, g1.rel, (Pend.bind g1.rel q).mono fun xs ρ2 F2 H2 g2 q vs rs => ?_⟩⟩
  exact q F2 H2 (Go.refl g2.rel) (v :: vs) (.cons (rv.mono g2.ex) rs)
def dTup (ds : List D) : Option D := if ds.length ≤ sizeLine then some (.tup ds) else none
def dLst (ds : List D) : Option D := if ds.length ≤ sizeLine then some (.lst ds) else none
theorem xe_tup {es : List Expr} {t : XA} {k : Nat} (h : PA X es (lA X.K E t)) : PE X (.Tuple es k pos) (lE X.K E (xOpL dTup t)) := by
  refine pe_imp (pe_tup h) fun σ H Q h => ?_
  obtain ⟨F, ρ, r, p⟩ := h
  refine ⟨F, ρ, r, (Pend.bind r p).mono fun xs ρ1 F1 H1 g1 q vs rs => ?_⟩
  obtain ⟨d, e, q⟩ := q.lift
  unfold dTup at e
  split at e
  · cases e
    rename_i hl
    refine ⟨by rw [rs.length]; exact hl, fun b hb => ?_⟩
    exact (outV_of g1.rel q).new g1.rel.ex hb (.tup upd_same (rs.mono (Gr.new (o := .tup vs) g1.rel.ex hb).ex))
  · cases e
theorem xn_lst {es : List Expr} {t : XA} (h : PA X es (lA X.K E t)) : PE X (.List es pos) (lN X.K E (xOpL dLst t)) := by
  refine pe_imp (pe_lst h) fun σ H Q h => ?_
  obtain ⟨F, ρ, r, p⟩ := h
  refine ⟨F, ρ, r, (Pend.bind r p).mono fun xs ρ1 F1 H1 g1 q vs rs => ?_⟩
  obtain ⟨d, e, q⟩ := q.lift
  unfold dLst at e
  split at e
  · cases e
    rename_i hl
    refine ⟨by rw [rs.length]; exact hl, fun b hb => ?_⟩
    exact (outN_of r g1 q).new g1.rel.ex hb (.lst rs)
  · cases e
/-- built-ins by name -/
theorem xe_callB {id : String} {x : Str} {p : Pos} {e : Expr} {es : List Expr} {t : XA} {f : List D → Option D} {r : List V → Hp → VK → Prop} (hc : CallR X (.builtin id) r) (hi : ImpL X.K f r) (hg : Gl X x) (hm : X.mg x = none) (hv : bootBuiltins x = some (.builtin id)) (ha : PA X (e :: es) (lA X.K E t)) (hn : x ≠ "__name__" := by decide) (hdb : (x == ("__debug__" : Str)) = false := by decide)
    (he : starEach (e :: es) X.env = (false, eval e X.env) :: starEach es X.env := by rfl) (hpl : (backTo pos (starEach es X.env)).any (·.1) = false := by rfl) : PE X (.Call (.Name x p) (e :: es) [] pos) (lE X.K E (xOpL f t)) := by
  refine pe_imp (pe_callB hc hg hm hv ha hn hdb he hpl) fun σ H Q h => ?_
  obtain ⟨F, ρ, r, p⟩ := h
  refine ⟨F, ρ, r, (Pend.bind r p).mono fun xs ρ1 F1 H1 g1 q vs rs => ?_⟩
  obtain ⟨d, e, q⟩ := q.lift
  exact hi F1 H1 vs xs d Q g1.rel.ex rs e (outV_of g1.rel q)
theorem xn_callB {id : String} {x : Str} {p : Pos} {e : Expr} {es : List Expr} {t : XA} {f : List D → Option D} {r : List V → Hp → VK → Prop} (hc : CallR X (.builtin id) r) (hi : ImpLN X.K f r) (hg : Gl X x) (hm : X.mg x = none) (hv : bootBuiltins x = some (.builtin id)) (ha : PA X (e :: es) (lA X.K E t)) (hn : x ≠ "__name__" := by decide) (hdb : (x == ("__debug__" : Str)) = false := by decide)
    (he : starEach (e :: es) X.env = (false, eval e X.env) :: starEach es X.env := by rfl) (hpl : (backTo pos (starEach es X.env)).any (·.1) = false := by rfl) : PE X (.Call (.Name x p) (e :: es) [] pos) (lN X.K E (xOpL f t)) := by
  refine pe_imp (pe_callB hc hg hm hv ha hn hdb he hpl) fun σ H Q h => ?_
  obtain ⟨F, ρ, r, p⟩ := h
  refine ⟨F, ρ, r, (Pend.bind r p).mono fun xs ρ1 F1 H1 g1 q vs rs => ?_⟩
  obtain ⟨d, e, q⟩ := q.lift
  exact hi F1 H1 vs xs d Q g1.rel.ex rs e (outN_of r g1 q)
theorem xe_callT {T : String} {x : Str} {p : Pos} {e : Expr} {es : List Expr} {t : XA} {f : List D → Option D} {r : List V → Hp → VK → Prop} (hc : CallR X (.type T) r) (hi : ImpL X.K f r) (hg : Gl X x) (hm : X.mg x = none) (hv : bootBuiltins x = some (.type T)) (ha : PA X (e :: es) (lA X.K E t)) (hn : x ≠ "__name__" := by decide) (hdb : (x == ("__debug__" : Str)) = false := by decide)
    (he : starEach (e :: es) X.env = (false, eval e X.env) :: starEach es X.env := by rfl) (hpl : (backTo pos (starEach es X.env)).any (·.1) = false := by rfl) : PE X (.Call (.Name x p) (e :: es) [] pos) (lE X.K E (xOpL f t)) := by
  refine pe_imp (pe_callTy hc hg hm hv ha hn hdb he hpl) fun σ H Q h => ?_
  obtain ⟨F, ρ, r, p⟩ := h
  refine ⟨F, ρ, r, (Pend.bind r p).mono fun xs ρ1 F1 H1 g1 q vs rs => ?_⟩
  obtain ⟨d, e, q⟩ := q.lift
  exact hi F1 H1 vs xs d Q g1.rel.ex rs e (outV_of g1.rel q)
theorem xn_callT {T : String} {x : Str} {p : Pos} {e : Expr} {es : List Expr} {t : XA} {f : List D → Option D} {r : List V → Hp → VK → Prop} (hc : CallR X (.type T) r) (hi : ImpLN X.K f r) (hg : Gl X x) (hm : X.mg x = none) (hv : bootBuiltins x = some (.type T)) (ha : PA X (e :: es) (lA X.K E t)) (hn : x ≠ "__name__" := by decide) (hdb : (x == ("__debug__" : Str)) = false := by decide)
    (he : starEach (e :: es) X.env = (false, eval e X.env) :: starEach es X.env := by rfl) (hpl : (backTo pos (starEach es X.env)).any (·.1) = false := by rfl) : PE X (.Call (.Name x p) (e :: es) [] pos) (lN X.K E (xOpL f t)) := by
  refine pe_imp (pe_callTy hc hg hm hv ha hn hdb he hpl) fun σ H Q h => ?_
  obtain ⟨F, ρ, r, p⟩ := h
  refine ⟨F, ρ, r, (Pend.bind r p).mono fun xs ρ1 F1 H1 g1 q vs rs => ?_⟩
  obtain ⟨d, e, q⟩ := q.lift
  exact hi F1 H1 vs xs d Q g1.rel.ex rs e (outN_of r g1 q)

/-! ### tests -/
def xTest (t : XV) : XT := fun ρ => (t ρ).bind fun x ρ1 => match x with
  | .bl b => .ok b ρ1
  | _ => .bad
def xAnd (t u : XT) : XT := fun ρ => (t ρ).bind fun b ρ1 => if b = true then u ρ1 else .ok false ρ1
def xOr (t u : XT) : XT := fun ρ => (t ρ).bind fun b ρ1 => if b = true then .ok true ρ1 else u ρ1
def xNot (t : XT) : XT := fun ρ => (t ρ).bind fun b ρ1 => .ok (!b) ρ1
/-- a test whose answer is a value -/
def xOfT (t : XT) : XV := fun ρ => (t ρ).bind fun b ρ1 => .ok (.bl b) ρ1
theorem bl_of {K : PySem.W.Frag} {σ : L2.St} {F H : Hp} {ρ : Rho} {x : D} {v : V} {Q : Bool → Rho → Hp → Hp → Prop} (r : Rel K F H ρ σ) (rv : Rp K F v x) (h : Pend K E (fun ρ1 => match x with | .bl b => (.ok b ρ1 : Res Bool) | _ => .bad) ρ σ F H Q) : ∃ c, v = .bl c ∧ Q c ρ F H := by
  unfold Pend at h
  cases x with
  | bl b => cases rv; exact ⟨b, rfl, h F H (Go.refl r)⟩
  | non => exact h.elim
  | int _ => exact h.elim
  | str _ => exact h.elim
  | ty _ => exact h.elim
  | tup _ => exact h.elim
  | lst _ => exact h.elim
  | fix _ => exact h.elim
  | dicK _ _ => exact h.elim
  | dicT _ _ => exact h.elim
  | dicN _ _ => exact h.elim
theorem xt_val {e : Expr} {t : XV} (h : PE X e (lE X.K E t)) (he : ∀ whole, isTrue e X.env whole = (do let v ← whole; standAt e.pos; holding [v] (truthy v)) := by intro _; rfl) : PT X e (lT X.K E (xTest t)) := by
  refine pt_imp (pt_val h he) fun σ H Q h => ?_
  obtain ⟨F, ρ, r, p⟩ := h
  refine ⟨F, ρ, r, (Pend.bind r p).mono fun x ρ1 F1 H1 g1 q v rv => ?_⟩
  obtain ⟨c, e, q⟩ := bl_of g1.rel rv q
  exact ⟨c, e, q⟩
theorem xt_cmp {op : CmpOp} {f : D → D → Option D} {r : R2} (ho : OpR X (compareOp op) r) (hi : Imp2 X.K f r) (ha : PE X a (lE X.K E ta)) (hb : PE X b (lE X.K E tb)) (hm : behindInMarks op b = false) : PT X (.Compare a [op] [b] pos) (lT X.K E (xTest (xOp2 f ta tb))) := by
  refine pt_imp (pt_cmpR ho ha hb hm) fun σ H Q h => ?_
  obtain ⟨F, ρ, r, p⟩ := h
  have p := Pend.bind r p
  refine ⟨F, ρ, r, (Pend.bind r p).mono fun x ρ1 F1 H1 g1 q v rv => ⟨F1, ρ1, g1.rel, (Pend.bind g1.rel q).mono fun y ρ2 F2 H2 g2 q w rw => ?_⟩⟩
  obtain ⟨d, e, q⟩ := q.lift
  refine hi F2 H2 v w x y d _ g2.rel.ex (rv.mono g2.ex) rw e fun u F3 H3 g3 ru => ?_
  obtain ⟨c, e, q⟩ := bl_of (g3.go g2.rel).rel ru (q F3 H3 (g3.go g2.rel))
  exact ⟨c, e, q⟩
theorem xw_and1 {tA : XT} (ha : PT X a (lT X.K E tA)) : PW X (.BoolOp .And [a] pos) (lT X.K E tA) := pw_and1 ha
theorem xw_or1 {tA : XT} (ha : PT X a (lT X.K E tA)) : PW X (.BoolOp .Or [a] pos) (lT X.K E tA) := pw_or1 ha
theorem pw_imp {e : Expr} {t t' : TT} (h : PW X e t) (k : ∀ σ H Q, t' σ H Q → t σ H Q) : PW X e t' := ⟨fun wh pins s σ H Q I q => h.run wh pins s σ H Q I (k σ H Q q)⟩
theorem xw_and {tA tB : XT} {rest : List Expr} (ha : PT X a (lT X.K E tA)) (hb : PW X (.BoolOp .And (b :: rest) pos) (lT X.K E tB)) : PW X (.BoolOp .And (a :: b :: rest) pos) (lT X.K E (xAnd tA tB)) := by
  refine pw_imp (pw_and ha hb) fun σ H Q h => ?_
  obtain ⟨F, ρ, r, p⟩ := h
  refine ⟨F, ρ, r, (Pend.bind r p).mono fun c ρ1 F1 H1 g1 q => ?_⟩
  cases c with
  | true => exact ⟨F1, ρ1, g1.rel, q⟩
  | false => exact q F1 H1 (Go.refl g1.rel)
theorem xw_or {tA tB : XT} {rest : List Expr} (ha : PT X a (lT X.K E tA)) (hb : PW X (.BoolOp .Or (b :: rest) pos) (lT X.K E tB)) : PW X (.BoolOp .Or (a :: b :: rest) pos) (lT X.K E (xOr tA tB)) := by
  refine pw_imp (pw_or ha hb) fun σ H Q h => ?_
  obtain ⟨F, ρ, r, p⟩ := h
  refine ⟨F, ρ, r, (Pend.bind r p).mono fun c ρ1 F1 H1 g1 q => ?_⟩
  cases c with
  | false => exact ⟨F1, ρ1, g1.rel, q⟩
  | true => exact q F1 H1 (Go.refl g1.rel)
theorem xt_not {tA : XT} (ha : PT X a (lT X.K E tA)) : PT X (.UnaryOp .Not a pos) (lT X.K E (xNot tA)) := by
  refine pt_imp (pt_not ha) fun σ H Q h => ?_
  obtain ⟨F, ρ, r, p⟩ := h
  exact ⟨F, ρ, r, (Pend.bind r p).mono fun c ρ1 F1 H1 g1 q => q F1 H1 (Go.refl g1.rel)⟩
/-- and, or, not as values -/
def xAndV (t u : XV) : XV := fun ρ => (xTest t ρ).bind fun b ρ1 => if b = true then u ρ1 else .ok (.bl false) ρ1
def xOrV (t u : XV) : XV := fun ρ => (xTest t ρ).bind fun b ρ1 => if b = true then .ok (.bl true) ρ1 else u ρ1
def xNotV (t : XV) : XV := fun ρ => (xTest t ρ).bind fun b ρ1 => .ok (.bl (!b)) ρ1
theorem xe_one {op : BoolOp} {t : XV} (h : PE X a (lE X.K E t)) : PE X (.BoolOp op [a] pos) (lE X.K E t) := pe_one h
theorem xe_and {rest : List Expr} (ha : PE X a (lE X.K E ta)) (hb : PE X (.BoolOp .And (b :: rest) pos) (lE X.K E tb)) : PE X (.BoolOp .And (a :: b :: rest) pos) (lE X.K E (xAndV ta tb)) := by
  refine pe_imp (pe_and ha hb) fun σ H Q h => ?_
  obtain ⟨F, ρ, r, p⟩ := h
  have p := Pend.bind r p
  refine ⟨F, ρ, r, (Pend.bind r p).mono fun x ρ1 F1 H1 g1 q v rv => ?_⟩
  obtain ⟨c, e, q⟩ := bl_of g1.rel rv q
  refine ⟨c, e, ?_⟩
  cases c with
  | true => exact ⟨F1, ρ1, g1.rel, q⟩
  | false => exact q F1 H1 (Go.refl g1.rel) _ (.bl _)
theorem xe_or {rest : List Expr} (ha : PE X a (lE X.K E ta)) (hb : PE X (.BoolOp .Or (b :: rest) pos) (lE X.K E tb)) : PE X (.BoolOp .Or (a :: b :: rest) pos) (lE X.K E (xOrV ta tb)) := by
  refine pe_imp (pe_or ha hb) fun σ H Q h => ?_
  obtain ⟨F, ρ, r, p⟩ := h
  have p := Pend.bind r p
  refine ⟨F, ρ, r, (Pend.bind r p).mono fun x ρ1 F1 H1 g1 q v rv => ?_⟩
  obtain ⟨c, e, q⟩ := bl_of g1.rel rv q
  refine ⟨c, e, ?_⟩
  cases c with
  | false => exact ⟨F1, ρ1, g1.rel, q⟩
  | true => exact q F1 H1 (Go.refl g1.rel) _ (.bl _)
theorem xe_not (ha : PE X a (lE X.K E ta)) : PE X (.UnaryOp .Not a pos) (lE X.K E (xNotV ta)) := by
  refine pe_imp (pe_not ha) fun σ H Q h => ?_
  obtain ⟨F, ρ, r, p⟩ := h
  have p := Pend.bind r p
  refine ⟨F, ρ, r, (Pend.bind r p).mono fun x ρ1 F1 H1 g1 q v rv => ?_⟩
  obtain ⟨c, e, q⟩ := bl_of g1.rel rv q
  exact ⟨c, e, q F1 H1 (Go.refl g1.rel) _ (.bl _)⟩
def xIf (t : XT) (ta tb : XV) : XV := fun ρ => (t ρ).bind fun b ρ1 => if b = true then ta ρ1 else tb ρ1
theorem xe_if {c : Expr} {t : XT} (hc : PT X c (lT X.K E t)) (ha : PE X a (lE X.K E ta)) (hb : PE X b (lE X.K E tb)) : PE X (.IfExp c a b pos) (lE X.K E (xIf t ta tb)) := by
  refine pe_imp (pe_ifExp hc ha hb) fun σ H Q h => ?_
  obtain ⟨F, ρ, r, p⟩ := h
  refine ⟨F, ρ, r, (Pend.bind r p).mono fun x ρ1 F1 H1 g1 q => ?_⟩
  cases x with
  | true => exact ⟨F1, ρ1, g1.rel, q⟩
  | false => exact ⟨F1, ρ1, g1.rel, q⟩
end
end G

namespace G
open PySem PySem.Spec PyProof.Rows L2

inductive Fl where
  | nx (ρ : Rho) | ret (d : D) (ρ : Rho) | brk (ρ : Rho) | cnt (ρ : Rho) | exc (c : String) (ρ : Rho) | bad
abbrev XS := Rho → Fl
def Res.fl {α : Type} (r : Res α) (f : α → Rho → Fl) : Fl := match r with
  | .ok a ρ => f a ρ
  | .exc c ρ => .exc c ρ
  | .bad => .bad
def Fl.seq (r : Fl) (f : XS) : Fl := match r with
  | .nx ρ => f ρ
  | .ret d ρ => .ret d ρ
  | .brk ρ => .brk ρ
  | .cnt ρ => .cnt ρ
  | .exc c ρ => .exc c ρ
  | .bad => .bad

section
variable (K : PySem.W.Frag) (E : EW) (fr : Bool)
def RetP (d : D) (ρ : Rho) (σ : L2.St) (F H : Hp) (ρ' : Rho) (rt : VK) : Prop :=
  (fr = false → ∀ v σ' F' H', Go K ρ σ F H ρ' σ' F' H' → Rp K F' v d → rt v H') ∧
  (fr = true → ∀ p o σ' F' H', Go K ρ σ F H ρ' σ' F' H' → F' p = none → H' p = some o → Ro K F' p o d → ¬ Own ρ' σ' p → (Own ρ σ p ∨ H p = none) → rt (.ref p) H')
def PendS (t : XS) (ρ : Rho) (σ : L2.St) (F H : Hp) (C : Ends) : Prop := match t ρ with
  | .nx ρ' => ∀ σ' F' H', Go K ρ σ F H ρ' σ' F' H' → C.nx σ' H'
  | .ret d ρ' => RetP K fr d ρ σ F H ρ' C.rt
  | .brk ρ' => ∀ σ' F' H', Go K ρ σ F H ρ' σ' F' H' → C.bk σ' H'
  | .cnt ρ' => ∀ σ' F' H', Go K ρ σ F H ρ' σ' F' H' → C.ct σ' H'
  | .exc c ρ' => ∀ σ' F' H', Go K ρ σ F H ρ' σ' F' H' → E c σ' H'
  | .bad => False
def lS (t : XS) : TS := fun C σ H => ∃ F ρ, Rel K F H ρ σ ∧ PendS K E fr t ρ σ F H C
end
section
variable {K : PySem.W.Frag} {E : EW} {fr : Bool} {σ σ1 : L2.St} {F H F1 H1 : Hp} {ρ ρ1 : Rho} {C : Ends}
theorem own_back (r : Rel K F H ρ σ) (g : Go K ρ σ F H ρ1 σ1 F1 H1) {p : Addr} (h : Own ρ1 σ1 p ∨ H1 p = none) : Own ρ σ p ∨ H p = none := by
  rcases h with h | h
  · exact g.own p h
  · cases q : H p with
    | none => exact .inr rfl
    | some u =>
      by_cases hw : Own ρ σ p
      · exact .inl hw
      · have := g.sameH r q hw
        rw [h] at this; cases this
theorem RetP.go {d : D} {ρ' : Rho} {rt : VK} (r : Rel K F H ρ σ) (g : Go K ρ σ F H ρ1 σ1 F1 H1) (h : RetP K fr d ρ σ F H ρ' rt) : RetP K fr d ρ1 σ1 F1 H1 ρ' rt :=
  ⟨fun e v σ' F' H' g' rv => h.1 e v σ' F' H' (g.trans r g') rv, fun e p o σ' F' H' g' h1 h2 h3 h4 h5 => h.2 e p o σ' F' H' (g.trans r g') h1 h2 h3 h4 (own_back r g h5)⟩
/-- an expression, then the rest -/
theorem PendS.fl {α : Type} {t : Rho → Res α} {f : α → Rho → Fl} (r : Rel K F H ρ σ) (h : PendS K E fr (fun ρ => (t ρ).fl f) ρ σ F H C) :
    Pend K E t ρ σ F H fun a ρ1 F1 H1 => PendS K E fr (f a) ρ1 σ F1 H1 C := by
  unfold PendS at h
  unfold Pend
  split <;> rename_i e <;> simp only [e, Res.fl] at h
  · intro F1 H1 g
    unfold PendS
    split <;> rename_i e2 <;> rw [e2] at h
    · exact fun σ2 F2 H2 g2 => h σ2 F2 H2 (g.trans r g2)
    · exact RetP.go r g h
    · exact fun σ2 F2 H2 g2 => h σ2 F2 H2 (g.trans r g2)
    · exact fun σ2 F2 H2 g2 => h σ2 F2 H2 (g.trans r g2)
    · exact fun σ2 F2 H2 g2 => h σ2 F2 H2 (g.trans r g2)
    · exact h
  · exact fun F' H' g => h σ F' H' g
theorem PendS.seq {t u : XS} (r : Rel K F H ρ σ) (h : PendS K E fr (fun ρ => (t ρ).seq u) ρ σ F H C) : PendS K E fr t ρ σ F H { C with nx := lS K E fr u C } := by
  unfold PendS at h ⊢
  split <;> rename_i e <;> simp only [e, Fl.seq] at h
  · intro σ1 F1 H1 g
    refine ⟨F1, _, g.rel, ?_⟩
    unfold PendS
    split <;> rename_i e2 <;> rw [e2] at h
    · exact fun σ2 F2 H2 g2 => h σ2 F2 H2 (g.trans r g2)
    · exact RetP.go r g h
    · exact fun σ2 F2 H2 g2 => h σ2 F2 H2 (g.trans r g2)
    · exact fun σ2 F2 H2 g2 => h σ2 F2 H2 (g.trans r g2)
    · exact fun σ2 F2 H2 g2 => h σ2 F2 H2 (g.trans r g2)
    · exact h
  · exact h
  · exact h
  · exact h
  · exact h
theorem PendS.nx {ρ' : Rho} (h : PendS K E fr (fun _ => .nx ρ') ρ σ F H C) (g : Go K ρ σ F H ρ' σ1 F1 H1) : C.nx σ1 H1 := h σ1 F1 H1 g
/-- the same work behind a step -/
theorem PendS.go {t : XS} (r : Rel K F H ρ σ) (g : Go K ρ σ F H ρ1 σ1 F1 H1) (h : PendS K E fr (fun _ => t ρ1) ρ σ F H C) : PendS K E fr t ρ1 σ1 F1 H1 C := by
  unfold PendS at h ⊢
  split <;> rename_i e2 <;> rw [e2] at h
  · exact fun σ2 F2 H2 g2 => h σ2 F2 H2 (g.trans r g2)
  · exact RetP.go r g h
  · exact fun σ2 F2 H2 g2 => h σ2 F2 H2 (g.trans r g2)
  · exact fun σ2 F2 H2 g2 => h σ2 F2 H2 (g.trans r g2)
  · exact fun σ2 F2 H2 g2 => h σ2 F2 H2 (g.trans r g2)
  · exact h

/-! ### the slots change -/
theorem get_set {α : Type} {l : List α} {i j : Nat} {x y : α} (h : (l.set i x)[j]? = some y) : (i = j ∧ y = x) ∨ (i ≠ j ∧ l[j]? = some y) := by
  by_cases e : i = j
  · subst e
    refine .inl ⟨rfl, ?_⟩
    by_cases hl : i < l.length
    · rw [List.getElem?_set_self hl] at h
      exact (Option.some.inj h).symm
    · rw [List.getElem?_eq_none (by rw [List.length_set]; omega)] at h
      cases h
  · rw [List.getElem?_set_ne e] at h
    exact .inr ⟨e, h⟩
theorem own_set_val {i : Nat} {s : Slot} {o : Option V} (hs : ∀ d, s ≠ .own d) {p : Addr} (h : Own (ρ.set i s) (σ.set i o) p) : Own ρ σ p := by
  obtain ⟨j, d, h1, h2⟩ := h
  rcases get_set h1 with ⟨_, e⟩ | ⟨hj, h1⟩
  · exact absurd e.symm (hs d)
  · rcases get_set h2 with ⟨e, _⟩ | ⟨_, h2⟩
    · exact absurd e hj
    · exact ⟨j, d, h1, h2⟩
theorem Go.setVal {i : Nat} {v : V} {d : D} (h0 : i ≠ 0) (r : Rel K F H ρ σ) (rv : Rp K F v d) : Go K ρ σ F H (ρ.set i (.val d)) (σ.set i (some v)) F H where
  rel := by
    refine ⟨r.ex, by rw [List.length_set, List.length_set]; exact r.len, fun j s o h1 h2 => ?_, fun j k d1 d2 p h1 h2 h3 h4 => ?_, fun j d1 p h1 h2 h3 => ?_⟩
    rotate_right
    · rcases get_set h1 with ⟨_, q⟩ | ⟨hj, h1⟩
      · cases q
      · rcases get_set h2 with ⟨e, _⟩ | ⟨_, h2⟩
        · exact absurd e hj
        · exact r.rdis j d1 p h1 h2 (own_set_val (fun _ z => by cases z) h3)
    · rcases get_set h1 with ⟨e, rfl⟩ | ⟨hj, h1⟩
      · rcases get_set h2 with ⟨_, rfl⟩ | ⟨hj, _⟩
        · exact .val rv
        · exact absurd e hj
      · rcases get_set h2 with ⟨e, _⟩ | ⟨_, h2⟩
        · exact absurd e hj
        · exact r.at' j s o h1 h2
    · rcases get_set h1 with ⟨_, q⟩ | ⟨hj, h1⟩
      · cases q
      · rcases get_set h2 with ⟨_, q⟩ | ⟨hk, h2⟩
        · cases q
        · rcases get_set h3 with ⟨q, _⟩ | ⟨_, h3⟩
          · exact absurd q hj
          · rcases get_set h4 with ⟨q, _⟩ | ⟨_, h4⟩
            · exact absurd q hk
            · exact r.dis j k d1 d2 p h1 h2 h3 h4
  ex := Same.refl F
  keep := fun _ _ h1 h2 _ => ⟨h1, fun _ => h2⟩
  own := fun p h => .inl (own_set_val (fun _ z => by cases z) h)
  low := List.getElem?_set_ne h0
  lowO := fun d h => ⟨d, by rw [List.getElem?_set_ne h0]; exact h⟩
  rdb := fun j e h => by
    rcases get_set h with ⟨_, q⟩ | ⟨hj, h⟩
    · cases q
    · exact ⟨h, List.getElem?_set_ne hj⟩
theorem Rel.setOwn {i : Nat} {p : Addr} {o : HO} {d : D} (r : Rel K F H ρ σ) (h1 : F p = none) (h2 : H p = some o) (h3 : Ro K F p o d) (hn : ¬ Own ρ σ p) (hrd : ∀ (j : Nat) (e : D), ρ[j]? = some (.rd e) → σ[j]? = some (some (.ref p)) → False) : Rel K F H (ρ.set i (.own d)) (σ.set i (some (.ref p))) := by
  refine ⟨r.ex, by rw [List.length_set, List.length_set]; exact r.len, fun j s o g1 g2 => ?_, fun j k d1 d2 q g1 g2 g3 g4 => ?_, fun j d1 q g1 g2 g3 => ?_⟩
  rotate_right
  · rcases get_set g1 with ⟨_, z⟩ | ⟨hj, g1⟩
    · cases z
    · rcases get_set g2 with ⟨e, _⟩ | ⟨_, g2⟩
      · exact absurd e hj
      · obtain ⟨k, e, k1, k2⟩ := g3
        rcases get_set k2 with ⟨ek, ek2⟩ | ⟨hk, k2⟩
        · cases ek2
          exact hrd j d1 g1 g2
        · rcases get_set k1 with ⟨ek, _⟩ | ⟨_, k1⟩
          · exact absurd ek hk
          · exact r.rdis j d1 q g1 g2 ⟨k, e, k1, k2⟩
  · rcases get_set g1 with ⟨e, rfl⟩ | ⟨hj, g1⟩
    · rcases get_set g2 with ⟨_, rfl⟩ | ⟨hj, _⟩
      · exact .own h1 h2 h3
      · exact absurd e hj
    · rcases get_set g2 with ⟨e, _⟩ | ⟨_, g2⟩
      · exact absurd e hj
      · exact r.at' j s _ g1 g2
  · rcases get_set g1 with ⟨ej, _⟩ | ⟨hj, g1⟩
    · rcases get_set g2 with ⟨ek, _⟩ | ⟨hk, g2⟩
      · exact ej.symm.trans ek
      · rcases get_set g3 with ⟨_, e3⟩ | ⟨z, _⟩
        · cases e3
          rcases get_set g4 with ⟨q, _⟩ | ⟨_, g4⟩
          · exact absurd q hk
          · exact absurd ⟨k, d2, g2, g4⟩ hn
        · exact absurd ej z
    · rcases get_set g2 with ⟨ek, _⟩ | ⟨hk, g2⟩
      · rcases get_set g4 with ⟨_, e4⟩ | ⟨z, _⟩
        · cases e4
          rcases get_set g3 with ⟨q, _⟩ | ⟨_, g3⟩
          · exact absurd q hj
          · exact absurd ⟨j, d1, g1, g3⟩ hn
        · exact absurd ek z
      · rcases get_set g3 with ⟨q, _⟩ | ⟨_, g3⟩
        · exact absurd q hj
        · rcases get_set g4 with ⟨q, _⟩ | ⟨_, g4⟩
          · exact absurd q hk
          · exact r.dis j k d1 d2 q g1 g2 g3 g4
/-- behind an expression that gave a new object, it is stored -/
theorem Go.setOwn {i : Nat} {p : Addr} {o : HO} {d : D} (h0 : i ≠ 0) (r : Rel K F H ρ σ) (g : Go K ρ σ F H ρ1 σ F1 H1) (h1 : F1 p = none) (h2 : H1 p = some o) (h3 : Ro K F1 p o d) (hn : ¬ Own ρ1 σ p) (hw : Own ρ σ p ∨ H p = none) :
    Go K ρ σ F H (ρ1.set i (.own d)) (σ.set i (some (.ref p))) F1 H1 where
  rel := g.rel.setOwn h1 h2 h3 hn fun j e k1 k2 => by
    obtain ⟨k3, k4⟩ := g.rdb j e k1
    rw [k4] at k2
    rcases hw with hw | hw
    · exact r.rdis j e p k3 k2 hw
    · have z := g.rel.at' j _ _ k1 (k4.trans k2)
      have z0 := r.at' j _ _ k3 k2
      cases z0 with
      | rd ra =>
        cases ra with
        | own _ y _ => rw [hw] at y; cases y
        | val rp nf => exact rp_at rp nf (r.ex.free hw)
  ex := g.ex
  keep := g.keep
  own := fun q h => by
    obtain ⟨j, e, q1, q2⟩ := h
    rcases get_set q2 with ⟨ej, z⟩ | ⟨hj, q2⟩
    · cases z
      exact hw
    · rcases get_set q1 with ⟨ej, _⟩ | ⟨_, q1⟩
      · exact absurd ej hj
      · exact g.own q ⟨j, e, q1, q2⟩
  low := List.getElem?_set_ne h0
  lowO := fun d h => by
    obtain ⟨d', h'⟩ := g.lowO d h
    exact ⟨d', by rw [List.getElem?_set_ne h0]; exact h'⟩
  rdb := fun j e h => by
    rcases get_set h with ⟨_, q⟩ | ⟨hj, h⟩
    · cases q
    · obtain ⟨k1, k2⟩ := g.rdb j e h
      exact ⟨k1, (List.getElem?_set_ne hj).trans k2⟩
/-- an owned object is changed -/
theorem Go.mut {i : Nat} {p : Addr} {o o' : HO} {d d' : D} (r : Rel K F H ρ σ) (hi : ρ[i]? = some (.own d)) (hs : σ[i]? = some (some (.ref p))) (h1 : F p = none) (h2 : H p = some o) (h3 : Ro K F p o' d') :
    Go K ρ σ F H (ρ.set i (.own d')) σ F (upd H p o') where
  rel := by
    refine ⟨fun b u q => by rw [upd_ne (ne_of_none q h1)]; exact r.ex b u q, by rw [List.length_set]; exact r.len, fun j s v g1 g2 => ?_, fun j k d1 d2 q g1 g2 g3 g4 => ?_, fun j d1 q g1 g2 g3 => ?_⟩
    rotate_right
    · rcases get_set g1 with ⟨_, z⟩ | ⟨hj, g1⟩
      · cases z
      · refine r.rdis j d1 q g1 g2 ?_
        obtain ⟨k, e, k1, k2⟩ := g3
        rcases get_set k1 with ⟨ek, _⟩ | ⟨_, k1⟩
        · subst ek; exact ⟨_, d, hi, k2⟩
        · exact ⟨k, e, k1, k2⟩
    · rcases get_set g1 with ⟨e, rfl⟩ | ⟨hj, g1⟩
      · subst e
        rw [hs] at g2
        cases g2
        exact .own h1 upd_same h3
      · have z := r.at' j s v g1 g2
        cases z with
        | emp => exact .emp
        | adr => exact .adr
        | val rp => exact .val rp
        | own z1 z2 z3 =>
          refine .own z1 ?_ z3
          rw [upd_ne]
          · exact z2
          · rintro rfl
            exact hj (r.dis i j _ _ _ hi g1 hs g2)
        | rd ra =>
          refine .rd (ra.step (Same.refl F) fun q u _ eq e1 e2 => ⟨?_, e2⟩)
          subst eq
          rw [upd_ne]
          · exact e1
          · rintro rfl
            exact r.rdis j _ _ g1 g2 ⟨i, d, hi, hs⟩
    · have own_of : ∀ (m : Nat) (e : D), (ρ.set i (Slot.own d'))[m]? = some (Slot.own e) → ∃ e' : D, ρ[m]? = some (Slot.own e') := fun m e h => by
        rcases get_set h with ⟨e1, _⟩ | ⟨_, h⟩
        · subst e1; exact ⟨_, hi⟩
        · exact ⟨_, h⟩
      obtain ⟨e1, q1⟩ := own_of _ _ g1
      obtain ⟨e2, q2⟩ := own_of _ _ g2
      exact r.dis j k e1 e2 q q1 q2 g3 g4
  ex := Same.refl F
  keep := fun a u g1 g2 g3 => by
    refine ⟨?_, fun _ => g2⟩
    rw [upd_ne]
    · exact g1
    · rintro rfl
      exact g3 ⟨i, d, hi, hs⟩
  own := fun q h => by
    obtain ⟨j, e, q1, q2⟩ := h
    rcases get_set q1 with ⟨e1, _⟩ | ⟨_, q1⟩
    · subst e1
      exact .inl ⟨_, d, hi, q2⟩
    · exact .inl ⟨j, e, q1, q2⟩
  low := rfl
  lowO := fun d h => by
    by_cases h0 : i = 0
    · subst h0
      exact ⟨d', by rw [List.getElem?_set_self (by cases Nat.lt_or_ge 0 ρ.length with | inl z => exact z | inr z => rw [List.getElem?_eq_none z] at h; cases h)]⟩
    · exact ⟨d, by rw [List.getElem?_set_ne h0]; exact h⟩
  rdb := fun j e h => by
    rcases get_set h with ⟨_, q⟩ | ⟨_, h⟩
    · cases q
    · exact ⟨h, rfl⟩
end

section
variable {X : Cx} {E : EW} {fr : Bool} {pos : Pos}
/-! ### blocks -/
def xNext : XS := fun ρ => .nx ρ
def xSeq (t u : XS) : XS := fun ρ => (t ρ).seq u
theorem xs_nil : PSs X [] (lS X.K E fr xNext) := pss_imp pss_nil fun C σ H h => by
  obtain ⟨F, ρ, r, p⟩ := h
  exact p σ F H (Go.refl r)
theorem xs_cons {s : Stmt} {rest : List Stmt} {t u : XS} (h1 : PS X s (lS X.K E fr t)) (h2 : PSs X rest (lS X.K E fr u)) : PSs X (s :: rest) (lS X.K E fr (xSeq t u)) := pss_imp (pss_cons h1 h2) fun C σ H h => by
  obtain ⟨F, ρ, r, p⟩ := h
  exact ⟨F, ρ, r, p.seq r⟩
theorem xs_one {s : Stmt} {t : XS} (h1 : PS X s (lS X.K E fr t)) : PSs X [s] (lS X.K E fr t) := pss_one h1
theorem xs_pass : PS X (.Pass pos) (lS X.K E fr xNext) := ps_imp ps_pass fun C σ H h => by
  obtain ⟨F, ρ, r, p⟩ := h
  exact p σ F H (Go.refl r)
def xBrk : XS := fun ρ => .brk ρ
def xCnt : XS := fun ρ => .cnt ρ
theorem xs_break : PS X (.Break pos) (lS X.K E fr xBrk) := ps_imp ps_break fun C σ H h => by
  obtain ⟨F, ρ, r, p⟩ := h
  exact p σ F H (Go.refl r)
theorem xs_continue : PS X (.Continue pos) (lS X.K E fr xCnt) := ps_imp ps_continue fun C σ H h => by
  obtain ⟨F, ρ, r, p⟩ := h
  exact p σ F H (Go.refl r)
def xDrop (te : XV) : XS := fun ρ => (te ρ).fl fun _ ρ1 => .nx ρ1
theorem xs_expr {e : Expr} {te : XV} (he : PE X e (lE X.K E te)) (hs : swapsWith e none pos.line X.env = pure false := by rfl) : PS X (.Expr e pos) (lS X.K E fr (xDrop te)) := ps_imp (ps_expr he hs) fun C σ H h => by
  obtain ⟨F, ρ, r, p⟩ := h
  exact ⟨F, ρ, r, (p.fl r).mono fun d ρ1 F1 H1 g q v rv => q σ F1 H1 (Go.refl g.rel)⟩
def xRet (te : XV) : XS := fun ρ => (te ρ).fl fun d ρ1 => .ret d ρ1
theorem xs_ret {e : Expr} {te : XV} (he : PE X e (lE X.K E te)) : PS X (.Return (some e) pos) (lS X.K E false (xRet te)) := ps_imp (ps_ret he) fun C σ H h => by
  obtain ⟨F, ρ, r, p⟩ := h
  exact ⟨F, ρ, r, (p.fl r).mono fun d ρ1 F1 H1 g q v rv => q.1 rfl v σ F1 H1 (Go.refl g.rel) rv⟩
theorem xs_retN {e : Expr} {te : XV} (he : PE X e (lN X.K E te)) : PS X (.Return (some e) pos) (lS X.K E true (xRet te)) := ps_imp (ps_ret he) fun C σ H h => by
  obtain ⟨F, ρ, r, p⟩ := h
  refine ⟨F, ρ, r, ?_⟩
  have r0 := r
  unfold PendS xRet at p
  unfold Pend
  split <;> rename_i e <;> simp only [e, Res.fl] at p
  · intro F1 H1 g b o h1 h2 h3 h4 h5
    exact p.2 rfl b o σ F1 H1 g h1 h2 h3 h4 h5
  · exact fun F1 H1 g => p σ F1 H1 g
def xIfS (t : XT) (a b : XS) : XS := fun ρ => (t ρ).fl fun c ρ1 => if c = true then a ρ1 else b ρ1
theorem xs_if {c : Expr} {a b : List Stmt} {tc : XT} {t u : XS} (hc : PT X c (lT X.K E tc)) (ha : PSs X a (lS X.K E fr t)) (hb : PSs X b (lS X.K E fr u)) : PS X (.If c a b pos) (lS X.K E fr (xIfS tc t u)) := ps_imp (ps_if hc ha hb) fun C σ H h => by
  obtain ⟨F, ρ, r, p⟩ := h
  refine ⟨F, ρ, r, (p.fl r).mono fun c ρ1 F1 H1 g q => ?_⟩
  cases c with
  | true => exact ⟨F1, ρ1, g.rel, q⟩
  | false => exact ⟨F1, ρ1, g.rel, q⟩

/-! ### targets: T tells which slots may be touched -/
abbrev XG := D → Rho → Option Rho
abbrev TT2 := L2.St → L2.St → Prop
def tAny : TT2 := fun _ _ => True
def tOnly (vs : List Nat) : TT2 := fun σ σ' => wipe σ' vs = wipe σ vs
class TOk (T : TT2) : Prop where
  rf : ∀ σ, T σ σ
  tr : ∀ a b c, T a b → T b c → T a c
instance : TOk tAny := ⟨fun _ => trivial, fun _ _ _ _ _ => trivial⟩
instance (vs : List Nat) : TOk (tOnly vs) := ⟨fun _ => rfl, fun _ _ _ h1 h2 => h2.trans h1⟩
def lG (K : PySem.W.Frag) (T : TT2) (g : XG) : TG := fun v σ H Q => ∃ F ρ d ρ', Rel K F H ρ σ ∧ Rp K F v d ∧ g d ρ = some ρ' ∧ ∀ σ', T σ σ' → Go K ρ σ F H ρ' σ' F H → Q σ' H
def lGs (K : PySem.W.Frag) (T : TT2) (g : List D → Rho → Option Rho) : TGs := fun vs σ H Q => ∃ F ρ ds ρ', Rel K F H ρ σ ∧ RpAll K F vs ds ∧ g ds ρ = some ρ' ∧ ∀ σ', T σ σ' → Go K ρ σ F H ρ' σ' F H → Q σ' H
theorem pg_imp {e : Expr} {t t' : TG} (h : PG X e t) (k : ∀ v σ H Q, t' v σ H Q → t v σ H Q) : PG X e t' := ⟨fun pins s σ H v u Q I rv q => h.run pins s σ H v u Q I rv (k v σ H Q q)⟩
theorem pgs_imp {e : List Expr} {t t' : TGs} (h : PGs X e t) (k : ∀ v σ H Q, t' v σ H Q → t v σ H Q) : PGs X e t' := ⟨fun pins s σ H v u Q I rv q => h.run pins s σ H v u Q I rv (k v σ H Q q)⟩
def gSet (i : Nat) : XG := fun d ρ => some (ρ.set i (.val d))
theorem wipe_in {σ : L2.St} {j : Nat} : ∀ {vs : List Nat}, j ∈ vs → (wipe σ vs)[j]? = if j < σ.length then some none else none
  | [], h => by cases h
  | v :: vs, h => by
    unfold wipe
    by_cases e : v = j
    · subst e
      by_cases hl : v < σ.length
      · rw [if_pos hl, List.getElem?_set_self (by rw [wipe_length]; exact hl)]
      · rw [if_neg hl, List.getElem?_eq_none (by rw [List.length_set, wipe_length]; omega)]
    · rw [List.getElem?_set_ne e]
      exact wipe_in (by rcases List.mem_cons.mp h with z | z; exact absurd z.symm e; exact z)
theorem wipe_not {σ : L2.St} {j : Nat} : ∀ {vs : List Nat}, j ∉ vs → (wipe σ vs)[j]? = σ[j]?
  | [], _ => rfl
  | v :: vs, h => by
    unfold wipe
    rw [List.getElem?_set_ne (fun e => h (by rw [e]; exact List.mem_cons_self ..))]
    exact wipe_not (fun z => h (List.mem_cons_of_mem _ z))
theorem wipe_set {σ : L2.St} {i : Nat} {x : Option V} {vs : List Nat} (h : i ∈ vs) : wipe (σ.set i x) vs = wipe σ vs := by
  apply List.ext_getElem?
  intro j
  by_cases hj : j ∈ vs
  · rw [wipe_in hj, wipe_in hj, List.length_set]
  · rw [wipe_not hj, wipe_not hj, List.getElem?_set_ne (show i ≠ j from fun e => hj (by rw [← e]; exact h))]
class TIn (T : TT2) (i : Nat) : Prop where
  ok : ∀ (σ : L2.St) (x : Option V), T σ (σ.set i x)
instance (i : Nat) : TIn tAny i := ⟨fun _ _ => trivial⟩
theorem TIn.of {vs : List Nat} {i : Nat} (h : i ∈ vs) : TIn (tOnly vs) i := ⟨fun _ _ => wipe_set h⟩
theorem xg_nameT {T : TT2} {i : Nat} {x : Str} (h0 : i ≠ 0) (hT : TIn T i) (hN : X.N.Nodup) (hi : X.N[i]? = some x) (hx : Loc X.env.scope x) (hf : X.fn x = true ∨ X.env.scope.names.lookup x = some .local := by first | exact .inl rfl | exact .inr rfl | assumption) : PG X (.Name x pos) (lG X.K T (gSet i)) :=
  pg_imp (pg_name hN hi hx hf) fun v σ H Q h => by
    obtain ⟨F, ρ, d, ρ', r, rv, e, q⟩ := h
    cases e
    exact q _ (hT.ok _ _) (Go.setVal h0 r rv)
theorem xg_name {i : Nat} {x : Str} (hN : X.N.Nodup) (hi : X.N[i]? = some x) (hx : Loc X.env.scope x) (h0 : i ≠ 0 := by decide) (hf : X.fn x = true ∨ X.env.scope.names.lookup x = some .local := by first | exact .inl rfl | exact .inr rfl | assumption) : PG X (.Name x pos) (lG X.K tAny (gSet i)) :=
  xg_nameT h0 inferInstance hN hi hx hf
theorem xg_nameW {vs : List Nat} {i : Nat} {x : Str} (hN : X.N.Nodup) (hi : X.N[i]? = some x) (hx : Loc X.env.scope x) (hm : i ∈ vs := by decide) (h0 : i ≠ 0 := by decide) (hf : X.fn x = true ∨ X.env.scope.names.lookup x = some .local := by first | exact .inl rfl | exact .inr rfl | assumption) : PG X (.Name x pos) (lG X.K (tOnly vs) (gSet i)) :=
  xg_nameT h0 (TIn.of hm) hN hi hx hf
def gsNil : List D → Rho → Option Rho := fun ds ρ => match ds with
  | [] => some ρ
  | _ => none
def gsCons (g : XG) (gs : List D → Rho → Option Rho) : List D → Rho → Option Rho := fun ds ρ => match ds with
  | d :: r => (g d ρ).bind (gs r)
  | [] => none
theorem xgs_nil {T : TT2} [TOk T] : PGs X [] (lGs X.K T gsNil) := pgs_imp pgs_nil fun v σ H Q h => by
  obtain ⟨F, ρ, ds, ρ', r, rv, e, q⟩ := h
  cases rv with
  | nil => cases e; exact ⟨rfl, q σ (TOk.rf σ) (Go.refl r)⟩
  | cons _ _ => cases e
theorem xgs_cons {T : TT2} [TOk T] {e : Expr} {es : List Expr} {t : XG} {u : List D → Rho → Option Rho} (h1 : PG X e (lG X.K T t)) (h2 : PGs X es (lGs X.K T u))
    (hs : (assignEach (e :: es) X.env).map (·.2) = assign e X.env :: (assignEach es X.env).map (·.2) := by rfl) : PGs X (e :: es) (lGs X.K T (gsCons t u)) := pgs_imp (pgs_cons h1 h2 hs) fun v σ H Q h => by
  obtain ⟨F, ρ, ds, ρ', r, rv, e, q⟩ := h
  cases rv with
  | nil => cases e
  | cons a b =>
    rename_i v vs d ds
    unfold gsCons at e
    simp only at e
    cases q1 : t d ρ with
    | none => rw [q1] at e; cases e
    | some ρ1 =>
      rw [q1] at e
      refine ⟨v, vs, rfl, F, ρ, d, ρ1, r, a, q1, fun σ1 t1 g1 => ⟨F, ρ1, ds, ρ', g1.rel, b, e, fun σ2 t2 g2 => q σ2 (TOk.tr _ _ _ t1 t2) (g1.trans r g2)⟩⟩
def gsTup (n : Nat) (gs : List D → Rho → Option Rho) : XG := fun d ρ => match d with
  | .tup ds => if ds.length = n then gs ds ρ else none
  | _ => none
theorem xg_tup {T : TT2} {es : List Expr} {k : Nat} {t : List D → Rho → Option Rho} {n : Nat} (hc : X.calm = true) (h : PGs X es (lGs X.K T t))
    (hn : (assignEach es X.env).length = n := by rfl) (hst : (assignEach es X.env).findIdx? (·.1) = none := by rfl) : PG X (.Tuple es k pos) (lG X.K T (gsTup n t)) := pg_imp (pg_tup hc h hn hst) fun v σ H Q h => by
  obtain ⟨F, ρ, d, ρ', r, rv, e, q⟩ := h
  cases rv with
  | tup hf ra =>
    rename_i a xs ds
    unfold gsTup at e
    simp only at e
    split at e
    · rename_i hl
      exact ⟨a, xs, rfl, SqT.of (r.ex _ _ hf), ra.length.trans hl, F, ρ, ds, ρ', r, ra, e, q⟩
    · cases e
  | non => cases e
  | bl _ => cases e
  | int _ => cases e
  | str _ => cases e
  | ty _ => cases e
  | lst _ _ => cases e
  | fix _ _ => cases e
  | dicK _ _ _ => cases e
  | dicT _ _ _ => cases e
  | dicN _ _ _ _ => cases e
def xAsg (te : XV) (g : XG) : XS := fun ρ => (te ρ).fl fun d ρ1 => match g d ρ1 with
  | some ρ2 => .nx ρ2
  | none => .bad
theorem asg_of {te : XV} {g : XG} {C : Ends} {σ : L2.St} {H : Hp} (h : lS X.K E fr (xAsg te g) C σ H) : tAsg (lE X.K E te) (lG X.K tAny g) C σ H := by
  obtain ⟨F, ρ, r, p⟩ := h
  refine ⟨F, ρ, r, (p.fl r).mono fun d ρ1 F1 H1 g1 q v rv => ?_⟩
  unfold PendS at q
  cases e : g d ρ1 with
  | none => simp only [e] at q
  | some ρ2 =>
    simp only [e] at q
    exact ⟨F1, ρ1, d, ρ2, g1.rel, rv, e, fun σ2 _ g2 => q σ2 F1 H1 g2⟩
theorem xs_asg {tg e : Expr} {te : XV} {g : XG} (he : PE X e (lE X.K E te)) (hg : PG X tg (lG X.K tAny g)) (hs : swapsWithSole [tg] e pos.line X.env = pure false := by rfl) (hw : swappedStores [tg] e X.env = pure none := by rfl)
    (h1 : (assignEach [tg] X.env).map (·.2) = [assign tg X.env] := by rfl) : PS X (.Assign [tg] e pos) (lS X.K E fr (xAsg te g)) := ps_imp (ps_asg he hg hs hw h1) fun C σ H h => asg_of h
abbrev xSet (i : Nat) (te : XV) : XS := xAsg te (gSet i)
theorem xs_set {i : Nat} {x : Str} {e : Expr} {te : XV} {pos' : Pos} (hN : X.N.Nodup) (hi : X.N[i]? = some x) (hx : Loc X.env.scope x) (he : PE X e (lE X.K E te)) (h0 : i ≠ 0 := by decide) (hs : swapsWith e (some (.Name x pos')) pos.line X.env = pure false := by rfl) (hf : X.fn x = true ∨ X.env.scope.names.lookup x = some .local := by first | exact .inl rfl | exact .inr rfl | assumption) :
    PS X (.Assign [.Name x pos'] e pos) (lS X.K E fr (xSet i te)) := ps_imp (ps_set hN hi hx he hs hf) fun C σ H h => by
  obtain ⟨F, ρ, r, p⟩ := h
  exact ⟨F, ρ, r, (p.fl r).mono fun d ρ1 F1 H1 g1 q v rv => q _ F1 H1 (Go.setVal h0 g1.rel rv)⟩
/-- a new object, owned -/
def xSetO (i : Nat) (te : XV) : XS := fun ρ => (te ρ).fl fun d ρ1 => .nx (ρ1.set i (.own d))
theorem seto_of {i : Nat} {te : XV} (h0 : i ≠ 0) {C : Ends} {σ : L2.St} {H : Hp} (h : lS X.K E fr (xSetO i te) C σ H) : tAsg (lN X.K E te) (gName i) C σ H := by
  obtain ⟨F, ρ, r, p⟩ := h
  refine ⟨F, ρ, r, ?_⟩
  unfold PendS xSetO at p
  unfold Pend
  split <;> rename_i e <;> simp only [e, Res.fl] at p
  · intro F1 H1 g b o h1 h2 h3 h4 h5
    exact p _ F1 H1 (Go.setOwn h0 r g h1 h2 h3 h4 h5)
  · exact fun F1 H1 g => p σ F1 H1 g
theorem xs_setO {i : Nat} {x : Str} {e : Expr} {te : XV} {pos' : Pos} (hN : X.N.Nodup) (hi : X.N[i]? = some x) (hx : Loc X.env.scope x) (he : PE X e (lN X.K E te)) (h0 : i ≠ 0 := by decide) (hs : swapsWith e (some (.Name x pos')) pos.line X.env = pure false := by rfl) (hf : X.fn x = true ∨ X.env.scope.names.lookup x = some .local := by first | exact .inl rfl | exact .inr rfl | assumption) :
    PS X (.Assign [.Name x pos'] e pos) (lS X.K E fr (xSetO i te)) := ps_imp (ps_set hN hi hx he hs hf) fun C σ H h => seto_of h0 h

/-! ### for -/
def Iters (K : PySem.W.Frag) (ρ : Rho) (σ : L2.St) (F H : Hp) (ds : List D) (J : It) : Prop := ∀ ρ2 σ2 F2 H2, Go K ρ σ F H ρ2 σ2 F2 H2 →
  (∀ i d, ds[i]? = some d → J.go i H2 ∧ ∀ x H3, J.yld i H2 x H3 → ∃ F3, Gr F2 H2 F3 H3 ∧ Rp K F3 x d) ∧ ∀ i, ds.length ≤ i → J.stop i H2
def lI (K : PySem.W.Frag) (E : EW) (t : XA) : TI := fun σ H R => ∃ F ρ, Rel K F H ρ σ ∧ Pend K E t ρ σ F H fun ds ρ' F' H' => ∀ J, Iters K ρ' σ F' H' ds J → R J H'
theorem pi_imp {tg it : Expr} {t t' : TI} (h : PI X tg it t) (k : ∀ σ H Q, t' σ H Q → t σ H Q) : PI X tg it t' := ⟨fun pins s σ H Q I q => h.run pins s σ H Q I (k σ H Q q)⟩
def forRun (g : XG) (body : XS) : List D → XS
  | [], ρ => .nx ρ
  | d :: r, ρ => match g d ρ with
    | none => .bad
    | some ρ1 => match body ρ1 with
      | .nx ρ2 => forRun g body r ρ2
      | .cnt ρ2 => forRun g body r ρ2
      | .brk ρ2 => .nx ρ2
      | f => f
def xFor (ti : XA) (g : XG) (body : XS) : XS := fun ρ => (ti ρ).fl fun ds ρ1 => forRun g body ds ρ1
theorem xs_for {tg iter : Expr} {body : List Stmt} {ti : XA} {g : XG} {tb : XS} (hp : PassesOwn (model X.prog X.w) X.A X.env X.xe) (hc : X.calm = true) (hi : PI X tg iter (lI X.K E ti)) (hg : PG X tg (lG X.K tAny g)) (hb : PSs X body (lS X.K E fr tb))
    (hs : ∀ x, foldedSetIterable iter X.env x = pure x := by intro _; rfl) : PS X (.For tg iter body [] pos) (lS X.K E fr (xFor ti g tb)) := by
  refine ps_imp (ps_for hp hc hi hg hb hs) fun C σ H h => ?_
  obtain ⟨F, ρ, r, p⟩ := h
  refine ⟨F, ρ, r, (p.fl r).mono fun ds ρ1 F1 H1 g1 q J hJ => ?_⟩
  refine ⟨fun i m σ' H' => m = ds.length - i ∧ i ≤ ds.length ∧ ∃ F' ρ', Go X.K ρ1 σ F1 H1 ρ' σ' F' H' ∧ PendS X.K E fr (forRun g tb (ds.drop i)) ρ' σ' F' H' C, ⟨ds.length, by simp, Nat.zero_le _, F1, ρ1, Go.refl g1.rel, by rw [List.drop_zero]; exact q⟩, ?_⟩
  rintro i m σ' H' ⟨rfl, hi, F', ρ', gg, q'⟩
  have r' := gg.rel
  obtain ⟨z1, z2⟩ := hJ ρ' σ' F' H' gg
  by_cases hlt : i < ds.length
  · refine .inr ⟨(z1 i _ (List.getElem?_eq_getElem hlt)).1, fun σ2 H2 => i + 1 ≤ ds.length ∧ ∃ F2 ρ2, Go X.K ρ1 σ F1 H1 ρ2 σ2 F2 H2 ∧ PendS X.K E fr (forRun g tb (ds.drop (i + 1))) ρ2 σ2 F2 H2 C, fun σ2 H2 hN => ⟨ds.length - (i + 1), by omega, rfl, hN.1, hN.2⟩, fun x H3 y => ?_⟩
    obtain ⟨F3, g3, rx⟩ := (z1 i _ (List.getElem?_eq_getElem hlt)).2 x H3 y
    have go3 := g3.go r'
    rw [List.drop_eq_getElem_cons hlt] at q'
    have q' := PendS.go (t := forRun g tb (ds[i] :: ds.drop (i + 1))) r' go3 q'
    unfold PendS forRun at q'
    cases e : g ds[i] ρ' with
    | none => simp only [e] at q'
    | some ρ4 =>
      simp only [e] at q'
      refine ⟨F3, ρ', ds[i], ρ4, go3.rel, rx, e, fun σ4 _ g4 => ⟨F3, ρ4, g4.rel, ?_⟩⟩
      have tail : ∀ {σ5 F5 H5 ρ5}, Go X.K ρ4 σ4 F3 H3 ρ5 σ5 F5 H5 → PendS X.K E fr (fun _ => forRun g tb (ds.drop (i + 1)) ρ5) ρ' σ' F3 H3 C → (i + 1 ≤ ds.length ∧ ∃ F2 ρ2, Go X.K ρ1 σ F1 H1 ρ2 σ5 F2 H5 ∧ PendS X.K E fr (forRun g tb (ds.drop (i + 1))) ρ2 σ5 F2 H5 C) :=
        fun {σ5 F5 H5 ρ5} g5 k => ⟨hlt, F5, ρ5, gg.trans g1.rel (go3.trans r' (g4.trans go3.rel g5)), PendS.go go3.rel (g4.trans go3.rel g5) k⟩
      unfold PendS
      split <;> rename_i e5 <;> simp only [e5] at q'
      · exact fun σ5 F5 H5 g5 => tail g5 q'
      · exact RetP.go go3.rel g4 q'
      · exact fun σ5 F5 H5 g5 => q' σ5 F5 H5 (g4.trans go3.rel g5)
      · exact fun σ5 F5 H5 g5 => tail g5 q'
      · exact fun σ5 F5 H5 g5 => q' σ5 F5 H5 (g4.trans go3.rel g5)
  · have e : i = ds.length := by omega
    subst e
    refine .inl ⟨z2 _ (Nat.le_refl _), ?_⟩
    rw [List.drop_length] at q'
    exact q' σ' F' H' (Go.refl r')
/-- the things that are walked: lists, tuples -/
def dItems : D → Option (List D)
  | .lst ds => some ds
  | .tup ds => some ds
  | .fix ds => some ds
  | _ => none
def dItL : D → Option (List D)
  | .lst ds => some ds
  | .fix ds => some ds
  | _ => none
def dItT : D → Option (List D)
  | .tup ds => some ds
  | _ => none
def xItL (t : XV) : XA := fun ρ => (t ρ).bind (lift dItL)
def xItT (t : XV) : XA := fun ρ => (t ρ).bind (lift dItT)
theorem iters_list {K : PySem.W.Frag} {ρ : Rho} {σ : L2.St} {F H : Hp} {a : Addr} {xs : List V} {ds : List D} (h : ∀ ρ2 σ2 F2 H2, Go K ρ σ F H ρ2 σ2 F2 H2 → SqL K H2 a xs) (r : RpAll K F xs ds) : Iters K ρ σ F H ds (Itl K a) := fun ρ2 σ2 F2 H2 g =>
  ⟨fun i d hd => by
    obtain ⟨v, hv, rv⟩ := r.get hd
    exact ⟨⟨xs, v, h ρ2 σ2 F2 H2 g, hv⟩, fun x H3 y => by
      obtain ⟨e, y⟩ := y
      subst e
      have := y xs (h ρ2 σ2 F2 _ g)
      rw [hv] at this
      cases this
      exact ⟨F2, Gr.refl g.rel.ex, rv.mono g.ex⟩⟩, fun i hi => ⟨xs, h ρ2 σ2 F2 H2 g, by rw [r.length]; exact hi⟩⟩
theorem iters_tup {K : PySem.W.Frag} {ρ : Rho} {σ : L2.St} {F H : Hp} {a : Addr} {xs : List V} {ds : List D} (h : F a = some (.tup xs)) (r : RpAll K F xs ds) : Iters K ρ σ F H ds (Itt K a) := fun ρ2 σ2 F2 H2 g =>
  have q : SqT K H2 a xs := SqT.of (g.rel.ex _ _ (g.ex _ _ h))
  ⟨fun i d hd => by
    obtain ⟨v, hv, rv⟩ := r.get hd
    exact ⟨⟨xs, v, q, hv⟩, fun x H3 y => by
      obtain ⟨e, y⟩ := y
      subst e
      have := y xs q
      rw [hv] at this
      cases this
      exact ⟨F2, Gr.refl g.rel.ex, rv.mono g.ex⟩⟩, fun i hi => ⟨xs, q, by rw [r.length]; exact hi⟩⟩
/-- range(n), range(a, b) -/
def rangeD (lo : Int) (n : Nat) : List D := (List.range n).map fun i => .int (lo + (i : Nat))
/-- -(2 ^ 62) ≤ n < 2 ^ 62, told so that the kernel does not count down -/
def inR : Int → Bool
  | .ofNat m => Nat.ble m 4611686018427387903
  | .negSucc m => Nat.ble m 4611686018427387903
theorem inR_iff (n : Int) : inR n = true ↔ -(2 ^ 62) ≤ n ∧ n < 2 ^ 62 := by
  cases n with
  | ofNat m =>
    unfold inR
    simp only [Nat.ble_eq, Int.ofNat_eq_natCast]
    omega
  | negSucc m =>
    unfold inR
    simp only [Nat.ble_eq, Int.negSucc_eq]
    omega
def dRange1 : D → Option (List D)
  | .int n => if inR n = true then some (rangeD 0 n.toNat) else none
  | _ => none
def dRange2 : D → D → Option (List D)
  | .int a, .int b => if inR a = true ∧ inR b = true then some (rangeD a (b - a).toNat) else none
  | _, _ => none
def xItR1 (t : XV) : XA := fun ρ => (t ρ).bind (lift dRange1)
def xItR2 (ta tb : XV) : XA := fun ρ => (ta ρ).bind fun x ρ1 => (tb ρ1).bind (lift (dRange2 x))
theorem iters_range {K : PySem.W.Frag} {ρ : Rho} {σ : L2.St} {F H : Hp} {lo : Int} {n : Nat} : Iters K ρ σ F H (rangeD lo n) (Itr lo n) := by
  intro ρ2 σ2 F2 H2 g
  refine ⟨fun i d hd => ?_, fun i hi => ?_⟩
  · unfold rangeD at hd
    rw [List.getElem?_map] at hd
    by_cases hi : i < n
    · rw [List.getElem?_range hi] at hd
      cases hd
      refine ⟨hi, fun x H3 y => ?_⟩
      obtain ⟨e, y⟩ := y
      subst e y
      exact ⟨F2, Gr.refl g.rel.ex, .int _⟩
    · rw [List.getElem?_eq_none (by rw [List.length_range]; omega)] at hd
      cases hd
  · unfold rangeD at hi
    rw [List.length_map, List.length_range] at hi
    exact hi
theorem dRange1_of {d : D} {ds : List D} (e : dRange1 d = some ds) : ∃ n : Int, d = .int n ∧ (-(2 ^ 62) ≤ n ∧ n < 2 ^ 62) ∧ ds = rangeD 0 n.toNat := by
  unfold dRange1 at e
  split at e
  · split at e
    · rename_i n hb
      cases e
      exact ⟨n, rfl, (inR_iff n).mp hb, rfl⟩
    · cases e
  · cases e
theorem dRange2_of {d e : D} {ds : List D} (h : dRange2 d e = some ds) : ∃ a b : Int, d = .int a ∧ e = .int b ∧ ((-(2 ^ 62) ≤ a ∧ a < 2 ^ 62) ∧ -(2 ^ 62) ≤ b ∧ b < 2 ^ 62) ∧ ds = rangeD a (b - a).toNat := by
  unfold dRange2 at h
  split at h
  · split at h
    · rename_i a b hb
      cases h
      exact ⟨a, b, rfl, rfl, ⟨(inR_iff a).mp hb.1, (inR_iff b).mp hb.2⟩, rfl⟩
    · cases h
  · cases h
theorem xi_range1 {tg e : Expr} {p : Pos} {t : XV} (hg : Gl X "range") (hm : X.mg "range" = none) (ha : PE X e (lE X.K E t)) (hs : starEach [e] X.env = [(false, eval e X.env)] := by rfl) :
    PI X tg (.Call (.Name "range" p) [e] [] pos) (lI X.K E (xItR1 t)) := pi_imp (pi_range1 hg hm (pa_cons ha pa_nil hs) hs) fun σ H R h => by
  obtain ⟨F, ρ, r, p⟩ := h
  refine ⟨F, ρ, r, (Pend.bind r p).mono fun x ρ1 F1 H1 g1 q v rv => ?_⟩
  obtain ⟨d, e, q⟩ := q.lift
  obtain ⟨n, rfl, hb, rfl⟩ := dRange1_of e
  cases rv
  have := q F1 H1 (Go.refl g1.rel) _ iters_range
  exact ⟨n, rfl, hb.1, hb.2, this⟩
theorem xi_range2 {tg e e2 : Expr} {p : Pos} {t t2 : XV} (hg : Gl X "range") (hm : X.mg "range" = none) (ha : PE X e (lE X.K E t)) (hb : PE X e2 (lE X.K E t2)) (hs : starEach [e, e2] X.env = (false, eval e X.env) :: starEach [e2] X.env := by rfl)
    (hs2 : starEach [e2] X.env = [(false, eval e2 X.env)] := by rfl) (hpl : (backTo pos (starEach [e2] X.env)).any (·.1) = false := by rfl) :
    PI X tg (.Call (.Name "range" p) [e, e2] [] pos) (lI X.K E (xItR2 t t2)) := pi_imp (pi_range2 hg hm (pa_cons ha (pa_cons hb pa_nil hs2) hs) (hs.trans (by rw [hs2])) hs2) fun σ H R h => by
  obtain ⟨F, ρ, r, p⟩ := h
  refine ⟨F, ρ, r, (Pend.bind r p).mono fun x ρ1 F1 H1 g1 q v rv => ⟨F1, ρ1, g1.rel, (Pend.bind g1.rel q).mono fun y ρ2 F2 H2 g2 q w rw => ?_⟩⟩
  obtain ⟨d, e, q⟩ := q.lift
  obtain ⟨a, b, rfl, rfl, hb, rfl⟩ := dRange2_of e
  cases rv
  cases rw
  have := q F2 H2 (Go.refl g2.rel) _ iters_range
  exact ⟨a, b, rfl, ⟨hb.1.1, hb.1.2, hb.2.1, hb.2.2⟩, this⟩
end
end G

namespace G
open PySem PySem.Spec PyProof.Rows L2

/-! ### comprehensions -/
def wipeR (ρ : Rho) : List Nat → Rho
  | [] => ρ
  | v :: vs => (wipeR ρ vs).set v .emp
def backR (ρ₀ ρ : Rho) : List Nat → Rho
  | [] => ρ
  | v :: vs => (backR ρ₀ ρ vs).set v (ρ₀.getD v .emp)
def noOwn (ρ : Rho) (vs : List Nat) : Bool := vs.all fun v => match ρ[v]? with
  | some (.own _) => false
  | _ => true
def Res.bindX {α β : Type} (r : Res α) (f : α → Rho → Res β) : Res β := match r with
  | .ok a ρ => f a ρ
  | _ => .bad
def xYes : XT := fun ρ => .ok true ρ
def lcRun (g : XG) (tt : XT) (te : XV) (vs : List Nat) : List D → List D → Rho → Res (List D)
  | [], acc, ρ => .ok acc ρ
  | d :: r, acc, ρ => match g d (wipeR ρ vs) with
    | none => .bad
    | some ρ1 => (tt ρ1).bindX fun b ρ2 => if b = true then (te ρ2).bindX fun y ρ3 => lcRun g tt te vs r (acc ++ [y]) (backR ρ ρ3 vs) else lcRun g tt te vs r acc (backR ρ ρ2 vs)
def xLC (ti : XA) (g : XG) (tt : XT) (te : XV) (vs : List Nat) : XV := fun ρ => (ti ρ).bind fun ds ρ1 =>
  if ds.length ≤ sizeLine ∧ noOwn ρ1 vs = true then (lcRun g tt te vs ds [] ρ1).bind fun acc ρ2 => .ok (.lst acc) ρ2 else .bad

section
variable {K : PySem.W.Frag} {F H F1 H1 : Hp} {ρ ρ1 : Rho} {σ σ1 : L2.St}
theorem wipeR_length (ρ : Rho) : ∀ vs : List Nat, (wipeR ρ vs).length = ρ.length
  | [] => rfl
  | v :: vs => by unfold wipeR; rw [List.length_set, wipeR_length ρ vs]
theorem backR_length (ρ₀ ρ : Rho) : ∀ vs : List Nat, (backR ρ₀ ρ vs).length = ρ.length
  | [] => rfl
  | v :: vs => by unfold backR; rw [List.length_set, backR_length ρ₀ ρ vs]
theorem wipeR_in {j : Nat} {s : Slot} : ∀ {vs : List Nat}, j ∈ vs → (wipeR ρ vs)[j]? = some s → s = .emp
  | [], h, _ => by cases h
  | v :: vs, h, e => by
    unfold wipeR at e
    rcases get_set e with ⟨_, q⟩ | ⟨hv, e⟩
    · exact q
    · exact wipeR_in (by rcases List.mem_cons.mp h with z | z; exact absurd z.symm hv; exact z) e
theorem wipeR_not {j : Nat} : ∀ {vs : List Nat}, j ∉ vs → (wipeR ρ vs)[j]? = ρ[j]?
  | [], _ => rfl
  | v :: vs, h => by
    unfold wipeR
    rw [List.getElem?_set_ne (fun e => h (by rw [e]; exact List.mem_cons_self ..))]
    exact wipeR_not (fun z => h (List.mem_cons_of_mem _ z))
theorem backR_in {ρ₀ : Rho} {j : Nat} {s : Slot} : ∀ {vs : List Nat}, j ∈ vs → (backR ρ₀ ρ vs)[j]? = some s → s = ρ₀.getD j .emp
  | [], h, _ => by cases h
  | v :: vs, h, e => by
    unfold backR at e
    rcases get_set e with ⟨e1, q⟩ | ⟨hv, e⟩
    · rw [← e1]; exact q
    · exact backR_in (by rcases List.mem_cons.mp h with z | z; exact absurd z.symm hv; exact z) e
theorem backR_not {ρ₀ : Rho} {j : Nat} : ∀ {vs : List Nat}, j ∉ vs → (backR ρ₀ ρ vs)[j]? = ρ[j]?
  | [], _ => rfl
  | v :: vs, h => by
    unfold backR
    rw [List.getElem?_set_ne (fun e => h (by rw [e]; exact List.mem_cons_self ..))]
    exact backR_not (fun z => h (List.mem_cons_of_mem _ z))
theorem noOwn_at {vs : List Nat} (h : noOwn ρ vs = true) {j : Nat} (hj : j ∈ vs) {d : D} (e : ρ[j]? = some (.own d)) : False := by
  have := List.all_eq_true.mp h j hj
  rw [e] at this
  cases this
theorem own_wipe {vs : List Nat} {p : Addr} (h : Own (wipeR ρ vs) (wipe σ vs) p) : Own ρ σ p := by
  obtain ⟨j, d, h1, h2⟩ := h
  by_cases hj : j ∈ vs
  · cases wipeR_in hj h1
  · rw [wipeR_not hj] at h1
    rw [wipe_not hj] at h2
    exact ⟨j, d, h1, h2⟩
theorem own_wipe' {vs : List Nat} (hn : noOwn ρ vs = true) {p : Addr} (h : Own ρ σ p) : Own (wipeR ρ vs) (wipe σ vs) p := by
  obtain ⟨j, d, h1, h2⟩ := h
  have hj : j ∉ vs := fun hj => noOwn_at hn hj h1
  exact ⟨j, d, by rw [wipeR_not hj]; exact h1, by rw [wipe_not hj]; exact h2⟩
theorem Rel.wipe (r : Rel K F H ρ σ) (vs : List Nat) : Rel K F H (wipeR ρ vs) (wipe σ vs) := by
  refine ⟨r.ex, by rw [wipeR_length, wipe_length]; exact r.len, fun j s o h1 h2 => ?_, fun j k d1 d2 p h1 h2 h3 h4 => ?_, fun j d p h1 h2 h3 => ?_⟩
  rotate_right
  · have g1 : j ∉ vs := fun hj => by cases wipeR_in hj h1
    rw [wipeR_not g1] at h1
    rw [wipe_not g1] at h2
    exact r.rdis j d p h1 h2 (own_wipe h3)
  · by_cases hj : j ∈ vs
    · rw [wipeR_in hj h1]; exact .emp
    · rw [wipeR_not hj] at h1
      rw [wipe_not hj] at h2
      exact r.at' j s o h1 h2
  · have g1 : j ∉ vs := fun hj => by cases wipeR_in hj h1
    have g2 : k ∉ vs := fun hj => by cases wipeR_in hj h2
    rw [wipeR_not g1] at h1
    rw [wipeR_not g2] at h2
    rw [wipe_not g1] at h3
    rw [wipe_not g2] at h4
    exact r.dis j k d1 d2 p h1 h2 h3 h4
/-- out of a turn of a comprehension: what it was given is as before, but what is owned may have changed -/
theorem Go.back {vs : List Nat} (hv0 : 0 ∉ vs) (r : Rel K F H ρ σ) (hn : noOwn ρ vs = true) (g : Go K (wipeR ρ vs) (L2.wipe σ vs) F H ρ1 σ1 F1 H1) (hw : L2.wipe σ1 vs = L2.wipe σ vs) : Go K ρ σ F H (backR ρ ρ1 vs) σ F1 H1 := by
  have same : ∀ j, j ∉ vs → σ1[j]? = σ[j]? := fun j hj => by
    have e := congrArg (fun l => l[j]?) hw
    simp only [wipe_not hj] at e
    exact e
  have lens : σ1.length = σ.length := by
    have e := congrArg List.length hw
    rw [wipe_length, wipe_length] at e
    exact e
  have ob : ∀ p, Own (backR ρ ρ1 vs) σ p → Own ρ1 σ1 p ∧ True := fun p ⟨j, d, h1, h2⟩ => by
    by_cases hj : j ∈ vs
    · have e := backR_in hj h1
      rw [List.getD_eq_getElem?_getD] at e
      cases q : ρ[j]? with
      | none => rw [q] at e; cases e
      | some s => rw [q] at e; exact (noOwn_at hn hj (q.trans (congrArg some e.symm))).elim
    · rw [backR_not hj] at h1
      exact ⟨⟨j, d, h1, (same j hj).trans h2⟩, trivial⟩
  have rdj : ∀ (j : Nat) (d : D), (backR ρ ρ1 vs)[j]? = some (.rd d) → ρ[j]? = some (.rd d) := fun j d h => by
    by_cases hj : j ∈ vs
    · have e := backR_in hj h
      rw [List.getD_eq_getElem?_getD] at e
      cases q : ρ[j]? with
      | none => rw [q] at e; cases e
      | some s => rw [q] at e; exact congrArg some e.symm
    · rw [backR_not hj] at h
      obtain ⟨k1, _⟩ := g.rdb j d h
      rw [wipeR_not hj] at k1
      exact k1
  refine ⟨⟨g.rel.ex, ?_, fun j s o h1 h2 => ?_, fun j k d1 d2 p h1 h2 h3 h4 => ?_, fun j d p h1 h2 h3 => ?_⟩, g.ex, fun a o h1 h2 h3 => g.keep a o h1 h2 fun z => h3 (own_wipe z), fun p h => ?_, rfl, fun d h => ?_, fun j d h => ⟨rdj j d h, rfl⟩⟩
  rotate_left 3
  · have k1 := rdj j d h1
    rcases g.own p (ob p h3).1 with z | z
    · exact r.rdis j d p k1 h2 (own_wipe z)
    · have y := r.at' j _ _ k1 h2
      cases y with
      | rd ra =>
        cases ra with
        | own _ y _ => rw [z] at y; cases y
        | val rp nf => exact rp_at rp nf (r.ex.free z)
  rotate_right
  rotate_right
  rotate_right
  · rw [backR_length, g.rel.len, lens]
  · by_cases hj : j ∈ vs
    · have e := backR_in hj h1
      rw [List.getD_eq_getElem?_getD] at e
      cases q : ρ[j]? with
      | none => rw [q] at e; rw [e]; exact .emp
      | some u =>
        rw [q] at e
        have e' : s = u := e
        subst e'
        have z := r.at' j s o q h2
        cases z with
        | emp => exact .emp
        | adr => exact .adr
        | val rp => exact .val (rp.mono g.ex)
        | own _ _ _ => exact (noOwn_at hn hj q).elim
        | rd ra =>
          refine .rd (ra.step g.ex fun p' u hn eq e1 e2 => ?_)
          obtain ⟨m1, m2⟩ := g.keep p' u e1 e2 fun z => by
            subst eq
            exact r.rdis j _ _ q h2 (own_wipe z)
          exact ⟨m1, m2 hn⟩
    · rw [backR_not hj] at h1
      exact g.rel.at' j s o h1 ((same j hj).trans h2)
  · have notin : ∀ (m : Nat) (e : D), (backR ρ ρ1 vs)[m]? = some (.own e) → m ∉ vs := fun m e h hm => by
      have e := backR_in hm h
      rw [List.getD_eq_getElem?_getD] at e
      cases q : ρ[m]? with
      | none => rw [q] at e; cases e
      | some u =>
        rw [q] at e
        exact noOwn_at hn hm (q.trans (congrArg some e.symm))
    have n1 := notin j d1 h1
    have n2 := notin k d2 h2
    rw [backR_not n1] at h1
    rw [backR_not n2] at h2
    exact g.rel.dis j k d1 d2 p h1 h2 ((same j n1).trans h3) ((same k n2).trans h4)
  · rcases g.own p (ob p h).1 with z | z
    · exact .inl (own_wipe z)
    · exact .inr z
  · obtain ⟨d', h'⟩ := g.lowO d (by rw [wipeR_not hv0]; exact h)
    exact ⟨d', by rw [backR_not hv0]; exact h'⟩
theorem noOwn_back {vs : List Nat} {ρ₀ : Rho} (hn : noOwn ρ₀ vs = true) : noOwn (backR ρ₀ ρ vs) vs = true := by
  refine List.all_eq_true.mpr fun j hj => ?_
  cases q : (backR ρ₀ ρ vs)[j]? with
  | none => rfl
  | some s =>
    have e := backR_in hj q
    rw [List.getD_eq_getElem?_getD] at e
    cases q2 : ρ₀[j]? with
    | none => rw [q2] at e; rw [e]; rfl
    | some u =>
      rw [q2] at e
      have e' : s = u := e
      subst e'
      have := List.all_eq_true.mp hn j hj
      rw [q2] at this
      exact this
theorem rd_new {p : Addr} (r : Rel K F H ρ σ) (g : Go K ρ σ F H ρ1 σ1 F1 H1) (h0 : H p = none) (j : Nat) (d : D) (h1 : ρ1[j]? = some (.rd d)) (h2 : σ1[j]? = some (some (.ref p))) : False := by
  obtain ⟨k1, k2⟩ := g.rdb j d h1
  rw [k2] at h2
  have y := r.at' j _ _ k1 h2
  cases y with
  | rd ra =>
    cases ra with
    | own _ y _ => rw [h0] at y; cases y
    | val rp nf => exact rp_at rp nf (r.ex.free h0)
/-- an object that was not known at the start changes -/
theorem Go.touch {p : Addr} {o o' : HO} (r : Rel K F H ρ σ) (g : Go K ρ σ F H ρ1 σ1 F1 H1) (h0 : H p = none) (hf : F1 p = none) (hh : H1 p = some o) (hn : ¬ Own ρ1 σ1 p) : Go K ρ σ F H ρ1 σ1 F1 (upd H1 p o') := by
  refine ⟨⟨fun b u q => by rw [upd_ne (ne_of_none q hf)]; exact g.rel.ex b u q, g.rel.len, fun j s v h1 h2 => ?_, g.rel.dis, g.rel.rdis⟩, g.ex, fun a u h1 h2 h3 => ?_, g.own, g.low, g.lowO, g.rdb⟩
  · have z := g.rel.at' j s v h1 h2
    cases z with
    | emp => exact .emp
    | adr => exact .adr
    | val rp => exact .val rp
    | own z1 z2 z3 =>
      refine .own z1 ?_ z3
      rw [upd_ne]
      · exact z2
      · rintro rfl
        exact hn ⟨j, _, h1, h2⟩
    | rd ra =>
      refine .rd (ra.step (Same.refl F1) fun q u _ eq e1 e2 => ⟨?_, e2⟩)
      subst eq
      rw [upd_ne]
      · exact e1
      · rintro rfl
        exact rd_new r g h0 j _ h1 h2
  · obtain ⟨q1, q2⟩ := g.keep a u h1 h2 h3
    refine ⟨?_, q2⟩
    rw [upd_ne (ne_of_none h1 h0)]
    exact q1
end
section
variable {X : Cx} {E : EW} {fr : Bool} {pos : Pos}
abbrev E0 : EW := fun _ _ _ => False
theorem Pend.bindX {K : PySem.W.Frag} {σ : L2.St} {F H : Hp} {ρ : Rho} {α β : Type} {t : Rho → Res α} {f : α → Rho → Res β} {Q : β → Rho → Hp → Hp → Prop} (r : Rel K F H ρ σ) (h : Pend K E (fun ρ => (t ρ).bindX f) ρ σ F H Q) :
    Pend K E0 t ρ σ F H fun a ρ1 F1 H1 => Pend K E (f a) ρ1 σ F1 H1 Q := by
  unfold Pend at h ⊢
  split <;> rename_i e <;> simp only [e, Res.bindX] at h
  intro F1 H1 g
  split <;> rename_i e2 <;> rw [e2] at h
  · exact fun F2 H2 g2 => h F2 H2 (g.trans r g2)
  · exact fun F2 H2 g2 => h F2 H2 (g.trans r g2)
  · exact h
theorem Pend.go {K : PySem.W.Frag} {σ : L2.St} {F H F1 H1 : Hp} {ρ ρ1 : Rho} {α : Type} {t : Rho → Res α} {Q : α → Rho → Hp → Hp → Prop} (r : Rel K F H ρ σ) (g : Go K ρ σ F H ρ1 σ F1 H1) (h : Pend K E (fun _ => t ρ1) ρ σ F H Q) : Pend K E t ρ1 σ F1 H1 Q := by
  unfold Pend at h ⊢
  split <;> rename_i e2 <;> rw [e2] at h
  · exact fun F2 H2 g2 => h F2 H2 (g.trans r g2)
  · exact fun F2 H2 g2 => h F2 H2 (g.trans r g2)
  · exact h
/-- a run that is already known -/
abbrev PendR (K : PySem.W.Frag) (E : EW) {α : Type} (x : Res α) (ρ : Rho) (σ : L2.St) (F H : Hp) (Q : α → Rho → Hp → Hp → Prop) : Prop := Pend K E (fun _ => x) ρ σ F H Q
theorem PendR.bindX {K : PySem.W.Frag} {σ σ4 : L2.St} {F H F3 H3 : Hp} {ρ ρ4 : Rho} {α β : Type} {t : Rho → Res α} {f : α → Rho → Res β} {Q : β → Rho → Hp → Hp → Prop} (h : PendR K E ((t ρ4).bindX f) ρ σ F H Q) :
    Pend K E0 t ρ4 σ4 F3 H3 fun a ρ5 _ _ => PendR K E (f a ρ5) ρ σ F H Q := by
  unfold PendR Pend at h
  unfold Pend
  cases e : t ρ4 with
  | ok a ρ5 =>
    rw [e] at h
    exact fun _ _ _ => h
  | exc c ρ5 => rw [e] at h; exact h.elim
  | bad => rw [e] at h; exact h.elim
theorem wipe_wipe (σ : L2.St) (vs : List Nat) : wipe (wipe σ vs) vs = wipe σ vs := by
  apply List.ext_getElem?
  intro j
  by_cases hj : j ∈ vs
  · rw [wipe_in hj, wipe_in hj, wipe_length]
  · rw [wipe_not hj]
theorem lc_of {ti : XA} {g : XG} {tt : XT} {te : XV} {vs : List Nat} (hv0 : 0 ∉ vs) {σ : L2.St} {H : Hp} {Q : VK} (h : lN X.K E (xLC ti g tt te vs) σ H Q) : tLc (lI X.K E ti) (lG X.K (tOnly vs) g) (lT X.K E0 tt) (lE X.K E0 te) vs σ H Q := by
  obtain ⟨F, ρ, r, p⟩ := h
  refine ⟨F, ρ, r, (Pend.bind r p).mono fun ds ρ1 F1 H1 g1 q J hJ A hA => ?_⟩
  by_cases hc : ds.length ≤ sizeLine ∧ noOwn ρ1 vs = true
  rotate_left
  · unfold Pend at q
    simp only [hc, if_false] at q
  obtain ⟨hz, hno⟩ := hc
  have r1 := g1.rel
  have hAF : F1 A = none := r1.ex.free hA
  have q0 : PendR X.K E (lcRun g tt te vs ds [] ρ1) ρ1 σ F1 H1 fun acc ρ' F' H' => ∀ p o, F' p = none → H' p = some o → Ro X.K F' p o (.lst acc) → ¬ Own ρ' σ p → (Own ρ σ p ∨ H p = none) → Q (.ref p) H' := by
    unfold Pend at q
    simp only [hz, hno, and_self, if_true] at q
    unfold PendR Pend
    cases e : lcRun g tt te vs ds [] ρ1 with
    | ok a ρ5 => rw [e] at q; exact q
    | exc c ρ5 => rw [e] at q; exact q
    | bad => rw [e] at q; exact q
  have start := (Gr.newO (o := .lst []) r1.ex hA).go r1
  refine ⟨fun i m H' => m = ds.length - i ∧ i ≤ ds.length ∧ ∃ F' ρ' acc xs, Go X.K ρ1 σ F1 H1 ρ' σ F' H' ∧ noOwn ρ' vs = true ∧ F' A = none ∧ H' A = some (.lst xs) ∧ RpAll X.K F' xs acc ∧ acc.length ≤ i ∧ ¬ Own ρ' σ A ∧
    PendR X.K E (lcRun g tt te vs (ds.drop i) acc ρ') ρ1 σ F1 H1 fun acc ρ' F' H' => ∀ p o, F' p = none → H' p = some o → Ro X.K F' p o (.lst acc) → ¬ Own ρ' σ p → (Own ρ σ p ∨ H p = none) → Q (.ref p) H', ⟨ds.length, by simp, Nat.zero_le _, F1, ρ1, [], [], start, hno, hAF, upd_same, .nil, Nat.le_refl _, not_own_new r1 hA, by rw [List.drop_zero]; exact q0⟩, ?_⟩
  rintro i m H' ⟨rfl, hi, F', ρ', acc, xs, go, hno', hf, hh, ra, hl, hn, q'⟩
  have r' := go.rel
  obtain ⟨z1, z2⟩ := hJ ρ' σ F' H' go
  by_cases hlt : i < ds.length
  · refine .inr ⟨(z1 i _ (List.getElem?_eq_getElem hlt)).1, fun H2 => i + 1 ≤ ds.length ∧ ∃ F' ρ' acc xs, Go X.K ρ1 σ F1 H1 ρ' σ F' H2 ∧ noOwn ρ' vs = true ∧ F' A = none ∧ H2 A = some (.lst xs) ∧ RpAll X.K F' xs acc ∧ acc.length ≤ i + 1 ∧ ¬ Own ρ' σ A ∧
      PendR X.K E (lcRun g tt te vs (ds.drop (i + 1)) acc ρ') ρ1 σ F1 H1 fun acc ρ' F' H' => ∀ p o, F' p = none → H' p = some o → Ro X.K F' p o (.lst acc) → ¬ Own ρ' σ p → (Own ρ σ p ∨ H p = none) → Q (.ref p) H', fun H2 hN => ⟨ds.length - (i + 1), by omega, rfl, hN.1, hN.2⟩, fun x H3 y => ?_⟩
    obtain ⟨F3, g3, rx⟩ := (z1 i _ (List.getElem?_eq_getElem hlt)).2 x H3 y
    have go3 := go.trans r1 (g3.go r')
    rw [List.drop_eq_getElem_cons hlt] at q'
    have fD3 : F3 A = none := g3.keep A _ nt_lst hh hf
    have hD3 : H3 A = some (.lst xs) := g3.exH A _ hh
    have rw3 := go3.rel.wipe vs
    unfold lcRun at q'
    cases e : g ds[i] (wipeR ρ' vs) with
    | none => unfold PendR Pend at q'; simp only [e] at q'
    | some ρ4 =>
      simp only [e] at q'
      refine ⟨F3, wipeR ρ' vs, ds[i], ρ4, rw3, rx, e, fun σ4 t4 g4 => ⟨(show wipe σ4 vs = wipe (wipe σ vs) vs from t4).trans (wipe_wipe σ vs), F3, ρ4, g4.rel, (PendR.bindX q').mono fun b ρ5 F5 H5 g5 q5 => ?_⟩⟩
      have hw4 : wipe σ4 vs = wipe σ vs := (show wipe σ4 vs = wipe (wipe σ vs) vs from t4).trans (wipe_wipe σ vs)
      have nb : ∀ {ρ5 F5 H5}, Go X.K ρ4 σ4 F3 H3 ρ5 σ4 F5 H5 → Go X.K ρ1 σ F1 H1 (backR ρ' ρ5 vs) σ F5 H5 ∧ F5 A = none ∧ H5 A = some (.lst xs) ∧ ¬ Own (backR ρ' ρ5 vs) σ A ∧ Same F' F5 := fun {ρ5 F5 H5} g5 => by
        have gg := g4.trans rw3 g5
        have b := Go.back hv0 go3.rel hno' gg hw4
        obtain ⟨k1, k2⟩ := b.keep A _ hD3 fD3 hn
        refine ⟨go3.trans r1 b, k2 nt_lst, k1, fun z => ?_, g3.ex.trans b.ex⟩
        rcases b.own A z with z | z
        · exact hn z
        · rw [hD3] at z; cases z
      cases b with
      | false =>
        obtain ⟨n1, n2, n3, n4, n5⟩ := nb g5
        exact ⟨hlt, F5, _, acc, xs, n1, noOwn_back hno', n2, n3, ra.mono n5, Nat.le_succ_of_le hl, n4, q5⟩
      | true =>
        refine ⟨F5, ρ5, g5.rel, (PendR.bindX q5).mono fun y ρ6 F6 H6 g6 q6 v rv => ?_⟩
        obtain ⟨n1, n2, n3, n4, n5⟩ := nb (g5.trans g4.rel g6)
        refine ⟨xs, n3, ?_, hlt, F6, _, acc ++ [y], xs ++ [v], n1.touch r1 hA n2 n3 n4, noOwn_back hno', n2, upd_same, (ra.mono n5).snoc rv, ?_, n4, q6⟩
        · rw [ra.length]
          omega
        · rw [List.length_append]
          simp only [List.length_cons, List.length_nil]
          omega
  · have e : i = ds.length := by omega
    subst e
    refine .inl ⟨z2 _ (Nat.le_refl _), ?_⟩
    rw [List.drop_length] at q'
    exact q' F' H' go A _ hf hh (.lst ra) hn (own_back r g1 (.inr hA))
theorem xn_lc {elt tg iter : Expr} {ifs : List Expr} {scope : Scope} {own : List (Str × Nat)} {ti : XA} {g : XG} {tt : XT} {te : XV} (hc : X.calm = true) (hN : X.N.Nodup) (hi : PI X tg iter (lI X.K E ti)) (ok : BlkOk X.N X.env.scope scope own)
    (hg : ∀ (s : Shared) (H : Hp) (C : Addr) (cl : List (Str × Addr)) (fp : List Addr), PG (X.blk s H scope (compEnvC scope cl C X.env) fp) tg (lG X.K (tOnly (own.map (·.2))) g)) (ht : ∀ (s : Shared) (H : Hp) (C : Addr) (cl : List (Str × Addr)) (fp : List Addr), PTs (X.blk s H scope (compEnvC scope cl C X.env) fp) ifs (lT X.K E0 tt))
    (he : ∀ (s : Shared) (H : Hp) (C : Addr) (cl : List (Str × Addr)) (fp : List Addr), PE (X.blk s H scope (compEnvC scope cl C X.env) fp) elt (lE X.K E0 te)) (hv0 : 0 ∉ own.map (·.2) := by decide) (hs : ∀ x, foldedSetIterable iter X.env x = pure x := by intro _; rfl) :
    PE X (.ListComp elt [⟨tg, iter, ifs, 0⟩] scope pos) (lN X.K E (xLC ti g tt te (own.map (·.2)))) := pe_imp (pe_lc hc hN hi ok hg ht he hs) fun σ H Q h => lc_of hv0 h
/-- y = [..], one line -/
theorem xs_setOLc {i : Nat} {y : Str} {py spos : Pos} {elt tg iter : Expr} {ifs : List Expr} {scope : Scope} {own : List (Str × Nat)} {ti : XA} {g : XG} {tt : XT} {te : XV} (h0 : i ≠ 0) (hc : X.calm = true) (hN : X.N.Nodup) (hy : X.N[i]? = some y) (hyl : X.env.scope.names.lookup y = some .local)
    (hsw : swapsWith (.ListComp elt [⟨tg, iter, ifs, 0⟩] scope pos) (some (.Name y py)) spos.line X.env = pure true) (hi : PI X tg iter (lI X.K E ti)) (ok : BlkOk X.N X.env.scope scope own)
    (hg : ∀ (s : Shared) (H : Hp) (C : Addr) (cl : List (Str × Addr)) (fp : List Addr), PG (X.blk s H scope (compEnvC scope cl C X.env) fp) tg (lG X.K (tOnly (own.map (·.2))) g)) (ht : ∀ (s : Shared) (H : Hp) (C : Addr) (cl : List (Str × Addr)) (fp : List Addr), PTs (X.blk s H scope (compEnvC scope cl C X.env) fp) ifs (lT X.K E0 tt))
    (he : ∀ (s : Shared) (H : Hp) (C : Addr) (cl : List (Str × Addr)) (fp : List Addr), PE (X.blk s H scope (compEnvC scope cl C X.env) fp) elt (lE X.K E0 te)) (hv0 : 0 ∉ own.map (·.2) := by decide) (hs : ∀ x, foldedSetIterable iter X.env x = pure x := by intro _; rfl) :
    PS X (.Assign [.Name y py] (.ListComp elt [⟨tg, iter, ifs, 0⟩] scope pos) spos) (lS X.K E fr (xSetO i (xLC ti g tt te (own.map (·.2))))) := ps_imp (ps_setLc hc hN hy hyl hsw hi ok hg ht he hs) fun C σ H h => by
  have h2 : lN X.K E (xLC ti g tt te (own.map (·.2))) σ H (fun x H1 => gName i x σ H1 C.nx) := seto_of h0 h
  exact lc_of hv0 h2
/-- .. not owned -/
theorem xs_setLc {i : Nat} {y : Str} {py spos : Pos} {elt tg iter : Expr} {ifs : List Expr} {scope : Scope} {own : List (Str × Nat)} {ti : XA} {g : XG} {tt : XT} {te : XV} (h0 : i ≠ 0) (hc : X.calm = true) (hN : X.N.Nodup) (hy : X.N[i]? = some y) (hyl : X.env.scope.names.lookup y = some .local)
    (hsw : swapsWith (.ListComp elt [⟨tg, iter, ifs, 0⟩] scope pos) (some (.Name y py)) spos.line X.env = pure true) (hi : PI X tg iter (lI X.K E ti)) (ok : BlkOk X.N X.env.scope scope own)
    (hg : ∀ (s : Shared) (H : Hp) (C : Addr) (cl : List (Str × Addr)) (fp : List Addr), PG (X.blk s H scope (compEnvC scope cl C X.env) fp) tg (lG X.K (tOnly (own.map (·.2))) g)) (ht : ∀ (s : Shared) (H : Hp) (C : Addr) (cl : List (Str × Addr)) (fp : List Addr), PTs (X.blk s H scope (compEnvC scope cl C X.env) fp) ifs (lT X.K E0 tt))
    (he : ∀ (s : Shared) (H : Hp) (C : Addr) (cl : List (Str × Addr)) (fp : List Addr), PE (X.blk s H scope (compEnvC scope cl C X.env) fp) elt (lE X.K E0 te)) (hv0 : 0 ∉ own.map (·.2) := by decide) (hs : ∀ x, foldedSetIterable iter X.env x = pure x := by intro _; rfl) :
    PS X (.Assign [.Name y py] (.ListComp elt [⟨tg, iter, ifs, 0⟩] scope pos) spos) (lS X.K E fr (xSet i (xLC ti g tt te (own.map (·.2))))) := ps_imp (ps_setLc hc hN hy hyl hsw hi ok hg ht he hs) fun C σ H h => by
  have h2 : lE X.K E (xLC ti g tt te (own.map (·.2))) σ H (fun x H1 => gName i x σ H1 C.nx) := by
    obtain ⟨F, ρ, r, p⟩ := h
    exact ⟨F, ρ, r, (p.fl r).mono fun d ρ1 F1 H1 g1 q v rv => q _ F1 H1 (Go.setVal h0 g1.rel rv)⟩
  exact lc_of hv0 (lE_of_lN h2)
theorem xts_nil : PTs X [] (lT X.K E xYes) := ⟨fun pins s σ H Q I h => pts_nil.run pins s σ H Q I (by
  obtain ⟨F, ρ, r, p⟩ := h
  exact p F H (Go.refl r))⟩
theorem xts_one {c : Expr} {t : XT} (h : PT X c (lT X.K E t)) : PTs X [c] (lT X.K E t) := pts_one h

/-! ### owned objects -/
def ownL (i : Nat) (ρ : Rho) : Option (List D) := match ρ[i]? with
  | some (.own (.lst ds)) => some ds
  | _ => none
theorem ownL_of {i : Nat} {ρ : Rho} {ds : List D} (h : ownL i ρ = some ds) : ρ[i]? = some (.own (.lst ds)) := by
  unfold ownL at h
  split at h
  · rename_i e
    cases h
    exact e
  · cases h
/-- with the list of slot i -/
def withL (i : Nat) (f : List D → XS) : XS := fun ρ => match ownL i ρ with
  | some ds => f ds ρ
  | none => .bad
def withLV {α : Type} (i : Nat) (f : List D → Rho → Res α) : Rho → Res α := fun ρ => match ownL i ρ with
  | some ds => f ds ρ
  | none => .bad
def xAppend (i : Nat) (te : XV) : XS := withL i fun _ ρ => (te ρ).fl fun d => withL i fun ds ρ1 => if ds.length < sizeLine then .nx (ρ1.set i (.own (.lst (ds ++ [d])))) else .bad
theorem own_lst {K : PySem.W.Frag} {F : Hp} {p : Addr} {o : HO} {ds : List D} (r : Ro K F p o (.lst ds)) : ∃ xs, o = .lst xs ∧ RpAll K F xs ds := by
  cases r with
  | lst r => exact ⟨_, rfl, r⟩
theorem Rel.ownL {K : PySem.W.Frag} {F H : Hp} {ρ : Rho} {σ : L2.St} {i : Nat} {ds : List D} (r : Rel K F H ρ σ) (h : ρ[i]? = some (.own (.lst ds))) : ∃ p xs, σ[i]? = some (some (.ref p)) ∧ F p = none ∧ H p = some (.lst xs) ∧ RpAll K F xs ds := by
  obtain ⟨p, o, h1, h2, h3, h4⟩ := r.own h
  obtain ⟨xs, rfl, h5⟩ := own_lst h4
  exact ⟨p, xs, h1, h2, h3, h5⟩
theorem PendS.withL {K : PySem.W.Frag} {F H : Hp} {ρ : Rho} {σ : L2.St} {i : Nat} {f : List D → XS} {C : Ends} (h : PendS K E fr (withL i f) ρ σ F H C) : ∃ ds, ρ[i]? = some (.own (.lst ds)) ∧ PendS K E fr (f ds) ρ σ F H C := by
  unfold PendS G.withL at h
  cases e : ownL i ρ with
  | none => simp only [e] at h
  | some ds => simp only [e] at h; exact ⟨ds, ownL_of e, h⟩
theorem Pend.withLV {α : Type} {K : PySem.W.Frag} {F H : Hp} {ρ : Rho} {σ : L2.St} {i : Nat} {f : List D → Rho → Res α} {Q : α → Rho → Hp → Hp → Prop} (h : Pend K E (withLV i f) ρ σ F H Q) : ∃ ds, ρ[i]? = some (.own (.lst ds)) ∧ Pend K E (f ds) ρ σ F H Q := by
  unfold Pend G.withLV at h
  cases e : ownL i ρ with
  | none => simp only [e] at h
  | some ds => simp only [e] at h; exact ⟨ds, ownL_of e, h⟩
theorem PendS.ite {K : PySem.W.Frag} {F H : Hp} {ρ : Rho} {σ : L2.St} {c : Prop} [Decidable c] {t : XS} {C : Ends} (h : PendS K E fr (fun ρ => if c then t ρ else .bad) ρ σ F H C) : c ∧ PendS K E fr t ρ σ F H C := by
  unfold PendS at h
  by_cases hc : c
  · simp only [hc, if_true] at h
    exact ⟨hc, h⟩
  · simp only [hc, if_false] at h
/-- x.append(e) -/
theorem xs_append {i : Nat} {x : Str} {e : Expr} {te : XV} {xp apos p2 : Pos} (hN : X.N[i]? = some x) (hv : Vis X.env.scope x) (he : PE X e (lE X.K E te))
    (hs : PE X (.Call (.Attribute (.Name x xp) "append" apos) [e] [] p2) (tBM X.K "list" rAppend (tVar i) (tCons (lE X.K E te) tNil))) (hq : swapsWith (.Call (.Attribute (.Name x xp) "append" apos) [e] [] p2) none pos.line X.env = pure false := by rfl) :
    PS X (.Expr (.Call (.Attribute (.Name x xp) "append" apos) [e] [] p2) pos) (lS X.K E fr (xAppend i te)) := ps_imp (ps_expr hs hq) fun C σ H h => by
  obtain ⟨F, ρ, r, p⟩ := h
  obtain ⟨ds0, e0, p⟩ := PendS.withL p
  obtain ⟨b, xs, h1, h2, h3, h4⟩ := r.ownL e0
  refine ⟨.ref b, h1, .inl ⟨rfl, xs, SqL.of h3⟩, F, ρ, r, (PendS.fl r p).mono fun d ρ1 F1 H1 g1 q v rv => ?_⟩
  obtain ⟨ds, e1, q⟩ := PendS.withL q
  obtain ⟨b1, xs1, k1, k2, k3, k4⟩ := g1.rel.ownL e1
  rw [h1] at k1
  cases k1
  obtain ⟨hz, q⟩ := PendS.ite q
  refine ⟨b, xs1, v, rfl, rfl, k3, by rw [k4.length]; exact hz, ?_⟩
  exact q σ F1 _ (Go.mut g1.rel e1 h1 k2 k3 (.lst (k4.snoc rv)))
/-- a method without arguments that changes an owned list: reverse, clear -/
def xMut (i : Nat) (f : List D → List D) : XS := withL i fun ds ρ => .nx (ρ.set i (.own (.lst (f ds))))
theorem xs_mut0 {i : Nat} {x m : Str} {xp apos p2 : Pos} {r : V → List V → Hp → VK → Prop} {f : List D → List D} {g : List V → List V} (hf : ∀ (K : PySem.W.Frag) F xs ds, RpAll K F xs ds → RpAll K F (g xs) (f ds))
    (hr : ∀ b xs H Q, H b = some (.lst xs) → (Q .non (upd H b (.lst (g xs)))) → r (.ref b) [] H Q) (hs : PE X (.Call (.Attribute (.Name x xp) m apos) [] [] p2) (tBM0 X.K "list" r (tVar i))) (hq : swapsWith (.Call (.Attribute (.Name x xp) m apos) [] [] p2) none pos.line X.env = pure false := by rfl) :
    PS X (.Expr (.Call (.Attribute (.Name x xp) m apos) [] [] p2) pos) (lS X.K E fr (xMut i f)) := ps_imp (ps_expr hs hq) fun C σ H h => by
  obtain ⟨F, ρ, rl, p⟩ := h
  obtain ⟨ds0, e0, p⟩ := PendS.withL p
  obtain ⟨b, xs, h1, h2, h3, h4⟩ := rl.ownL e0
  exact ⟨.ref b, h1, .inl ⟨rfl, xs, SqL.of h3⟩, hr b xs H _ h3 (p σ F _ (Go.mut rl e0 h1 h2 h3 (.lst (hf _ _ _ _ h4))))⟩
/-- xs[k] = e -/
def dSetAt (ds : List D) (k d : D) : Option (List D) := match k with
  | .int j => (ixN ds.length j).map fun m => ds.set m d
  | _ => none
def xSetIx (i : Nat) (tk te : XV) : XS := fun ρ => (te ρ).fl fun d => withL i fun _ ρ1 => (tk ρ1).fl fun k => withL i fun ds ρ2 => match dSetAt ds k d with
  | some ds' => .nx (ρ2.set i (.own (.lst ds')))
  | none => .bad
theorem xs_setIx {i : Nat} {x : Str} {k e : Expr} {tk te : XV} {xp sp : Pos} (hN : X.N[i]? = some x) (hv : Vis X.env.scope x) (ho : PE X (.Name x xp) (tVar i)) (hk : PE X k (lE X.K E tk)) (he : PE X e (lE X.K E te))
    (ha : ∀ v, assign (.Subscript (.Name x xp) k sp) X.env v = (do
      let ov ← holding [v] (eval (.Name x xp) X.env)
      let iv ← holding [v, ov] (eval k X.env)
      standAt sp
      holding [v, ov, iv] (setItem ov iv v)
      release [v, ov, iv] []) := by intro _; rfl)
    (hs : swapsWithSole [.Subscript (.Name x xp) k sp] e pos.line X.env = pure false := by rfl) (hw : swappedStores [.Subscript (.Name x xp) k sp] e X.env = pure none := by rfl)
    (h1 : (assignEach [.Subscript (.Name x xp) k sp] X.env).map (·.2) = [assign (.Subscript (.Name x xp) k sp) X.env] := by rfl) :
    PS X (.Assign [.Subscript (.Name x xp) k sp] e pos) (lS X.K E fr (xSetIx i tk te)) := ps_imp (ps_asg he (pg_sub ho hk set_list ha) hs hw h1) fun C σ H h => by
  obtain ⟨F, ρ, r, p⟩ := h
  refine ⟨F, ρ, r, (PendS.fl r p).mono fun d ρ1 F1 H1 g1 q v rv => ?_⟩
  obtain ⟨ds0, e0, q⟩ := PendS.withL q
  obtain ⟨b, xs, z1, z2, z3, z4⟩ := g1.rel.ownL e0
  refine ⟨.ref b, z1, F1, ρ1, g1.rel, (PendS.fl g1.rel q).mono fun kd ρ2 F2 H2 g2 q w rw => ?_⟩
  obtain ⟨ds, e1, q⟩ := PendS.withL q
  obtain ⟨b1, xs1, k1, k2, k3, k4⟩ := g2.rel.ownL e1
  rw [z1] at k1
  cases k1
  unfold PendS at q
  cases e2 : dSetAt ds kd d with
  | none => simp only [e2] at q
  | some ds' =>
    simp only [e2] at q
    unfold dSetAt at e2
    split at e2
    · rename_i j
      cases e3 : ixN ds.length j with
      | none => rw [e3] at e2; cases e2
      | some m =>
        rw [e3] at e2
        cases e2
        cases rw
        refine ⟨b, xs1, j, m, rfl, rfl, k3, by rw [k4.length]; exact e3, ?_⟩
        exact q σ F2 _ (Go.mut g2.rel e1 z1 k2 k3 (.lst (RpAll.set (rv.mono g2.ex) m k4)))
    · cases e2
/-- xs[k] of an owned list -/
def dAt (ds : List D) (k : D) : Option D := match k with
  | .int j => atI ds j
  | _ => none
/-- the list that can be read at slot i -/
def rdL (i : Nat) (ρ : Rho) : Option (List D) := match rdD i ρ with
  | some (.lst ds) => some ds
  | _ => none
theorem Rel.rdL {K : PySem.W.Frag} {F H : Hp} {ρ : Rho} {σ : L2.St} {i : Nat} {ds : List D} (r : Rel K F H ρ σ) (h : rdL i ρ = some ds) : ∃ p xs, σ[i]? = some (some (.ref p)) ∧ SqL K H p xs ∧ RpAll K F xs ds := by
  unfold G.rdL at h
  split at h
  · rename_i e
    cases h
    obtain ⟨v, h1, h2⟩ := r.rd e
    cases h2 with
    | val rp _ => cases rp with | lst hf ra => exact ⟨_, _, h1, SqL.of (r.ex _ _ hf), ra⟩
    | own a b c =>
      obtain ⟨xs, rfl, h5⟩ := own_lst c
      exact ⟨_, xs, h1, SqL.of b, h5⟩
  · cases h
def withR {α : Type} (i : Nat) (f : List D → Rho → Res α) : Rho → Res α := fun ρ => match rdL i ρ with
  | some ds => f ds ρ
  | none => .bad
theorem Pend.withR {α : Type} {K : PySem.W.Frag} {F H : Hp} {ρ : Rho} {σ : L2.St} {i : Nat} {f : List D → Rho → Res α} {Q : α → Rho → Hp → Hp → Prop} (h : Pend K E (withR i f) ρ σ F H Q) : ∃ ds, rdL i ρ = some ds ∧ Pend K E (f ds) ρ σ F H Q := by
  unfold Pend G.withR at h
  cases e : G.rdL i ρ with
  | none => simp only [e] at h
  | some ds => simp only [e] at h; exact ⟨ds, rfl, h⟩
def xIxO (i : Nat) (tk : XV) : XV := withR i fun _ ρ => (tk ρ).bind fun k => withR i fun ds => lift (dAt ds) k
theorem atI_rp {K : PySem.W.Frag} {F : Hp} {xs : List V} {ds : List D} {j : Int} {d : D} (r : RpAll K F xs ds) (h : atI ds j = some d) : ∃ v, atI xs j = some v ∧ Rp K F v d := by
  unfold atI at h ⊢
  rw [r.length]
  cases e : ixN ds.length j with
  | none => rw [e] at h; cases h
  | some m =>
    rw [e] at h
    exact r.get h
theorem dAt_of {ds : List D} {k d : D} (h : dAt ds k = some d) : ∃ j : Int, k = .int j ∧ atI ds j = some d := by
  unfold dAt at h
  split at h
  · exact ⟨_, rfl, h⟩
  · cases h
theorem xe_ixO {i : Nat} {x : Str} {k : Expr} {tk : XV} {xp : Pos} (ho : PE X (.Name x xp) (tVar i)) (hk : PE X k (lE X.K E tk)) (hs : PlainIx k) : PE X (.Subscript (.Name x xp) k pos) (lE X.K E (xIxO i tk)) := pe_imp (pe_ix ix_list ho hk hs) fun σ H Q h => by
  obtain ⟨F, ρ, r, p⟩ := h
  obtain ⟨ds0, e0, p⟩ := Pend.withR p
  obtain ⟨b, xs, z1, z3, z4⟩ := r.rdL e0
  refine ⟨.ref b, z1, F, ρ, r, (Pend.bind r p).mono fun kd ρ1 F1 H1 g1 q w rw => ?_⟩
  obtain ⟨ds, e1, q⟩ := Pend.withR q
  obtain ⟨b1, xs1, k1, k3, k4⟩ := g1.rel.rdL e1
  rw [z1] at k1
  cases k1
  obtain ⟨d, e, q2⟩ := q.lift
  obtain ⟨j, rfl, e⟩ := dAt_of e
  cases rw
  obtain ⟨v, hv, rv⟩ := atI_rp k4 e
  exact ⟨b, xs1, j, v, rfl, rfl, k3, hv, q2 F1 H1 (Go.refl g1.rel) v rv⟩
/-- len of an owned list -/
def xLenO (i : Nat) : XV := withR i fun ds ρ => .ok (.int (ds.length : Nat)) ρ
theorem xe_lenO {i : Nat} {x : Str} {xp p : Pos} (ho : PE X (.Name x xp) (tVar i)) (hg : Gl X "len") (hm : X.mg "len" = none) (hs : starEach [.Name x xp] X.env = (false, eval (.Name x xp) X.env) :: starEach [] X.env := by rfl) (hpl : (backTo pos (starEach [] X.env)).any (·.1) = false := by rfl) :
    PE X (.Call (.Name "len" p) [.Name x xp] [] pos) (lE X.K E (xLenO i)) := pe_imp (pe_callB call_len_seq hg hm PySem.boot_len (pa_cons ho pa_nil hs) (he := hs) (hpl := hpl)) fun σ H Q h => by
  obtain ⟨F, ρ, r, p⟩ := h
  obtain ⟨ds0, e0, p⟩ := Pend.withR p
  obtain ⟨b, xs, z1, z3, z4⟩ := r.rdL e0
  refine ⟨.ref b, z1, b, xs, rfl, .inl z3, ?_⟩
  have := p F H (Go.refl r) (.int (xs.length : Nat)) (by rw [z4.length]; exact .int _)
  exact this
end

/-! ### defs -/
inductive FR where
  | ok (d : D) (ps : List D) | exc (c : String) (ps : List D) | bad
abbrev DF := List D → FR
/-- the arguments of a def: md tells which ones are only read -/
inductive RaL (K : PySem.W.Frag) (F H : Hp) (no : Addr → Prop) : List Bool → List V → List D → Prop
  | nil : RaL K F H no [] [] []
  | val {v : V} {d : D} {ms : List Bool} {vs : List V} {ds : List D} : Rp K F v d → RaL K F H no ms vs ds → RaL K F H no (false :: ms) (v :: vs) (d :: ds)
  | rd {v : V} {d : D} {ms : List Bool} {vs : List V} {ds : List D} : Ra K F H v d → (∀ p, v = .ref p → ¬ no p) → RaL K F H no ms vs ds → RaL K F H no (true :: ms) (v :: vs) (d :: ds)
def Slot.of : Bool → D → Slot
  | false, d => .val d
  | true, d => .rd d
def ini : List Bool → List D → Option (List Slot)
  | [], [] => some []
  | m :: ms, d :: ds => (ini ms ds).map (Slot.of m d :: ·)
  | _, _ => none
section
variable (K : PySem.W.Frag) (cv : String → Value) (fr : Bool)
def Out (F H : Hp) (d : D) (Q : VK) : Prop := (fr = false → OutV K F H d Q) ∧ (fr = true → OutN K F H d Q)
/-- a def that changes nothing -/
def spP (md : List Bool) (g : DF) : Sp := fun vs H Q E => ∃ F ds, Same F H ∧ RaL K F H (fun _ => False) md vs ds ∧ match g ds with
  | .ok d _ => Out K fr F H d Q
  | .exc c _ => ∀ F' H', Gr F H F' H' → E (cv c) none H'
  | .bad => False
structure GrB (b : Addr) (F H F' H' : Hp) : Prop where
  ex : Same F F'
  sub : Same F' H'
  keep : ∀ a o, a ≠ b → H a = some o → H' a = some o ∧ (NTup o → F a = none → F' a = none)
/-- a def that changes its first argument -/
def spB (md : List Bool) (g : DF) : Sp := fun vs H Q E => ∃ F b o d0 vs' ds, vs = .ref b :: vs' ∧ Same F H ∧ F b = none ∧ H b = some o ∧ Ro K F b o d0 ∧ RaL K F H (· = b) md vs' ds ∧ match g (d0 :: ds) with
  | .ok d [p'] => ∀ F' H' o', GrB b F H F' H' → F' b = none → H' b = some o' → Ro K F' b o' p' → (fr = false → ∀ v, Rp K F' v d → Q v H') ∧ (fr = true → ∀ p o2, H p = none → F' p = none → H' p = some o2 → Ro K F' p o2 d → Q (.ref p) H')
  | .exc c [p'] => ∀ F' H' o', GrB b F H F' H' → F' b = none → H' b = some o' → Ro K F' b o' p' → E (cv c) none H'
  | _ => False
end
def runP (md : List Bool) (n : Nat) (fr : Bool) (body : XS) : DF := fun ds => match ini md ds with
  | some ss => (match body (ss ++ List.replicate (n - ss.length) .emp) with
    | .ret d _ => .ok d []
    | .nx _ => if fr = true then .bad else .ok .non []
    | .exc c _ => .exc c []
    | _ => .bad)
  | none => .bad
def slot0 (ρ : Rho) : List D := match ρ with
  | .own p :: _ => [p]
  | _ => []
def runB (md : List Bool) (n : Nat) (fr : Bool) (body : XS) : DF
  | d0 :: ds => (match ini md ds with
    | some ss => (match body (.own d0 :: ss ++ List.replicate (n - (ss.length + 1)) .emp) with
      | .ret d ρ => .ok d (slot0 ρ)
      | .nx ρ => if fr = true then .bad else .ok .non (slot0 ρ)
      | .exc c ρ => .exc c (slot0 ρ)
      | _ => .bad)
    | none => .bad)
  | [] => .bad
theorem RaL.len {K : PySem.W.Frag} {F H : Hp} {no : Addr → Prop} : ∀ {md : List Bool} {vs : List V} {ds : List D}, RaL K F H no md vs ds → vs.length = md.length ∧ ds.length = md.length
  | _, _, _, .nil => ⟨rfl, rfl⟩
  | _, _, _, .val _ r => ⟨congrArg (· + 1) r.len.1, congrArg (· + 1) r.len.2⟩
  | _, _, _, .rd _ _ r => ⟨congrArg (· + 1) r.len.1, congrArg (· + 1) r.len.2⟩
theorem ini_len : ∀ {md : List Bool} {ds : List D} {ss : List Slot}, ini md ds = some ss → ss.length = md.length
  | [], [], _, h => by cases h; rfl
  | m :: ms, d :: ds, _, h => by
    unfold ini at h
    cases q : ini ms ds with
    | none => rw [q] at h; cases h
    | some ss => rw [q] at h; cases h; exact congrArg (· + 1) (ini_len q)
  | [], _ :: _, _, h => by cases h
  | _ :: _, [], _, h => by cases h
/-- slot by slot -/
theorem ini_at {K : PySem.W.Frag} {F H : Hp} {no : Addr → Prop} : ∀ {md : List Bool} {vs : List V} {ds : List D} {ss : List Slot}, RaL K F H no md vs ds → ini md ds = some ss → ∀ (j : Nat) (s : Slot), ss[j]? = some s → ∃ v, vs[j]? = some v ∧ SRel K F H s (some v) ∧ (∀ d, s ≠ .own d) ∧ ∀ d p, s = .rd d → v = .ref p → ¬ no p
  | _, _, _, _, .nil, h, j, s, e => by cases h; simp at e
  | _, _, _, _, .val (ms := ms) (ds := ds) rp r, h, j, s, e => by
    unfold ini at h
    cases q : ini ms ds with
    | none => rw [q] at h; cases h
    | some ss =>
      rw [q] at h; cases h
      cases j with
      | zero => simp at e; subst e; exact ⟨_, rfl, .val rp, fun d z => (by cases z), fun d p z => (by cases z)⟩
      | succ j =>
        obtain ⟨v, k1, k2⟩ := ini_at r q j s (by simpa using e)
        exact ⟨v, by simpa using k1, k2⟩
  | _, _, _, _, .rd (ms := ms) (ds := ds) rp hn r, h, j, s, e => by
    unfold ini at h
    cases q : ini ms ds with
    | none => rw [q] at h; cases h
    | some ss =>
      rw [q] at h; cases h
      cases j with
      | zero => simp at e; subst e; exact ⟨_, rfl, .rd rp, fun d z => (by cases z), fun d p _ e2 => hn p e2⟩
      | succ j =>
        obtain ⟨v, k1, k2⟩ := ini_at r q j s (by simpa using e)
        exact ⟨v, by simpa using k1, k2⟩
section
variable {K : PySem.W.Frag} {F H : Hp}
theorem start_vals {n : Nat} {no : Addr → Prop} {md : List Bool} (ex : Same F H) {vs : List V} {ds : List D} {ss : List Slot} (ra : RaL K F H no md vs ds) (hi : ini md ds = some ss) (hn : vs.length ≤ n) : Rel K F H (ss ++ List.replicate (n - ss.length) .emp) (vs.map some ++ List.replicate (n - vs.length) none) ∧ (∀ p, ¬ Own (ss ++ List.replicate (n - ss.length) .emp) (vs.map some ++ List.replicate (n - vs.length) none) p) ∧
    (∀ (j : Nat) (d : D), (ss ++ List.replicate (n - ss.length) Slot.emp)[j]? = some (Slot.own d) → False) ∧ ∀ (j : Nat) (d : D) (p : Addr), (ss ++ List.replicate (n - ss.length) Slot.emp)[j]? = some (Slot.rd d) → (vs.map some ++ List.replicate (n - vs.length) none)[j]? = some (some (V.ref p)) → ¬ no p := by
  have hl : vs.length = ss.length := ra.len.1.trans (ini_len hi).symm
  have at1 : ∀ (j : Nat) (s : Slot), (ss ++ List.replicate (n - ss.length) Slot.emp)[j]? = some s → s = .emp ∨ ∃ v, (vs.map some ++ List.replicate (n - vs.length) none)[j]? = some (some v) ∧ SRel K F H s (some v) ∧ (∀ d, s ≠ .own d) ∧ ∀ d p, s = .rd d → v = .ref p → ¬ no p := fun j s h1 => by
    by_cases hj : j < ss.length
    · rw [List.getElem?_append_left hj] at h1
      obtain ⟨v, k1, k2⟩ := ini_at ra hi j s h1
      refine .inr ⟨v, ?_, k2⟩
      rw [List.getElem?_append_left (by rw [List.length_map, hl]; exact hj), List.getElem?_map, k1]
      rfl
    · rw [List.getElem?_append_right (by omega)] at h1
      exact .inl (List.eq_of_mem_replicate (List.mem_of_getElem? h1))
  have no1 : ∀ (j : Nat) (d : D), (ss ++ List.replicate (n - ss.length) Slot.emp)[j]? = some (.own d) → False := fun j d h => by
    rcases at1 j _ h with z | ⟨v, _, _, z, _⟩
    · cases z
    · exact z d rfl
  refine ⟨⟨ex, by simp [hl], fun j s o h1 h2 => ?_, fun j _ d _ _ h => (no1 j d h).elim, fun j d p _ _ ⟨k, e, z, _⟩ => no1 k e z⟩, fun p ⟨j, d, h, _⟩ => no1 j d h, no1, fun j d p h1 h2 => ?_⟩
  · rcases at1 j _ h1 with z | ⟨v, k1, k2, _⟩
    · subst z; exact .emp
    · rw [h2] at k1; cases k1; exact k2
  · rcases at1 j _ h1 with z | ⟨v, k1, _, _, k2⟩
    · cases z
    · rw [h2] at k1; cases k1; exact k2 d p rfl rfl
end
section
variable {P : Program} {w : World} {K : PySem.W.Frag} {mg : Str → Option Value} {base : Heap} {cv : String → Value}
abbrev EX (cv : String → Value) (E : XK) : EW := fun c _ H => E (cv c) none H
/-- a def's promise by its body -/
theorem fn_pure {fr : Bool} {x qual : Str} {st : Stmt} {f : Addr} {fd : FuncData} {N ps : List Str} {k : Nat} {body : XS} (md : List Bool) (FN : Fun K x qual st f fd) (S : FnScope N ps (defScope st)) (g : DF) (hg : g = runP md N.length fr body) (hp : ps.length ≤ N.length) (hm : md.length = ps.length)
    (hbody : ∀ (cdv : Value) (A : Around) (outer : List Env) (s : Shared) (H : Hp) (E : XK), Room k (A.deeper (envOfC qual (defScope st) s.heap.objs.size f cdv)) →
      PSs (cxOf (L2.CX P w) P w K mg base N qual (defScope st) f cdv A outer s H E) (defBody st) (lS K (EX cv E) fr body)) : FnOk P w K mg base (L2.CX P w) (k + 1) f fd ps (spP K cv fr md g) := by
  subst hg
  have len : ∀ vs H Q E, spP K cv fr md (runP md N.length fr body) vs H Q E → vs.length = ps.length := fun vs H Q E h => by
    obtain ⟨F, ds, _, ra, h⟩ := h
    exact ra.len.1.trans hm
  refine FN.okX S len fun cdv A outer s H vs Q E hr h => ⟨_, hbody cdv A outer s H E hr, ?_⟩
  have hlen := len vs H Q E h
  obtain ⟨F, ds, ex, ra, h⟩ := h
  unfold runP at h
  cases hi : ini md ds with
  | none => rw [hi] at h; exact h.elim
  | some ss =>
  rw [hi] at h
  simp only at h
  obtain ⟨r, no, _⟩ := start_vals (n := N.length) ex ra hi (by rw [hlen]; exact hp)
  refine ⟨F, _, r, ?_⟩
  have gr : ∀ {ρ' σ' F' H'}, Go K (ss ++ List.replicate (N.length - ss.length) .emp) (vs.map some ++ List.replicate (N.length - vs.length) none) F H ρ' σ' F' H' → Gr F H F' H' := fun {ρ' σ' F' H'} g => by
    refine ⟨g.ex, fun a o e => ?_, g.rel.ex, fun a o n e1 e2 => (g.keep a o e1 e2 (no a)).2 n⟩
    exact g.sameH r e (no a)
  unfold PendS
  split <;> rename_i e <;> simp only [e] at h
  · intro σ' F' H' g
    cases fr with
    | true => simp only [if_true] at h
    | false =>
      simp only [Bool.false_eq_true, if_false] at h
      exact h.1 rfl .non F' H' (gr g) .non
  · refine ⟨fun ef v σ' F' H' g rv => h.1 ef v F' H' (gr g) rv, fun ef p o σ' F' H' g h1 h2 h3 h4 h5 => ?_⟩
    refine h.2 ef p o F' H' (gr g) ?_ h1 h2 h3
    rcases h5 with z | z
    · exact (no p z).elim
    · exact z
  · exact fun σ' F' H' g => h F' H' (gr g)
end
end G

namespace G
open PySem PySem.Spec PyProof.Rows L2

section
variable {P : Program} {w : World} {K : PySem.W.Frag} {mg : Str → Option Value} {base : Heap} {cv : String → Value}
theorem start_bor {F H : Hp} {n : Nat} {md : List Bool} {b : Addr} {o : HO} {d0 : D} {vs : List V} {ds : List D} {ss : List Slot} (ex : Same F H) (hf : F b = none) (hh : H b = some o) (ro : Ro K F b o d0) (ra : RaL K F H (· = b) md vs ds) (hi : ini md ds = some ss) (hn : vs.length + 1 ≤ n) :
    Rel K F H (.own d0 :: ss ++ List.replicate (n - (ss.length + 1)) .emp) (L2.start (List.replicate n "") (.ref b :: vs)) ∧
      (∀ p, Own (.own d0 :: ss ++ List.replicate (n - (ss.length + 1)) .emp) (L2.start (List.replicate n "") (.ref b :: vs)) p → p = b) := by
  have hl : vs.length = ss.length := ra.len.1.trans (ini_len hi).symm
  have es : L2.start (List.replicate n "") (.ref b :: vs) = some (.ref b) :: (vs.map some ++ List.replicate (n - (vs.length + 1)) none) := by
    unfold L2.start
    simp
  rw [es]
  have er : (Slot.own d0 :: ss ++ List.replicate (n - (ss.length + 1)) .emp) = Slot.own d0 :: (ss ++ List.replicate (n - 1 - ss.length) .emp) := by
    rw [List.cons_append, show n - (ss.length + 1) = n - 1 - ss.length by omega]
  rw [er, show n - (vs.length + 1) = n - 1 - vs.length by omega]
  obtain ⟨r, _, no', nr⟩ := start_vals (n := n - 1) ex ra hi (by omega)
  have only : ∀ p, Own (Slot.own d0 :: (ss ++ List.replicate (n - 1 - ss.length) .emp)) (some (.ref b) :: (vs.map some ++ List.replicate (n - 1 - vs.length) none)) p → p = b := fun p h => by
    obtain ⟨j, d, h1, h2⟩ := h
    cases j with
    | zero => simp at h2; exact h2.symm
    | succ j => exact (no' j d (by simpa using h1)).elim
  refine ⟨⟨ex, by rw [List.length_cons, List.length_cons, r.len], fun j s v h1 h2 => ?_, fun j k d1 d2 p h1 h2 h3 h4 => ?_, fun j d p h1 h2 h3 => ?_⟩, only⟩
  · cases j with
    | zero => simp at h1 h2; subst h1 h2; exact .own hf hh ro
    | succ j => exact r.at' j s v (by simpa using h1) (by simpa using h2)
  · cases j with
    | zero =>
      cases k with
      | zero => rfl
      | succ k => exact (no' k d2 (by simpa using h2)).elim
    | succ j => exact (no' j d1 (by simpa using h1)).elim
  · cases j with
    | zero => simp at h1
    | succ j => exact nr j d p (by simpa using h1) (by simpa using h2) (only p h3)
theorem start_len {N : List Str} {vs : List V} : L2.start N vs = L2.start (List.replicate N.length "") vs := by
  unfold L2.start
  rw [List.length_replicate]
theorem slot0_of {F H : Hp} {ρ : Rho} {σ : L2.St} {p' : D} (r : Rel K F H ρ σ) (e : slot0 ρ = [p']) : ρ[0]? = some (.own p') := by
  unfold slot0 at e
  split at e
  · cases e; rfl
  · cases e
/-- .. that changes its first argument; the slots of the parameters are never stored to: h0 -/
theorem fn_bor {fr : Bool} {x qual : Str} {st : Stmt} {f : Addr} {fd : FuncData} {N ps : List Str} {k : Nat} {body : XS} (md : List Bool) (FN : Fun K x qual st f fd) (S : FnScope N ps (defScope st)) (g : DF) (hg : g = runB md N.length fr body) (hp : ps.length ≤ N.length) (hm : md.length + 1 = ps.length)
    (hbody : ∀ (cdv : Value) (A : Around) (outer : List Env) (s : Shared) (H : Hp) (E : XK), Room k (A.deeper (envOfC qual (defScope st) s.heap.objs.size f cdv)) →
      PSs (cxOf (L2.CX P w) P w K mg base N qual (defScope st) f cdv A outer s H E) (defBody st) (lS K (EX cv E) fr body)) : FnOk P w K mg base (L2.CX P w) (k + 1) f fd ps (spB K cv fr md g) := by
  subst hg
  have len : ∀ vs H Q E, spB K cv fr md (runB md N.length fr body) vs H Q E → vs.length = ps.length := fun vs H Q E h => by
    obtain ⟨F, b, o, d0, vs', ds, rfl, _, _, _, _, ra, h⟩ := h
    rw [List.length_cons, ra.len.1, hm]
  refine FN.okX S len fun cdv A outer s H vs Q E hr h => ⟨_, hbody cdv A outer s H E hr, ?_⟩
  have hlen := len vs H Q E h
  obtain ⟨F, b, o, d0, vs', ds, rfl, ex, hf, hh, ro, ra, h⟩ := h
  rw [start_len]
  unfold runB at h
  cases hi : ini md ds with
  | none => simp only [hi] at h
  | some ss =>
  simp only [hi] at h
  obtain ⟨r, only⟩ := start_bor (n := N.length) ex hf hh ro ra hi (by rw [List.length_cons] at hlen; omega)
  refine ⟨F, _, r, ?_⟩
  have s0 : (L2.start (List.replicate N.length "") (.ref b :: vs'))[0]? = some (some (.ref b)) := by unfold L2.start; rfl
  -- what stands at the end
  have ends : ∀ {ρ' : Rho} {σ' : L2.St} {F' H' : Hp} {p' : D}, Go K (.own d0 :: ss ++ List.replicate (N.length - (ss.length + 1)) .emp) (L2.start (List.replicate N.length "") (.ref b :: vs')) F H ρ' σ' F' H' → slot0 ρ' = [p'] →
      GrB b F H F' H' ∧ F' b = none ∧ ∃ o', H' b = some o' ∧ Ro K F' b o' p' := fun {ρ' σ' F' H' p'} g e => by
    obtain ⟨b2, o2, k1, k2, k3, k4⟩ := g.rel.own (slot0_of g.rel e)
    rw [g.low, s0] at k1
    cases k1
    refine ⟨⟨g.ex, g.rel.ex, fun a o ha e1 => ?_⟩, k2, o2, k3, k4⟩
    have hn : ¬ Own (.own d0 :: ss ++ List.replicate (N.length - (ss.length + 1)) .emp) (L2.start (List.replicate N.length "") (.ref b :: vs')) a := fun z => ha (only a z)
    exact ⟨g.sameH r e1 hn, fun n e2 => (g.keep a o e1 e2 hn).2 n⟩
  have hs : ∀ {ρ' : Rho} {σ' : L2.St} {F' H' : Hp}, Go K (.own d0 :: ss ++ List.replicate (N.length - (ss.length + 1)) .emp) (L2.start (List.replicate N.length "") (.ref b :: vs')) F H ρ' σ' F' H' → ∃ p', slot0 ρ' = [p'] := fun {ρ' σ' F' H'} g => by
    obtain ⟨d', hd'⟩ := g.lowO d0 rfl
    refine ⟨d', ?_⟩
    cases ρ' with
    | nil => cases hd'
    | cons x y => cases hd'; rfl
  unfold PendS
  split <;> rename_i e <;> simp only [e] at h
  · intro σ' F' H' g
    cases fr with
    | true => simp only [if_true] at h
    | false =>
      simp only [Bool.false_eq_true, if_false] at h
      obtain ⟨p', hp'⟩ := hs g
      rw [hp'] at h
      obtain ⟨g1, g2, o', g3, g4⟩ := ends g hp'
      exact (h F' H' o' g1 g2 g3 g4).1 trivial .non .non
  · rename_i d ρ'
    refine ⟨fun ef v σ' F' H' g rv => ?_, fun ef p o2 σ' F' H' g h1 h2 h3 h4 h5 => ?_⟩
    · obtain ⟨p', hp'⟩ := hs g
      rw [hp'] at h
      obtain ⟨g1, g2, o', g3, g4⟩ := ends g hp'
      exact (h F' H' o' g1 g2 g3 g4).1 ef v rv
    · obtain ⟨p', hp'⟩ := hs g
      rw [hp'] at h
      obtain ⟨g1, g2, o', g3, g4⟩ := ends g hp'
      refine (h F' H' o' g1 g2 g3 g4).2 ef p o2 ?_ h1 h2 h3
      rcases h5 with z | z
      · exfalso
        have := only p z
        subst this
        refine h4 ⟨0, p', slot0_of g.rel hp', ?_⟩
        rw [g.low, s0]
      · exact z
  · intro σ' F' H' g
    obtain ⟨p', hp'⟩ := hs g
    rw [hp'] at h
    obtain ⟨g1, g2, o', g3, g4⟩ := ends g hp'
    exact h F' H' o' g1 g2 g3 g4
end

/-! ### arguments: values, or objects that are lent -/
inductive AL (K : PySem.W.Frag) (F : Hp) (ρ : Rho) (σ : L2.St) (ban : Nat) : List Bool → List V → List D → Prop
  | nil : AL K F ρ σ ban [] [] []
  | val {v : V} {d : D} {ms : List Bool} {vs : List V} {ds : List D} : Rp K F v d → AL K F ρ σ ban ms vs ds → AL K F ρ σ ban (false :: ms) (v :: vs) (d :: ds)
  | valR {v : V} {d : D} {ms : List Bool} {vs : List V} {ds : List D} : Rp K F v d → nofx d = true → AL K F ρ σ ban ms vs ds → AL K F ρ σ ban (true :: ms) (v :: vs) (d :: ds)
  | own {v : V} {d : D} {ms : List Bool} {vs : List V} {ds : List D} (j : Nat) : j ≠ ban → σ[j]? = some (some v) → rdD j ρ = some d → AL K F ρ σ ban ms vs ds → AL K F ρ σ ban (true :: ms) (v :: vs) (d :: ds)
section
variable {K : PySem.W.Frag} {F H : Hp} {ρ : Rho} {σ : L2.St} {ban : Nat}
theorem rdD_of {j : Nat} {d : D} (h : rdD j ρ = some d) : ρ[j]? = some (.own d) ∨ ρ[j]? = some (.rd d) := by
  unfold rdD at h
  split at h
  · cases h; exact .inl ‹_›
  · cases h; exact .inr ‹_›
  · cases h
theorem AL.ral' {no : Addr → Prop} (r : Rel K F H ρ σ) (hf : ∀ p, no p → F p = none) (ho : ∀ (j : Nat) (d : D) (p : Addr), j ≠ ban → rdD j ρ = some d → σ[j]? = some (some (.ref p)) → ¬ no p) : ∀ {md : List Bool} {vs : List V} {ds : List D}, AL K F ρ σ ban md vs ds → RaL K F H no md vs ds
  | _, _, _, .nil => .nil
  | _, _, _, .val a b => .val a (b.ral' r hf ho)
  | _, _, _, .valR a n b => .rd (.val a n) (fun p e z => by subst e; exact rp_at a n (hf p z)) (b.ral' r hf ho)
  | _, _, _, .own j hj a h b => by
    obtain ⟨v', h1, h2⟩ := r.rd h
    rw [a] at h1
    cases h1
    exact .rd h2 (fun p e => by subst e; exact ho j _ p hj h a) (b.ral' r hf ho)
theorem AL.ral (r : Rel K F H ρ σ) {md : List Bool} {vs : List V} {ds : List D} (h : AL K F ρ σ ban md vs ds) : RaL K F H (fun _ => False) md vs ds := h.ral' r (fun _ z => z.elim) fun _ _ _ _ _ _ z => z
theorem AL.ralB {b : Addr} {d0 : D} (r : Rel K F H ρ σ) (hi : ρ[ban]? = some (.own d0)) (hs : σ[ban]? = some (some (.ref b))) (hf : F b = none) {md : List Bool} {vs : List V} {ds : List D} (h : AL K F ρ σ ban md vs ds) : RaL K F H (· = b) md vs ds :=
  h.ral' r (fun p z => by rw [z]; exact hf) fun j d p hj hd hp z => by
    subst z
    rcases rdD_of hd with k | k
    · exact hj (r.dis j ban d d0 p k hi hp hs)
    · exact r.rdis j d p k hp ⟨ban, d0, hi, hs⟩
def lM (K : PySem.W.Frag) (E : EW) (ban : Nat) (md : List Bool) (t : XA) : TA := fun σ H Q => ∃ F ρ, Rel K F H ρ σ ∧ Pend K E t ρ σ F H fun ds ρ' F' H' => ∀ vs, AL K F' ρ' σ ban md vs ds → Q vs H'
end
section
variable {X : Cx} {E : EW} {ta : XV} {ban : Nat}
theorem xm_nil : PA X [] (lM X.K E ban [] xNil) := pa_imp pa_nil fun σ H Q h => by
  obtain ⟨F, ρ, r, p⟩ := h
  exact p F H (Go.refl r) [] .nil
theorem xm_val {e : Expr} {es : List Expr} {tr : XA} {md : List Bool} (ha : PE X e (lE X.K E ta)) (hr : PA X es (lM X.K E ban md tr)) (hs : starEach (e :: es) X.env = (false, eval e X.env) :: starEach es X.env := by rfl) : PA X (e :: es) (lM X.K E ban (false :: md) (xCons ta tr)) := by
  refine pa_imp (pa_cons ha hr hs) fun σ H Q h => ?_
  obtain ⟨F, ρ, r, p⟩ := h
  refine ⟨F, ρ, r, (Pend.bind r p).mono fun x ρ1 F1 H1 g1 q v rv => ⟨F1, ρ1, g1.rel, (Pend.bind g1.rel q).mono fun xs ρ2 F2 H2 g2 q vs rs => ?_⟩⟩
  exact q F2 H2 (Go.refl g2.rel) (v :: vs) (.val (rv.mono g2.ex) rs)
def xConsR (ta : XV) (tr : XA) : XA := fun ρ => (ta ρ).bind fun x ρ1 => (tr ρ1).bind fun xs ρ2 => if nofx x = true then .ok (x :: xs) ρ2 else .bad
theorem xm_valR {e : Expr} {es : List Expr} {tr : XA} {md : List Bool} (ha : PE X e (lE X.K E ta)) (hr : PA X es (lM X.K E ban md tr)) (hs : starEach (e :: es) X.env = (false, eval e X.env) :: starEach es X.env := by rfl) : PA X (e :: es) (lM X.K E ban (true :: md) (xConsR ta tr)) := by
  refine pa_imp (pa_cons ha hr hs) fun σ H Q h => ?_
  obtain ⟨F, ρ, r, p⟩ := h
  refine ⟨F, ρ, r, (Pend.bind r p).mono fun x ρ1 F1 H1 g1 q v rv => ⟨F1, ρ1, g1.rel, (Pend.bind g1.rel q).mono fun xs ρ2 F2 H2 g2 q vs rs => ?_⟩⟩
  by_cases hn : nofx x = true
  · unfold Pend at q
    simp only [hn, if_true] at q
    exact q F2 H2 (Go.refl g2.rel) (v :: vs) (.valR (rv.mono g2.ex) hn rs)
  · unfold Pend at q
    dsimp only at q
    rw [if_neg hn] at q
    exact q.elim
def xConsO (j : Nat) (tr : XA) : XA := fun ρ => match rdD j ρ with
  | none => .bad
  | some _ => (tr ρ).bind fun ds ρ1 => match rdD j ρ1 with
    | some d => .ok (d :: ds) ρ1
    | none => .bad
theorem xm_own {e : Expr} {es : List Expr} {tr : XA} {md : List Bool} {j : Nat} (ha : PE X e (tVar j)) (hr : PA X es (lM X.K E ban md tr)) (hj : j ≠ ban := by decide) (hs : starEach (e :: es) X.env = (false, eval e X.env) :: starEach es X.env := by rfl) : PA X (e :: es) (lM X.K E ban (true :: md) (xConsO j tr)) := by
  refine pa_imp (pa_cons ha hr hs) fun σ H Q h => ?_
  obtain ⟨F, ρ, r, p⟩ := h
  unfold Pend xConsO at p
  cases e0 : rdD j ρ with
  | none => simp only [e0] at p
  | some d0 =>
    simp only [e0] at p
    obtain ⟨v, h1, _⟩ := r.rd e0
    have p' : Pend X.K E (fun ρ => (tr ρ).bind fun ds ρ1 => match rdD j ρ1 with
      | some d => .ok (d :: ds) ρ1
      | none => .bad) ρ σ F H fun ds ρ' F' H' => ∀ vs, AL X.K F' ρ' σ ban (true :: md) vs ds → Q vs H' := p
    refine ⟨v, h1, F, ρ, r, (Pend.bind r p').mono fun ds ρ1 F1 H1 g1 q vs rs => ?_⟩
    unfold Pend at q
    cases e1 : rdD j ρ1 with
    | none => simp only [e1] at q
    | some d => simp only [e1] at q; exact q F1 H1 (Go.refl g1.rel) (v :: vs) (.own j hj h1 e1 rs)
end

/-! ### calls -/
abbrev EWx (cv : String → Value) (W : WX) : EW := fun c σ H => W (cv c) none σ H
def FR.res (r : FR) (ρ : Rho) : Res D := match r with
  | .ok d _ => .ok d ρ
  | .exc c _ => .exc c ρ
  | .bad => .bad
def xCall (g : DF) (t : XA) : XV := fun ρ => (t ρ).bind fun ds ρ1 => (g ds).res ρ1
section
variable {X : Cx} {cv : String → Value} {pos : Pos} {W : WX}
theorem call_of {ban : Nat} {md : List Bool} {g : DF} {t : XA} {σ : L2.St} {H : Hp} {Q : VK} (h : lE X.K (EWx cv W) (xCall g t) σ H Q) : tCallS (spP X.K cv false md g) (WE W) (lM X.K (EWx cv W) ban md t) σ H Q := by
  obtain ⟨F, ρ, r, p⟩ := h
  refine ⟨F, ρ, r, (Pend.bind r p).mono fun ds ρ1 F1 H1 g1 q vs ra => ⟨F1, ds, g1.rel.ex, ra.ral g1.rel, ?_⟩⟩
  unfold Pend FR.res at q
  cases e : g ds with
  | ok d ps => simp only [e] at q; exact ⟨fun _ => outV_of g1.rel q, fun z => by cases z⟩
  | exc c ps => simp only [e] at q; exact fun F' H' gr => q F' H' (gr.go g1.rel)
  | bad => simp only [e] at q
theorem callN_of {ban : Nat} {md : List Bool} {g : DF} {t : XA} {σ : L2.St} {H : Hp} {Q : VK} (h : lN X.K (EWx cv W) (xCall g t) σ H Q) : tCallS (spP X.K cv true md g) (WE W) (lM X.K (EWx cv W) ban md t) σ H Q := by
  obtain ⟨F, ρ, r, p⟩ := h
  refine ⟨F, ρ, r, (Pend.bind r p).mono fun ds ρ1 F1 H1 g1 q vs ra => ⟨F1, ds, g1.rel.ex, ra.ral g1.rel, ?_⟩⟩
  unfold Pend FR.res at q
  cases e : g ds with
  | ok d ps => simp only [e] at q; exact ⟨fun z => (by cases z), fun _ => outN_of r g1 q⟩
  | exc c ps => simp only [e] at q; exact fun F' H' gr => q F' H' (gr.go g1.rel)
  | bad => simp only [e] at q
theorem xe_call {ban : Nat} {md : List Bool} {k : Nat} {f : Addr} {fd : FuncData} {ps : List Str} {g : DF} {x : Str} {p : Pos} {e : Expr} {es : List Expr} {t : XA} (tk : Takes X W) (FN : FnOk X.prog X.w X.K X.mg X.base (L2.CX X.prog X.w) k f fd ps (spP X.K cv false md g)) (hr : Room k X.A) (hg : Gl X x) (hm : X.mg x = some (.ref f)) (hk : PySem.W.keepIn X.K (.ref f) = true) (hb : Binds X.K fd ps [])
    (ha : PA X (e :: es) (lM X.K (EWx cv W) ban md t)) (hdb : (x == ("__debug__" : Str)) = false := by decide) (he : starEach (e :: es) X.env = (false, eval e X.env) :: starEach es X.env := by rfl) (hpl : (backTo pos (starEach es X.env)).any (·.1) = false := by rfl) :
    PE X (.Call (.Name x p) (e :: es) [] pos) (lE X.K (EWx cv W) (xCall g t)) := pe_imp (pe_callS FN hr hg hm hk hb (passAt tk) ha hdb he hpl) fun σ H Q h => call_of h
theorem xn_call {ban : Nat} {md : List Bool} {k : Nat} {f : Addr} {fd : FuncData} {ps : List Str} {g : DF} {x : Str} {p : Pos} {e : Expr} {es : List Expr} {t : XA} (tk : Takes X W) (FN : FnOk X.prog X.w X.K X.mg X.base (L2.CX X.prog X.w) k f fd ps (spP X.K cv true md g)) (hr : Room k X.A) (hg : Gl X x) (hm : X.mg x = some (.ref f)) (hk : PySem.W.keepIn X.K (.ref f) = true) (hb : Binds X.K fd ps [])
    (ha : PA X (e :: es) (lM X.K (EWx cv W) ban md t)) (hdb : (x == ("__debug__" : Str)) = false := by decide) (he : starEach (e :: es) X.env = (false, eval e X.env) :: starEach es X.env := by rfl) (hpl : (backTo pos (starEach es X.env)).any (·.1) = false := by rfl) :
    PE X (.Call (.Name x p) (e :: es) [] pos) (lN X.K (EWx cv W) (xCall g t)) := pe_imp (pe_callS FN hr hg hm hk hb (passAt tk) ha hdb he hpl) fun σ H Q h => callN_of h
/-- f() -/
theorem pe_call0S {CX : CXT} {k : Nat} {f : Addr} {fd : FuncData} {sp : Sp} {E : L2.St → XK} {x : Str} {p : Pos} (FN : FnOk X.prog X.w X.K X.mg X.base CX k f fd [] sp) (hr : Room k X.A) (hg : Gl X x) (hm : X.mg x = some (.ref f)) (hk : PySem.W.keepIn X.K (.ref f) = true) (hb : Binds X.K fd [] []) (hx : ∀ σ, PassesAt CX X σ (E σ))
    (hdb : (x == ("__debug__" : Str)) = false := by decide) : PE X (.Call (.Name x p) [] [] pos) (tCallS sp E tNil) := by
  refine ⟨fun pins s σ H Q I h => ?_⟩
  refine wpAny_Call_Name_kw (ld_glob I hg hm ?_ hdb)
  exact PySem.W.callWith_K0 I.kIn hk (run_fnS (us := []) FN hr hb (hx σ) I .nil h)
theorem nilA {ban : Nat} {E : EW} {sp : Sp} {E' : L2.St → XK} {σ : L2.St} {H : Hp} {Q : VK} (h : tCallS sp E' (lM X.K E ban [] xNil) σ H Q) : tCallS sp E' tNil σ H Q := by
  obtain ⟨F, ρ, r, p⟩ := h
  exact p F H (Go.refl r) [] .nil
theorem xe_call0 {k : Nat} {f : Addr} {fd : FuncData} {g : DF} {x : Str} {p : Pos} (tk : Takes X W) (FN : FnOk X.prog X.w X.K X.mg X.base (L2.CX X.prog X.w) k f fd [] (spP X.K cv false [] g)) (hr : Room k X.A) (hg : Gl X x) (hm : X.mg x = some (.ref f)) (hk : PySem.W.keepIn X.K (.ref f) = true) (hb : Binds X.K fd [] [])
    (hdb : (x == ("__debug__" : Str)) = false := by decide) : PE X (.Call (.Name x p) [] [] pos) (lE X.K (EWx cv W) (xCall g xNil)) := pe_imp (pe_call0S FN hr hg hm hk hb (passAt tk) hdb) fun σ H Q h => nilA (ban := 0) (call_of h)
theorem xn_call0 {k : Nat} {f : Addr} {fd : FuncData} {g : DF} {x : Str} {p : Pos} (tk : Takes X W) (FN : FnOk X.prog X.w X.K X.mg X.base (L2.CX X.prog X.w) k f fd [] (spP X.K cv true [] g)) (hr : Room k X.A) (hg : Gl X x) (hm : X.mg x = some (.ref f)) (hk : PySem.W.keepIn X.K (.ref f) = true) (hb : Binds X.K fd [] [])
    (hdb : (x == ("__debug__" : Str)) = false := by decide) : PE X (.Call (.Name x p) [] [] pos) (lN X.K (EWx cv W) (xCall g xNil)) := pe_imp (pe_call0S FN hr hg hm hk hb (passAt tk) hdb) fun σ H Q h => nilA (ban := 0) (callN_of h)
/-- f(x, ..), f changes the object of x -/
def ownD (i : Nat) (ρ : Rho) : Option D := match ρ[i]? with
  | some (.own d) => some d
  | _ => none
theorem ownD_of {i : Nat} {ρ : Rho} {d : D} (h : ownD i ρ = some d) : ρ[i]? = some (.own d) := by
  unfold ownD at h
  split at h
  · rename_i e
    cases h
    exact e
  · cases h
def FR.resB (r : FR) (i : Nat) (ρ : Rho) : Res D := match r with
  | .ok d [p] => .ok d (ρ.set i (.own p))
  | .exc c [p] => .exc c (ρ.set i (.own p))
  | _ => .bad
def xCallB (g : DF) (i : Nat) (t : XA) : XV := fun ρ => match ownD i ρ with
  | none => .bad
  | some _ => (t ρ).bind fun ds ρ1 => match ownD i ρ1 with
    | none => .bad
    | some d0 => (g (d0 :: ds)).resB i ρ1
/-- behind such a call -/
theorem go_bor {K : PySem.W.Frag} {F H F' H' : Hp} {ρ : Rho} {σ : L2.St} {i : Nat} {b : Addr} {o' : HO} {d0 p' : D} (r : Rel K F H ρ σ) (hi : ρ[i]? = some (.own d0)) (hs : σ[i]? = some (some (.ref b))) (g : GrB b F H F' H') (hf : F' b = none) (hh : H' b = some o') (ro : Ro K F' b o' p') :
    Go K ρ σ F H (ρ.set i (.own p')) σ F' H' where
  rel := by
    refine ⟨g.sub, by rw [List.length_set]; exact r.len, fun j s v g1 g2 => ?_, fun j k d1 d2 q g1 g2 g3 g4 => ?_, fun j d1 q g1 g2 g3 => ?_⟩
    rotate_right
    · rcases get_set g1 with ⟨_, z⟩ | ⟨hj, g1⟩
      · cases z
      · refine r.rdis j d1 q g1 g2 ?_
        obtain ⟨k, e, k1, k2⟩ := g3
        rcases get_set k1 with ⟨ek, _⟩ | ⟨_, k1⟩
        · subst ek; exact ⟨_, d0, hi, k2⟩
        · exact ⟨k, e, k1, k2⟩
    · rcases get_set g1 with ⟨e, rfl⟩ | ⟨hj, g1⟩
      · subst e
        rw [hs] at g2
        cases g2
        exact .own hf hh ro
      · have z := r.at' j s v g1 g2
        cases z with
        | emp => exact .emp
        | adr => exact .adr
        | val rp => exact .val (rp.mono g.ex)
        | @own p o d z1 z2 z3 =>
          have hne : p ≠ b := by
            rintro rfl
            exact hj (r.dis i j _ _ _ hi g1 hs g2)
          obtain ⟨k1, k2⟩ := g.keep p o hne z2
          exact .own (k2 z3.nt z1) k1 (z3.mono g.ex)
        | rd ra =>
          refine .rd (ra.step g.ex fun p u hn eq e1 e2 => ?_)
          subst eq
          have hne : p ≠ b := by
            rintro rfl
            exact r.rdis j _ _ g1 g2 ⟨i, d0, hi, hs⟩
          obtain ⟨k1, k2⟩ := g.keep p u hne e1
          exact ⟨k1, k2 hn e2⟩
    · have own_of : ∀ (m : Nat) (e : D), (ρ.set i (Slot.own p'))[m]? = some (Slot.own e) → ∃ e' : D, ρ[m]? = some (Slot.own e') := fun m e h => by
        rcases get_set h with ⟨e1, _⟩ | ⟨_, h⟩
        · subst e1; exact ⟨_, hi⟩
        · exact ⟨_, h⟩
      obtain ⟨e1, q1⟩ := own_of _ _ g1
      obtain ⟨e2, q2⟩ := own_of _ _ g2
      exact r.dis j k e1 e2 q q1 q2 g3 g4
  ex := g.ex
  keep := fun a u g1 g2 g3 => by
    obtain ⟨k1, k2⟩ := g.keep a u (by
      rintro rfl
      exact g3 ⟨i, d0, hi, hs⟩) g1
    exact ⟨k1, fun n => k2 n g2⟩
  own := fun q h => by
    obtain ⟨j, e, q1, q2⟩ := h
    rcases get_set q1 with ⟨e1, _⟩ | ⟨_, q1⟩
    · subst e1
      exact .inl ⟨_, d0, hi, q2⟩
    · exact .inl ⟨j, e, q1, q2⟩
  low := rfl
  lowO := fun d h => by
    by_cases h0 : i = 0
    · subst h0
      exact ⟨p', by rw [List.getElem?_set_self (by cases Nat.lt_or_ge 0 ρ.length with | inl z => exact z | inr z => rw [List.getElem?_eq_none z] at h; cases h)]⟩
    · exact ⟨d, by rw [List.getElem?_set_ne h0]; exact h⟩
  rdb := fun j e h => by
    rcases get_set h with ⟨_, q⟩ | ⟨_, h⟩
    · cases q
    · exact ⟨h, rfl⟩
theorem callB_of {md : List Bool} {fr : Bool} {g : DF} {i : Nat} {t : XA} {σ : L2.St} {H : Hp} {Q : VK}
    (h : ∃ F ρ, Rel X.K F H ρ σ ∧ Pend X.K (EWx cv W) (xCallB g i t) ρ σ F H fun d ρ' F' H' => (fr = false → ∀ v, Rp X.K F' v d → Q v H') ∧ (fr = true → ∀ p o, F' p = none → H' p = some o → Ro X.K F' p o d → ¬ Own ρ' σ p → (Own ρ σ p ∨ H p = none) → Q (.ref p) H')) :
    tCallS (spB X.K cv fr md g) (WE W) (tCons (tVar i) (lM X.K (EWx cv W) i md t)) σ H Q := by
  obtain ⟨F, ρ, r, p⟩ := h
  unfold xCallB at p
  cases e0 : ownD i ρ with
  | none => unfold Pend at p; simp only [e0] at p
  | some d00 =>
    obtain ⟨b, o, h1, h2, h3, h4⟩ := r.own (ownD_of e0)
    have p' : Pend X.K (EWx cv W) (fun ρ => (t ρ).bind fun ds ρ1 => match ownD i ρ1 with
      | none => .bad
      | some d0 => (g (d0 :: ds)).resB i ρ1) ρ σ F H fun d ρ' F' H' => (fr = false → ∀ v, Rp X.K F' v d → Q v H') ∧ (fr = true → ∀ p o, F' p = none → H' p = some o → Ro X.K F' p o d → ¬ Own ρ' σ p → (Own ρ σ p ∨ H p = none) → Q (.ref p) H') := by
      unfold Pend at p ⊢
      simp only [e0] at p
      exact p
    refine ⟨.ref b, h1, F, ρ, r, (Pend.bind r p').mono fun ds ρ1 F1 H1 g1 q vs ra => ?_⟩
    unfold Pend at q
    cases e1 : ownD i ρ1 with
    | none => simp only [e1] at q
    | some d0 =>
      simp only [e1] at q
      obtain ⟨b1, o1, k1, k2, k3, k4⟩ := g1.rel.own (ownD_of e1)
      rw [h1] at k1
      cases k1
      refine ⟨F1, b, o1, d0, vs, ds, rfl, g1.rel.ex, k2, k3, k4, ra.ralB g1.rel (ownD_of e1) h1 k2, ?_⟩
      unfold FR.resB at q
      split <;> rename_i e2 <;> simp only [e2] at q
      · intro F2 H2 o2 gr z1 z2 z3
        have g2 := go_bor g1.rel (ownD_of e1) h1 gr z1 z2 z3
        obtain ⟨m1, m2⟩ := q F2 H2 g2
        refine ⟨m1, fun ef p o3 hp y1 y2 y3 => m2 ef p o3 y1 y2 y3 (fun z => ?_) (own_back r g1 (.inr hp))⟩
        rcases g2.own p z with z | z
        · exact not_own_new g1.rel hp z
        · obtain ⟨j, dj, zz1, zz2⟩ := id ‹Own _ _ p›
          rcases get_set zz1 with ⟨ej, _⟩ | ⟨_, zz1⟩
          · subst ej
            rw [h1] at zz2
            cases zz2
            rw [hp] at k3; cases k3
          · exact not_own_new g1.rel hp ⟨j, dj, zz1, zz2⟩
      · exact fun F2 H2 o2 gr z1 z2 z3 => q F2 H2 (go_bor g1.rel (ownD_of e1) h1 gr z1 z2 z3)
theorem lE_B {md : List Bool} {g : DF} {i : Nat} {t : XA} {σ : L2.St} {H : Hp} {Q : VK} (h : lE X.K (EWx cv W) (xCallB g i t) σ H Q) : tCallS (spB X.K cv false md g) (WE W) (tCons (tVar i) (lM X.K (EWx cv W) i md t)) σ H Q := by
  obtain ⟨F, ρ, r, p⟩ := h
  exact callB_of ⟨F, ρ, r, p.mono fun d ρ' F' H' g q => ⟨fun _ => q, fun z => by cases z⟩⟩
theorem lN_B {md : List Bool} {g : DF} {i : Nat} {t : XA} {σ : L2.St} {H : Hp} {Q : VK} (h : lN X.K (EWx cv W) (xCallB g i t) σ H Q) : tCallS (spB X.K cv true md g) (WE W) (tCons (tVar i) (lM X.K (EWx cv W) i md t)) σ H Q := by
  obtain ⟨F, ρ, r, p⟩ := h
  exact callB_of ⟨F, ρ, r, p.mono fun d ρ' F' H' g q => ⟨fun z => (by cases z), fun _ => q⟩⟩
theorem xe_callBor {md : List Bool} {k : Nat} {f : Addr} {fd : FuncData} {ps : List Str} {g : DF} {x y : Str} {p yp : Pos} {es : List Expr} {i : Nat} {t : XA} (tk : Takes X W) (FN : FnOk X.prog X.w X.K X.mg X.base (L2.CX X.prog X.w) k f fd ps (spB X.K cv false md g)) (hr : Room k X.A) (hg : Gl X x) (hm : X.mg x = some (.ref f)) (hk : PySem.W.keepIn X.K (.ref f) = true) (hb : Binds X.K fd ps [])
    (hy : PE X (.Name y yp) (tVar i)) (ha : PA X es (lM X.K (EWx cv W) i md t)) (hdb : (x == ("__debug__" : Str)) = false := by decide) (he : starEach (.Name y yp :: es) X.env = (false, eval (.Name y yp) X.env) :: starEach es X.env := by rfl) (hpl : (backTo pos (starEach es X.env)).any (·.1) = false := by rfl) :
    PE X (.Call (.Name x p) (.Name y yp :: es) [] pos) (lE X.K (EWx cv W) (xCallB g i t)) := pe_imp (pe_callS FN hr hg hm hk hb (passAt tk) (pa_cons hy ha he) hdb he hpl) fun σ H Q h => lE_B h
theorem xn_callBor {md : List Bool} {k : Nat} {f : Addr} {fd : FuncData} {ps : List Str} {g : DF} {x y : Str} {p yp : Pos} {es : List Expr} {i : Nat} {t : XA} (tk : Takes X W) (FN : FnOk X.prog X.w X.K X.mg X.base (L2.CX X.prog X.w) k f fd ps (spB X.K cv true md g)) (hr : Room k X.A) (hg : Gl X x) (hm : X.mg x = some (.ref f)) (hk : PySem.W.keepIn X.K (.ref f) = true) (hb : Binds X.K fd ps [])
    (hy : PE X (.Name y yp) (tVar i)) (ha : PA X es (lM X.K (EWx cv W) i md t)) (hdb : (x == ("__debug__" : Str)) = false := by decide) (he : starEach (.Name y yp :: es) X.env = (false, eval (.Name y yp) X.env) :: starEach es X.env := by rfl) (hpl : (backTo pos (starEach es X.env)).any (·.1) = false := by rfl) :
    PE X (.Call (.Name x p) (.Name y yp :: es) [] pos) (lN X.K (EWx cv W) (xCallB g i t)) := pe_imp (pe_callS FN hr hg hm hk hb (passAt tk) (pa_cons hy ha he) hdb he hpl) fun σ H Q h => lN_B h
end
end G

namespace G
open PySem PySem.Spec PyProof.Rows L2

/-! ### operations on values -/
theorem imp2_or {K : PySem.W.Frag} {f g : D → D → Option D} {r r' : R2} (h : Imp2 K f r) (h' : Imp2 K g r') : Imp2 K (fun x y => (f x y).orElse fun _ => g x y) (fun v w H Q => r v w H Q ∨ r' v w H Q) := fun F H v w x y d Q ex rv rw e o => by
  cases q : f x y with
  | some d' =>
    have e' : some d' = some d := by simpa [q] using e
    cases e'
    exact .inl (h F H v w x y d Q ex rv rw q o)
  | none => exact .inr (h' F H v w x y d Q ex rv rw (by simpa [q] using e) o)
def d2I (C : Int → Int → Prop) [∀ i j, Decidable (C i j)] (g : Int → Int → D) : D → D → Option D
  | .int i, .int j => if C i j then some (g i j) else none
  | _, _ => none
def d2I0 (g : Int → Int → D) : D → D → Option D
  | .int i, .int j => some (g i j)
  | _, _ => none
theorem d2I_of {C : Int → Int → Prop} [∀ i j, Decidable (C i j)] {g : Int → Int → D} {x y d : D} (h : d2I C g x y = some d) : ∃ i j, x = .int i ∧ y = .int j ∧ C i j ∧ d = g i j := by
  unfold d2I at h
  split at h
  · split at h
    · cases h; exact ⟨_, _, rfl, rfl, by assumption, rfl⟩
    · cases h
  · cases h
theorem d2I0_of {g : Int → Int → D} {x y d : D} (h : d2I0 g x y = some d) : ∃ i j, x = .int i ∧ y = .int j ∧ d = g i j := by
  unfold d2I0 at h
  split at h
  · cases h; exact ⟨_, _, rfl, rfl, rfl⟩
  · cases h
theorem imp_I {K : PySem.W.Frag} {C : Int → Int → Prop} [∀ i j, Decidable (C i j)] {g : Int → Int → D} {gv : Int → Int → V} (hg : ∀ F i j, Rp K F (gv i j) (g i j)) : Imp2 K (d2I C g) (rI C gv) := fun F H v w x y d Q ex rv rw e o => by
  obtain ⟨i, j, rfl, rfl, hc, rfl⟩ := d2I_of e
  cases rv; cases rw
  exact ⟨i, j, rfl, rfl, hc, o.here ex (hg F i j)⟩
theorem imp_I0 {K : PySem.W.Frag} {g : Int → Int → D} {gv : Int → Int → V} (hg : ∀ F i j, Rp K F (gv i j) (g i j)) : Imp2 K (d2I0 g) (rI0 gv) := fun F H v w x y d Q ex rv rw e o => by
  obtain ⟨i, j, rfl, rfl, rfl⟩ := d2I0_of e
  cases rv; cases rw
  exact ⟨i, j, rfl, rfl, o.here ex (hg F i j)⟩
def dAddS : D → D → Option D
  | .str a, .str b => if a.length + b.length ≤ sizeLine then some (.str (a ++ b)) else none
  | _, _ => none
def dAddT : D → D → Option D
  | .tup a, .tup b => if a ≠ [] ∧ a.length + b.length ≤ sizeLine then some (.tup (a ++ b)) else none
  | _, _ => none
def dAddL : D → D → Option D
  | .lst a, .lst b => if a.length + b.length ≤ sizeLine then some (.lst (a ++ b)) else none
  | _, _ => none
instance (a : List D) : Decidable (a = []) := match a with
  | [] => isTrue rfl
  | _ :: _ => isFalse (fun h => nomatch h)
def dAdd : D → D → Option D
  | .int i, .int j => some (.int (i + j))
  | .str a, .str b => dAddS (.str a) (.str b)
  | .tup a, .tup b => dAddT (.tup a) (.tup b)
  | .lst a, .lst b => dAddL (.lst a) (.lst b)
  | _, _ => none
def rAddAll (K : PySem.W.Frag) : R2 := fun x y H Q => (rI0 fun i j => .int (i + j)) x y H Q ∨ (fun x y H Q => ∃ i j, x = .str i ∧ y = .str j ∧ i.length + j.length ≤ sizeLine ∧ Q (.str (i ++ j)) H) x y H Q ∨ rCatT K x y H Q ∨ rCat x y H Q
theorem op_addAll {X : Cx} : OpR X (binaryOp .Add) (rAddAll X.K) := op_add.or (op_add_str.or (op_catT.or op_cat))
theorem imp_add {K : PySem.W.Frag} : Imp2 K dAdd (rAddAll K) := fun F H v w x y d Q ex rv rw e o => by
  unfold dAdd at e
  split at e
  · cases e; cases rv; cases rw
    exact .inl ⟨_, _, rfl, rfl, o.here ex (.int _)⟩
  · unfold dAddS at e
    simp only at e
    split at e
    · cases e; cases rv; cases rw
      exact .inr (.inl ⟨_, _, rfl, rfl, by assumption, o.here ex (.str _)⟩)
    · cases e
  · unfold dAddT at e
    simp only at e
    split at e
    · rename_i a b hc
      cases e
      cases rv with
      | tup hf ra =>
        rename_i p xs
        cases rw with
        | tup hf' rb =>
          rename_i q ys
          refine .inr (.inr (.inl ⟨p, q, xs, ys, rfl, rfl, SqT.of (ex _ _ hf), SqT.of (ex _ _ hf'), ?_, by rw [ra.length, rb.length]; exact hc.2, fun hn => ?_, fun hn r hr => ?_⟩))
          · rintro rfl
            cases ra
            exact hc.1 rfl
          · subst hn
            cases rb
            rw [List.append_nil] at o
            exact o.here ex (.tup hf ra)
          · have g := Gr.new (o := .tup (xs ++ ys)) ex hr
            exact o.new ex hr (.tup upd_same ((ra.append rb).mono g.ex))
    · cases e
  · unfold dAddL at e
    simp only at e
    split at e
    · rename_i a b hc
      cases e
      cases rv with
      | lst hf ra =>
        rename_i p xs
        cases rw with
        | lst hf' rb =>
          rename_i q ys
          refine .inr (.inr (.inr ⟨p, q, xs, ys, rfl, rfl, ex _ _ hf, ex _ _ hf', by rw [ra.length, rb.length]; exact hc, fun r hr => ?_⟩))
          have g := Gr.new (o := .lst (xs ++ ys)) ex hr
          exact o.new ex hr (.lst upd_same ((ra.append rb).mono g.ex))
    · cases e
  · cases e
theorem imp_addL {K : PySem.W.Frag} : Imp2N K dAddL rCat := fun F H v w x y d Q ex rv rw e o => by
  unfold dAddL at e
  split at e
  · split at e
    · rename_i a b hc
      cases e
      cases rv with
      | lst hf ra =>
        rename_i p xs
        cases rw with
        | lst hf' rb =>
          rename_i q ys
          exact ⟨p, q, xs, ys, rfl, rfl, ex _ _ hf, ex _ _ hf', by rw [ra.length, rb.length]; exact hc, fun r hr => o.new ex hr (.lst (ra.append rb))⟩
    · cases e
  · cases e
def dSub := d2I0 fun i j => .int (i - j)
instance (i j : Int) : Decidable (CMulW i j) := by unfold CMulW; infer_instance
instance (i j : Int) : Decidable (CDivW i j) := by unfold CDivW; infer_instance
instance (i j : Int) : Decidable (CPow i j) := by unfold CPow; infer_instance
instance (i j : Int) : Decidable (CMul i j) := by unfold CMul; infer_instance
def CMulA (i j : Int) : Prop := CMul i j ∨ CMulW i j
instance (i j : Int) : Decidable (CMulA i j) := by unfold CMulA; infer_instance
theorem op_mulA {X : Cx} : OpR X (binaryOp .Mult) (rI CMulA fun i j => .int (i * j)) := opI fun _ _ _ _ _ _ _ hc q => mul_int q (hc.elim CMul.ok CMulW.ok)
def dMul := d2I CMulA fun i j => .int (i * j)
def dDiv := d2I CDivW fun i j => .int (i / j)
def dMod := d2I (fun _ j => 0 < j) fun i j => .int (i % j)
def dPow := d2I CPow fun i j => .int (i ^ j.toNat)
def dShl := d2I CPow fun i j => .int (i * 2 ^ j.toNat)
def dShr := d2I (fun _ j => 0 ≤ j) fun i j => .int (i / 2 ^ j.toNat)
def dAnd := d2I0 fun i j => .int (Builtin.bitAnd i j)
def dNeg : D → Option D
  | .int i => some (.int (-i))
  | _ => none
theorem imp_neg {K : PySem.W.Frag} : Imp1 K dNeg (rU fun i => .int (-i)) := fun F H v x d Q ex rv e o => by
  unfold dNeg at e
  split at e
  · cases e; cases rv
    exact ⟨_, rfl, o.here ex (.int _)⟩
  · cases e
/-! comparisons -/
def dCmp (p : Int → Int → Bool) := d2I0 fun i j => .bl (p i j)
def tupInts : List D → Option (List Int)
  | [] => some []
  | .int i :: r => (tupInts r).map (i :: ·)
  | _ => none
theorem tupInts_of : ∀ {ds : List D} {ns : List Int}, tupInts ds = some ns → ds = ns.map D.int
  | [], ns, h => by cases h; rfl
  | .int i :: r, ns, h => by
    unfold tupInts at h
    cases q : tupInts r with
    | none => rw [q] at h; cases h
    | some ms => rw [q] at h; cases h; rw [tupInts_of q]; rfl
  | .non :: _, _, h => by cases h
  | .bl _ :: _, _, h => by cases h
  | .str _ :: _, _, h => by cases h
  | .ty _ :: _, _, h => by cases h
  | .tup _ :: _, _, h => by cases h
  | .lst _ :: _, _, h => by cases h
  | .fix _ :: _, _, h => by cases h
  | .dicK _ _ :: _, _, h => by cases h
  | .dicT _ _ :: _, _, h => by cases h
theorem tupInts_int (ns : List Int) : tupInts (ns.map D.int) = some ns := by
  induction ns with
  | nil => rfl
  | cons n ns ih => show (tupInts (ns.map D.int)).map (n :: ·) = _; rw [ih]; rfl
def dLt : D → D → Option D
  | .int i, .int j => some (.bl (decide (i < j)))
  | .tup a, .tup b => match tupInts a, tupInts b with
    | some ns, some ms => some (.bl (HT.lexLt ns ms))
    | _, _ => none
  | _, _ => none
theorem imp_lt {K : PySem.W.Frag} : Imp2 K dLt (fun v w H Q => (rI0 fun i j => .bl (decide (i < j))) v w H Q ∨ rLtT K v w H Q) := fun F H v w x y d Q ex rv rw e o => by
  unfold dLt at e
  split at e
  · cases e; cases rv; cases rw
    exact .inl ⟨_, _, rfl, rfl, o.here ex (.bl _)⟩
  · split at e
    · rename_i ns ms q1 q2
      cases e
      cases rv with
      | tup hf ra =>
        rename_i p xs
        cases rw with
        | tup hf' rb =>
          rename_i q ys
          rw [tupInts_of q1] at ra
          rw [tupInts_of q2] at rb
          rw [ra.ints] at hf
          rw [rb.ints] at hf'
          exact .inr ⟨p, q, ns, ms, rfl, rfl, SqT.of (ex _ _ hf), SqT.of (ex _ _ hf'), o.here ex (.bl _)⟩
    · cases e
  · cases e
theorem op_ltAll {X : Cx} (hu : X.A.units < cLine) : OpR X (compareOp .Lt) (fun v w H Q => (rI0 fun i j => .bl (decide (i < j))) v w H Q ∨ rLtT X.K v w H Q) := op_lt.or (op_ltT hu)
mutual
def toPy : D → Option PyData
  | .non => some .none
  | .bl b => some (.bool b)
  | .int i => some (.int i)
  | .str x => some (.str x)
  | .tup ds => (toPys ds).map .tuple
  | .lst ds => (toPys ds).map .list
  | _ => none
def toPys : List D → Option (List PyData)
  | [] => some []
  | d :: ds => match toPy d, toPys ds with
    | some x, some xs => some (x :: xs)
    | _, _ => none
end
section
variable {K : PySem.W.Frag} {F : Hp}
mutual
theorem rp_dp : ∀ (d : D) (v : V) (x : PyData), Rp K F v d → toPy d = some x → Dp K F v x
  | .non, _, _, h, e => by cases h; simp only [toPy] at e; cases e; exact .non
  | .bl b, _, _, h, e => by cases h; simp only [toPy] at e; cases e; exact .bl b
  | .int i, _, _, h, e => by cases h; simp only [toPy] at e; cases e; exact .int i
  | .str i, _, _, h, e => by cases h; simp only [toPy] at e; cases e; exact .str i
  | .ty _, _, _, _, e => by simp only [toPy] at e; cases e
  | .dicK _ _, _, _, _, e => by simp only [toPy] at e; cases e
  | .dicT _ _, _, _, _, e => by simp only [toPy] at e; cases e
  | .tup ds, _, _, h, e => by
    simp only [toPy] at e
    cases h with
    | tup hf ra =>
      cases q : toPys ds with
      | none => rw [q] at e; cases e
      | some xs => rw [q] at e; cases e; exact .tup (SqT.of hf) (rp_dps ds _ xs ra q)
  | .lst ds, _, _, h, e => by
    simp only [toPy] at e
    cases h with
    | lst hf ra =>
      cases q : toPys ds with
      | none => rw [q] at e; cases e
      | some xs => rw [q] at e; cases e; exact .lst (SqL.of hf) (rp_dps ds _ xs ra q)
  | .fix ds, _, _, h, e => by simp only [toPy] at e; cases e
theorem rp_dps : ∀ (ds : List D) (vs : List V) (xs : List PyData), RpAll K F vs ds → toPys ds = some xs → DpAll K F vs xs
  | [], _, _, h, e => by cases h; simp only [toPys] at e; cases e; exact .nil
  | d :: ds, _, _, h, e => by
    cases h with
    | cons h1 h2 =>
      simp only [toPys] at e
      cases q1 : toPy d with
      | none => rw [q1] at e; cases e
      | some x =>
        cases q2 : toPys ds with
        | none => rw [q1, q2] at e; cases e
        | some xs => rw [q1, q2] at e; cases e; exact .cons (rp_dp d _ x h1 q1) (rp_dps ds _ xs h2 q2)
end
theorem dp_same {H H' : Hp} (e : Same H H') {v : V} {x : PyData} (h : Dp K H v x) : Dp K H' v x := by
  refine Dp.rec (motive_1 := fun v d _ => Dp K H' v d) (motive_2 := fun vs ds _ => DpAll K H' vs ds) ?_ ?_ ?_ ?_ ?_ ?_ ?_ ?_ h
  · exact .non
  · exact fun b => .bl b
  · exact fun i => .int i
  · exact fun x => .str x
  · exact fun h _ r => .lst (e.seq h) r
  · exact fun h _ r => .tup (same_seqT e h) r
  · exact .nil
  · exact fun _ _ r1 r2 => .cons r1 r2
end
/-- a == b -/
def eqD (x y : D) : Option Bool := match toPy x, toPy y with
  | some a, some b => if SeqAt.shaped a = true ∧ SeqAt.shaped b = true then some (PyData.eqv a b) else none
  | _, _ => none
def dEq (x y : D) : Option D := (eqD x y).map .bl
def dNe (x y : D) : Option D := (eqD x y).map fun b => .bl (!b)
theorem eqD_of {x y : D} {c : Bool} (h : eqD x y = some c) : ∃ a b, toPy x = some a ∧ toPy y = some b ∧ SeqAt.shaped a = true ∧ SeqAt.shaped b = true ∧ c = PyData.eqv a b := by
  unfold eqD at h
  split at h
  · rename_i a b e1 e2
    split at h
    · rename_i hc
      cases h
      exact ⟨a, b, e1, e2, hc.1, hc.2, rfl⟩
    · cases h
  · cases h
theorem imp_eq {K : PySem.W.Frag} : Imp2 K dEq (rEqD K) := fun F H v w x y d Q ex rv rw e o => by
  unfold dEq at e
  cases q : eqD x y with
  | none => rw [q] at e; cases e
  | some c =>
    rw [q] at e
    cases e
    obtain ⟨a, b, h1, h2, h3, h4, rfl⟩ := eqD_of q
    exact ⟨a, b, dp_same ex (rp_dp _ _ _ rv h1), dp_same ex (rp_dp _ _ _ rw h2), h3, h4, o.here ex (.bl _)⟩
theorem imp_ne {K : PySem.W.Frag} : Imp2 K dNe (rNeD K) := fun F H v w x y d Q ex rv rw e o => by
  unfold dNe at e
  cases q : eqD x y with
  | none => rw [q] at e; cases e
  | some c =>
    rw [q] at e
    cases e
    obtain ⟨a, b, h1, h2, h3, h4, rfl⟩ := eqD_of q
    exact ⟨a, b, dp_same ex (rp_dp _ _ _ rv h1), dp_same ex (rp_dp _ _ _ rw h2), h3, h4, o.here ex (.bl _)⟩
/-- x in xs, a list, data of any depth -/
def inD (x y : D) : Option Bool := match toPy x, (match y with | .lst ds => toPys ds | _ => none) with
  | some a, some bs => if SeqAt.shaped a = true ∧ SeqAt.shaped (.list bs) = true then some (bs.any fun z => PyData.eqv z a) else none
  | _, _ => none
def dIn (x y : D) : Option D := (inD x y).map .bl
def dNotIn (x y : D) : Option D := (inD x y).map fun b => .bl (!b)
theorem inD_of {K : PySem.W.Frag} {F : Hp} {x y : D} {w : V} {c : Bool} (rw : Rp K F w y) (h : inD x y = some c) : ∃ a bs, toPy x = some a ∧ Dp K F w (.list bs) ∧ SeqAt.shaped a = true ∧ SeqAt.shaped (.list bs) = true ∧ c = bs.any fun z => PyData.eqv z a := by
  unfold inD at h
  cases q1 : toPy x with
  | none => rw [q1] at h; cases h
  | some a =>
    rw [q1] at h
    have fin : ∀ ds bs, toPys ds = some bs → Dp K F w (.list bs) → (if SeqAt.shaped a = true ∧ SeqAt.shaped (.list bs) = true then some (bs.any fun z => PyData.eqv z a) else none) = some c → ∃ a' bs, some a = some a' ∧ Dp K F w (.list bs) ∧ SeqAt.shaped a' = true ∧ SeqAt.shaped (.list bs) = true ∧ c = bs.any fun z => PyData.eqv z a' := fun ds bs _ hd h => by
      split at h
      · rename_i hc
        cases h
        exact ⟨a, bs, rfl, hd, hc.1, hc.2, rfl⟩
      · cases h
    cases y with
    | lst ds =>
      simp only at h
      cases q : toPys ds with
      | none => rw [q] at h; cases h
      | some bs =>
        rw [q] at h
        exact fin ds bs q (rp_dp (.lst ds) w (.list bs) rw (by simp only [toPy]; rw [q]; rfl)) h
    | fix _ => cases h
    | non => cases h
    | bl _ => cases h
    | int _ => cases h
    | str _ => cases h
    | ty _ => cases h
    | tup _ => cases h
    | dicK _ _ => cases h
    | dicT _ _ => cases h
    | dicN _ _ => cases h
theorem imp_in {K : PySem.W.Frag} : Imp2 K dIn (rInD K) := fun F H v w x y d Q ex rv rw e o => by
  unfold dIn at e
  cases q : inD x y with
  | none => rw [q] at e; cases e
  | some c =>
    rw [q] at e
    cases e
    obtain ⟨a, bs, h1, h2, h3, h4, rfl⟩ := inD_of rw q
    exact ⟨a, bs, dp_same ex (rp_dp _ _ _ rv h1), dp_same ex h2, h3, h4, o.here ex (.bl _)⟩
theorem imp_notIn {K : PySem.W.Frag} : Imp2 K dNotIn (rNotInD K) := fun F H v w x y d Q ex rv rw e o => by
  unfold dNotIn at e
  cases q : inD x y with
  | none => rw [q] at e; cases e
  | some c =>
    rw [q] at e
    cases e
    obtain ⟨a, bs, h1, h2, h3, h4, rfl⟩ := inD_of rw q
    exact ⟨a, bs, dp_same ex (rp_dp _ _ _ rv h1), dp_same ex h2, h3, h4, o.here ex (.bl _)⟩
/-- is None -/
def isNon : D → Bool
  | .non => true
  | _ => false
def dIs : D → D → Option D
  | x, .non => some (.bl (isNon x))
  | _, _ => none
def dIsNot : D → D → Option D
  | x, .non => some (.bl (!isNon x))
  | _, _ => none
theorem isNon_of {K : PySem.W.Frag} {F : Hp} {v : V} {x : D} (r : Rp K F v x) : isNon x = decide (v = .non) := by cases r <;> simp [isNon]
theorem imp_is {K : PySem.W.Frag} : Imp2 K dIs (fun x y H Q => y = .non ∧ Q (.bl (decide (x = .non))) H) := fun F H v w x y d Q ex rv rw e o => by
  unfold dIs at e
  split at e
  · cases e; cases rw
    exact ⟨rfl, o.here ex (by rw [isNon_of rv]; exact .bl _)⟩
  · cases e
theorem imp_isNot {K : PySem.W.Frag} : Imp2 K dIsNot (fun x y H Q => y = .non ∧ Q (.bl (!decide (x = .non))) H) := fun F H v w x y d Q ex rv rw e o => by
  unfold dIsNot at e
  split at e
  · cases e; cases rw
    exact ⟨rfl, o.here ex (by rw [isNon_of rv]; exact .bl _)⟩
  · cases e
/-! items -/
def dIx : D → D → Option D
  | .lst ds, .int i => atI ds i
  | .fix ds, .int i => atI ds i
  | .tup ds, .int i => atI ds i
  | .str z, .int i => if z.length ≤ sizeLine then (atI z.cps.toList i).map fun c => .str ⟨#[c]⟩ else none
  | _, _ => none
theorem imp_ix {K : PySem.W.Frag} : Imp2 K dIx (rIx K) := fun F H v w x y d Q ex rv rw e o => by
  unfold dIx at e
  split at e
  · cases rw
    cases rv with
    | lst hf ra => obtain ⟨u, hu, ru⟩ := atI_rp ra e; exact .inl ⟨_, _, _, u, rfl, rfl, SqL.of (ex _ _ hf), hu, o.here ex ru⟩
  · cases rw
    cases rv with
    | fix hf ra => obtain ⟨u, hu, ru⟩ := atI_rp ra e; exact .inl ⟨_, _, _, u, rfl, rfl, ex.seq hf, hu, o.here ex ru⟩
  · cases rw
    cases rv with
    | tup hf ra => obtain ⟨u, hu, ru⟩ := atI_rp ra e; exact .inr (.inl ⟨_, _, _, u, rfl, rfl, SqT.of (ex _ _ hf), hu, o.here ex ru⟩)
  · split at e
    · rename_i hz
      cases rw; cases rv
      rename_i z i
      cases q : atI z.cps.toList i with
      | none => rw [q] at e; cases e
      | some c => rw [q] at e; cases e; exact .inr (.inr ⟨z, i, c, rfl, rfl, hz, q, o.here ex (.str _)⟩)
    · cases e
  · cases e
/-! built-ins -/
def dLen : List D → Option D
  | [.lst ds] => some (.int (ds.length : Nat))
  | [.fix ds] => some (.int (ds.length : Nat))
  | [.tup ds] => some (.int (ds.length : Nat))
  | [.str z] => if z.length ≤ sizeLine then some (.int (z.length : Nat)) else none
  | _ => none
def rLenAll (K : PySem.W.Frag) : List V → Hp → VK → Prop := fun xs H Q => (∃ p ys, xs = [.ref p] ∧ (SqL K H p ys ∨ SqT K H p ys) ∧ Q (.int ys.length) H) ∨ (∃ z, xs = [.str z] ∧ z.length ≤ sizeLine ∧ Q (.int z.length) H)
theorem call_lenAll {X : Cx} : CallR X (.builtin "len") (rLenAll X.K) := call_len_seq.or call_len_str
theorem imp_len {K : PySem.W.Frag} : ImpL K dLen (rLenAll K) := fun F H vs ds d Q ex ra e o => by
  unfold dLen at e
  split at e
  · cases e
    cases ra with
    | cons a b => cases b; cases a with | lst hf r => exact .inl ⟨_, _, rfl, .inl (SqL.of (ex _ _ hf)), o.here ex (by rw [← r.length]; exact .int _)⟩
  · cases e
    cases ra with
    | cons a b => cases b; cases a with | fix hf r => exact .inl ⟨_, _, rfl, .inl (ex.seq hf), o.here ex (by rw [← r.length]; exact .int _)⟩
  · cases e
    cases ra with
    | cons a b => cases b; cases a with | tup hf r => exact .inl ⟨_, _, rfl, .inr (SqT.of (ex _ _ hf)), o.here ex (by rw [← r.length]; exact .int _)⟩
  · split at e
    · cases e
      cases ra with
      | cons a b => cases b; cases a; exact .inr ⟨_, rfl, by assumption, o.here ex (.int _)⟩
    · cases e
  · cases e
def dAbs : List D → Option D
  | [.int i] => some (.int (if i < 0 then -i else i))
  | _ => none
theorem imp_abs {K : PySem.W.Frag} : ImpL K dAbs (fun xs H Q => ∃ i, xs = [.int i] ∧ Q (.int (if i < 0 then -i else i)) H) := fun F H vs ds d Q ex ra e o => by
  unfold dAbs at e
  split at e
  · cases e
    cases ra with
    | cons a b => cases b; cases a; exact ⟨_, rfl, o.here ex (.int _)⟩
  · cases e
def dMax2 : List D → Option D
  | [.int i, .int j] => some (.int (if j > i then j else i))
  | _ => none
theorem imp_max2 {K : PySem.W.Frag} : ImpL K dMax2 (fun xs H Q => ∃ i j, xs = [.int i, .int j] ∧ Q (.int (if j > i then j else i)) H) := fun F H vs ds d Q ex ra e o => by
  unfold dMax2 at e
  split at e
  · cases e
    cases ra with
    | cons a b => cases b with | cons b c => cases c; cases a; cases b; exact ⟨_, _, rfl, o.here ex (.int _)⟩
  · cases e
def dMin2 : List D → Option D
  | [.int i, .int j] => some (.int (if j < i then j else i))
  | _ => none
theorem imp_min2 {K : PySem.W.Frag} : ImpL K dMin2 (fun xs H Q => ∃ i j, xs = [.int i, .int j] ∧ Q (.int (if j < i then j else i)) H) := fun F H vs ds d Q ex ra e o => by
  unfold dMin2 at e
  split at e
  · cases e
    cases ra with
    | cons a b => cases b with | cons b c => cases c; cases a; cases b; exact ⟨_, _, rfl, o.here ex (.int _)⟩
  · cases e
def dInt : List D → Option D
  | [.int i] => some (.int i)
  | [.bl b] => some (.int (if b then 1 else 0))
  | _ => none
theorem imp_int {K : PySem.W.Frag} : ImpL K dInt (fun xs H Q => (∃ i, xs = [.int i] ∧ Q (.int i) H) ∨ ∃ k, xs = [.bl k] ∧ Q (.int (if k then 1 else 0)) H) := fun F H vs ds d Q ex ra e o => by
  unfold dInt at e
  split at e
  · cases e
    cases ra with
    | cons a b => cases b; cases a; exact .inl ⟨_, rfl, o.here ex (.int _)⟩
  · cases e
    cases ra with
    | cons a b => cases b; cases a; exact .inr ⟨_, rfl, o.here ex (.int _)⟩
  · cases e
/-- list(x), tuple(x) -/
def dList : List D → Option D
  | [.lst ds] => some (.lst ds)
  | [.fix ds] => some (.lst ds)
  | [.tup ds] => some (.lst ds)
  | _ => none
theorem imp_list {K : PySem.W.Frag} : ImpLN K dList (fun xs H Q => ∃ p ys, xs = [.ref p] ∧ (SqL K H p ys ∨ SqT K H p ys) ∧ ∀ l, H l = none → Q (.ref l) (upd H l (.lst ys))) := fun F H vs ds d Q ex ra e o => by
  unfold dList at e
  split at e
  · cases e
    cases ra with
    | cons a b => cases b; cases a with | lst hf r => exact ⟨_, _, rfl, .inl (SqL.of (ex _ _ hf)), fun l hl => o.new ex hl (.lst r)⟩
  · cases e
    cases ra with
    | cons a b => cases b; cases a with | fix hf r => exact ⟨_, _, rfl, .inl (ex.seq hf), fun l hl => o.new ex hl (.lst r)⟩
  · cases e
    cases ra with
    | cons a b => cases b; cases a with | tup hf r => exact ⟨_, _, rfl, .inr (SqT.of (ex _ _ hf)), fun l hl => o.new ex hl (.lst r)⟩
  · cases e
def dTuple : List D → Option D
  | [.lst ds] => some (.tup ds)
  | [.fix ds] => some (.tup ds)
  | [.tup ds] => some (.tup ds)
  | _ => none
theorem imp_tuple {K : PySem.W.Frag} : ImpL K dTuple (fun xs H Q => ∃ p ys, xs = [.ref p] ∧ ((SqL K H p ys ∧ ∀ l, H l = none → Q (.ref l) (upd H l (.tup ys))) ∨ (SqT K H p ys ∧ Q (.ref p) H))) := fun F H vs ds d Q ex ra e o => by
  unfold dTuple at e
  split at e
  · cases e
    cases ra with
    | cons a b =>
      cases b
      cases a with
      | lst hf r => exact ⟨_, _, rfl, .inl ⟨SqL.of (ex _ _ hf), fun l hl => o.new ex hl (.tup upd_same (r.mono (Gr.new (o := .tup _) ex hl).ex))⟩⟩
  · cases e
    cases ra with
    | cons a b =>
      cases b
      cases a with
      | fix hf r => exact ⟨_, _, rfl, .inl ⟨ex.seq hf, fun l hl => o.new ex hl (.tup upd_same (r.mono (Gr.new (o := .tup _) ex hl).ex))⟩⟩
  · cases e
    cases ra with
    | cons a b => cases b; cases a with | tup hf r => exact ⟨_, _, rfl, .inr ⟨SqT.of (ex _ _ hf), o.here ex (.tup hf r)⟩⟩
  · cases e
/-- isinstance(x, T) -/
def tyName : D → Option String
  | .non => some "NoneType"
  | .bl _ => some "bool"
  | .int _ => some "int"
  | .str _ => some "str"
  | .tup _ => some "tuple"
  | .lst _ => some "list"
  | .dicK z _ => if z = true then none else some "dict"
  | .dicT z _ => if z = true then none else some "dict"
  | _ => none
def isTy (a b : String) : Bool := a == b || (a == "bool" && b == "int")
def tyKnown (b : String) : Bool := b == "int" || b == "bool" || b == "str" || b == "list" || b == "tuple" || b == "dict"
def dIsi : List D → Option D
  | [x, .ty n] => if tyKnown n = true then (tyName x).map fun a => .bl (isTy a n) else none
  | _ => none
theorem kit_known : ∀ a ∈ ["NoneType", "bool", "int", "str", "tuple", "list", "dict"], ∀ b ∈ ["int", "bool", "str", "list", "tuple", "dict"], kitB a b = some (isTy a b) := by decide +kernel
theorem tyKnown_mem {b : String} (h : tyKnown b = true) : b ∈ ["int", "bool", "str", "list", "tuple", "dict"] := by
  unfold tyKnown at h
  simp only [Bool.or_eq_true, beq_iff_eq] at h
  simp only [List.mem_cons, List.not_mem_nil, or_false]
  rcases h with ((((h | h) | h) | h) | h) | h <;> simp [h]
theorem tyName_of {K : PySem.W.Frag} {F H : Hp} {v : V} {x : D} {a : String} (ex : Same F H) (r : Rp K F v x) (h : tyName x = some a) : TyX K H v (.type a) ∧ a ∈ ["NoneType", "bool", "int", "str", "tuple", "list", "dict"] := by
  cases r with
  | non => cases h; exact ⟨.base .non, by decide⟩
  | bl _ => cases h; exact ⟨.base (.bl _), by decide⟩
  | int _ => cases h; exact ⟨.base (.int _), by decide⟩
  | str _ => cases h; exact ⟨.base (.str _), by decide⟩
  | ty _ => cases h
  | fix _ _ => cases h
  | tup hf _ => cases h; exact ⟨.base (.tup (ex _ _ hf)), by decide⟩
  | lst hf _ => cases h; exact ⟨.base (.lst (ex _ _ hf)), by decide⟩
  | @dicK z _ _ _ _ hf _ _ =>
    cases z
    · cases h; exact ⟨.base (.dK (ex _ _ hf)), by decide⟩
    · cases h
  | @dicT z _ _ _ _ hf _ _ =>
    cases z
    · cases h; exact ⟨.base (.dT (ex _ _ hf)), by decide⟩
    · cases h
  | dicN _ _ _ _ => cases h
theorem imp_isi {K : PySem.W.Frag} : ImpL K dIsi (rIsi K) := fun F H vs ds d Q ex ra e o => by
  unfold dIsi at e
  split at e
  · rename_i x n
    split at e
    · rename_i hk
      cases q : tyName x with
      | none => rw [q] at e; cases e
      | some a =>
        rw [q] at e
        cases e
        cases ra with
        | cons r1 r2 =>
          cases r2 with
          | cons r2 r3 =>
            cases r3; cases r2
            obtain ⟨t1, t2⟩ := tyName_of ex r1 q
            exact ⟨_, _, _, _, _, rfl, .ty n, t1, kit_ty (kit_known a t2 n (tyKnown_mem hk)), o.here ex (.bl _)⟩
    · cases e
  · cases e
section
variable {X : Cx} {E : EW}
theorem xe_ty {x : Str} {n : String} {pos : Pos} (hg : Gl X x) (hm : X.mg x = none) (hv : bootBuiltins x = some (.type n)) (hn : x ≠ "__name__" := by decide) (hd : (x == ("__debug__" : Str)) = false := by decide) : PE X (.Name x pos) (lE X.K E (xC (.ty n))) :=
  xe_const (pe_bltn (v := .ty n) hg hm hv rfl hn hd) fun _ => .ty n
end
end G

namespace G
open PySem PySem.Spec PyProof.Rows L2

section
variable {X : Cx} {E : EW} {a b : Expr} {pos : Pos} {ta tb : XV}
/-! ### an owned name looked at, the answer a truth -/
def dBl (f : D → D → Option D) (x y : D) : Option Bool := match f x y with
  | some (.bl b) => some b
  | _ => none
theorem dBl_of {f : D → D → Option D} {x y : D} {b : Bool} (h : dBl f x y = some b) : f x y = some (.bl b) := by
  unfold dBl at h
  split at h
  · cases h; assumption
  · cases h
theorem same_frz {F H : Hp} {p : Addr} {o : HO} (e : Same F H) (hh : H p = some o) : Same (upd F p o) H := fun b u q => by
  by_cases hb : b = p
  · subst hb; rw [upd_same] at q; rw [hh]; exact q
  · rw [upd_ne hb] at q; exact e b u q
theorem out_peek {K : PySem.W.Frag} {F H : Hp} {p : Addr} {o : HO} {c : Bool} {Q : VK} (e : Same F H) (hf : F p = none) (hh : H p = some o) (h : ∀ F' H', Gr F H F' H' → Q (.bl c) H') : OutV K (upd F p o) H (.bl c) Q := fun v F' H' g rv => by
  cases rv
  exact h F H' ⟨Same.refl F, g.exH, fun b u q => g.exH b u (e b u q), fun _ _ _ _ h2 => h2⟩
def xCmpO (f : D → D → Option D) (ta : XV) (i : Nat) : XV := fun ρ => (ta ρ).bind fun x ρ1 => match rdD i ρ1 with
  | some y => match dBl f x y with
    | some b => .ok (.bl b) ρ1
    | none => .bad
  | none => .bad
/-- read for a while as if it were frozen -/
theorem ra_peek {K : PySem.W.Frag} {F H : Hp} {v : V} {d : D} (e : Same F H) (h : Ra K F H v d) : ∃ F2, Same F F2 ∧ Same F2 H ∧ Rp K F2 v d ∧ ∀ (c : Bool) (Q : VK), (∀ F' H', Gr F H F' H' → Q (.bl c) H') → OutV K F2 H (.bl c) Q := by
  cases h with
  | val r n => exact ⟨F, Same.refl F, e, r, fun c Q h v F' H' g rv => by cases rv; exact h F' H' g⟩
  | @own p o _ h1 h2 h3 => exact ⟨upd F p o, fun b' u q => by rw [upd_ne (ne_of_none q h1)]; exact q, same_frz e h2, ro_rp h1 h3, fun c Q h => out_peek e h1 h2 h⟩
theorem xe_cmpO {op : CmpOp} {f : D → D → Option D} {r : R2} {i : Nat} {x : Str} {xp : Pos} (ho : OpR X (compareOp op) r) (hi : Imp2 X.K f r) (ha : PE X a (lE X.K E ta)) (hb : PE X (.Name x xp) (tVar i)) (hm : behindInMarks op (.Name x xp) = false) : PE X (.Compare a [op] [.Name x xp] pos) (lE X.K E (xCmpO f ta i)) := by
  refine pe_imp (pe_cmpR ho ha hb hm) fun σ H Q h => ?_
  obtain ⟨F, ρ, r, p⟩ := h
  refine ⟨F, ρ, r, (Pend.bind r p).mono fun d ρ1 F1 H1 g1 q v rv => ?_⟩
  unfold Pend at q
  cases e0 : rdD i ρ1 with
  | none => simp only [e0] at q
  | some y =>
    simp only [e0] at q
    cases e1 : dBl f d y with
    | none => simp only [e1] at q
    | some c =>
      simp only [e1] at q
      obtain ⟨w, h1, h2⟩ := g1.rel.rd e0
      obtain ⟨F2, s1, s2, rw, k⟩ := ra_peek g1.rel.ex h2
      exact ⟨w, h1, hi F2 H1 v w d y _ Q s2 (rv.mono s1) rw (dBl_of e1) (k c Q fun F' H' g => q F' H' (g.go g1.rel) _ (.bl c))⟩
def xCmpOL (f : D → D → Option D) (i : Nat) (tb : XV) : XV := fun ρ => match rdD i ρ with
  | none => .bad
  | some _ => (tb ρ).bind fun y ρ1 => match rdD i ρ1 with
    | some x => match dBl f x y with
      | some b => .ok (.bl b) ρ1
      | none => .bad
    | none => .bad
theorem xe_cmpOL {op : CmpOp} {f : D → D → Option D} {r : R2} {i : Nat} {x : Str} {xp : Pos} (ho : OpR X (compareOp op) r) (hi : Imp2 X.K f r) (ha : PE X (.Name x xp) (tVar i)) (hb : PE X b (lE X.K E tb)) (hm : behindInMarks op b = false) : PE X (.Compare (.Name x xp) [op] [b] pos) (lE X.K E (xCmpOL f i tb)) := by
  refine pe_imp (pe_cmpR ho ha hb hm) fun σ H Q h => ?_
  obtain ⟨F, ρ, r, p⟩ := h
  unfold xCmpOL at p
  cases e00 : rdD i ρ with
  | none => unfold Pend at p; simp only [e00] at p
  | some y0 =>
    obtain ⟨w, z1, _⟩ := r.rd e00
    have p' : Pend X.K E (fun ρ => (tb ρ).bind fun y ρ1 => match rdD i ρ1 with
      | some x => match dBl f x y with
        | some b => .ok (.bl b) ρ1
        | none => .bad
      | none => .bad) ρ σ F H fun d _ F' H' => ∀ v, Rp X.K F' v d → Q v H' := by
      unfold Pend at p ⊢
      simp only [e00] at p
      exact p
    refine ⟨w, z1, F, ρ, r, (Pend.bind r p').mono fun d ρ1 F1 H1 g1 q v rv => ?_⟩
    unfold Pend at q
    cases e0 : rdD i ρ1 with
    | none => simp only [e0] at q
    | some y =>
      simp only [e0] at q
      cases e1 : dBl f y d with
      | none => simp only [e1] at q
      | some c =>
        simp only [e1] at q
        obtain ⟨w2, h1, h2⟩ := g1.rel.rd e0
        rw [z1] at h1
        cases h1
        obtain ⟨F2, s1, s2, rw, k⟩ := ra_peek g1.rel.ex h2
        exact hi F2 H1 w v y d _ Q s2 rw (rv.mono s1) (dBl_of e1) (k c Q fun F' H' g => q F' H' (g.go g1.rel) _ (.bl c))
/-- x == y, both looked at -/
def xCmpOO (f : D → D → Option D) (i j : Nat) : XV := fun ρ => match rdD i ρ, rdD j ρ with
  | some x, some y => match dBl f x y with
    | some b => .ok (.bl b) ρ
    | none => .bad
  | _, _ => .bad
/-! ### a call that changes an object that was just made -/
def xCallT (g : DF) (tn : XV) (t : XA) : XV := fun ρ => (tn ρ).bind fun d0 ρ1 => (t ρ1).bind fun ds ρ2 => match g (d0 :: ds) with
  | .ok d [_] => .ok d ρ2
  | .exc c [_] => .exc c ρ2
  | _ => .bad
end
section
variable {X : Cx} {cv : String → Value} {pos : Pos} {W : WX}
theorem Pend.okE {K : PySem.W.Frag} {E : EW} {σ : L2.St} {F H : Hp} {ρ ρ' : Rho} {α : Type} {a : α} {t : Rho → Res α} {Q : α → Rho → Hp → Hp → Prop} (e : t ρ = .ok a ρ') (h : ∀ F' H', Go K ρ σ F H ρ' σ F' H' → Q a ρ' F' H') : Pend K E t ρ σ F H Q := by
  unfold Pend
  rw [e]
  exact h
theorem Pend.excE {K : PySem.W.Frag} {E : EW} {σ : L2.St} {F H : Hp} {ρ ρ' : Rho} {α : Type} {c : String} {t : Rho → Res α} {Q : α → Rho → Hp → Hp → Prop} (e : t ρ = .exc c ρ') (h : ∀ F' H', Go K ρ σ F H ρ' σ F' H' → E c σ H') : Pend K E t ρ σ F H Q := by
  unfold Pend
  rw [e]
  exact h
theorem callT_of {ban : Nat} {md : List Bool} {g : DF} {tn : XV} {t : XA} {σ : L2.St} {H : Hp} {Q : VK} (h : lE X.K (EWx cv W) (xCallT g tn t) σ H Q) : tCallS (spB X.K cv false md g) (WE W) (tCons (lN X.K (EWx cv W) tn) (lM X.K (EWx cv W) ban md t)) σ H Q := by
  obtain ⟨F, ρ, r, p⟩ := h
  unfold Pend xCallT at p
  cases e1 : tn ρ with
  | bad => simp only [e1, Res.bind] at p
  | exc c ρ1 => simp only [e1, Res.bind] at p; exact ⟨F, ρ, r, Pend.excE e1 p⟩
  | ok d0 ρ1 =>
    simp only [e1, Res.bind] at p
    refine ⟨F, ρ, r, Pend.okE e1 fun F1 H1 g1 b o h1 h2 h3 h4 h5 => ?_⟩
    cases e2 : t ρ1 with
    | bad => simp only [e2] at p
    | exc c ρ2 => simp only [e2] at p; exact ⟨F1, ρ1, g1.rel, Pend.excE e2 fun F2 H2 g2 => p F2 H2 (g1.trans r g2)⟩
    | ok ds ρ2 =>
      simp only [e2] at p
      refine ⟨F1, ρ1, g1.rel, Pend.okE e2 fun F2 H2 g2 vs ra => ?_⟩
      obtain ⟨k1, k2'⟩ := g2.keep b o h2 h1 h4
      have k2 := k2' h3.nt
      have nb2 : ¬ Own ρ2 σ b := fun z => by
        rcases g2.own b z with z | z
        · exact h4 z
        · rw [h2] at z; cases z
      have nr2 : ∀ (j : Nat) (d : D), ρ2[j]? = some (.rd d) → σ[j]? = some (some (.ref b)) → False := fun j d z1 z2 => by
        obtain ⟨y1, _⟩ := g2.rdb j d z1
        obtain ⟨y2, _⟩ := g1.rdb j d y1
        rcases h5 with z | z
        · exact r.rdis j d b y2 z2 z
        · exact rd_new r g1 z j d y1 z2
      refine ⟨F2, b, o, d0, vs, ds, rfl, g2.rel.ex, k2, k1, h3.mono g2.ex, ra.ral' g2.rel (fun p z => by rw [z]; exact k2) (fun j d p _ hd hp z => by
        subst z
        rcases rdD_of hd with y | y
        · exact nb2 ⟨j, d, y, hp⟩
        · exact nr2 j d y hp), ?_⟩
      have fin : ∀ {F3 H3 o3}, GrB b F2 H2 F3 H3 → F3 b = none → H3 b = some o3 → Go X.K ρ σ F H ρ2 σ F3 H3 := fun {F3 H3 o3} gr hf hh => by
        have gg := g1.trans r g2
        refine ⟨⟨gr.sub, g2.rel.len, fun j s v z1 z2 => ?_, g2.rel.dis, g2.rel.rdis⟩, gg.ex.trans gr.ex, fun a u e1 e2 e3 => ?_, gg.own, gg.low, gg.lowO, gg.rdb⟩
        · have z := g2.rel.at' j s v z1 z2
          cases z with
          | emp => exact .emp
          | adr => exact .adr
          | val rp => exact .val (rp.mono gr.ex)
          | @own p u e y1 y2 y3 =>
            have hne : p ≠ b := by
              rintro rfl
              exact nb2 ⟨j, e, z1, z2⟩
            obtain ⟨m1, m2⟩ := gr.keep p u hne y2
            exact .own (m2 y3.nt y1) m1 (y3.mono gr.ex)
          | rd ra =>
            refine .rd (ra.step gr.ex fun p u hn eq e1 e2 => ?_)
            subst eq
            have hne : p ≠ b := by
              rintro rfl
              exact nr2 j _ z1 z2
            obtain ⟨m1, m2⟩ := gr.keep p u hne e1
            exact ⟨m1, m2 hn e2⟩
        · obtain ⟨m1, m2⟩ := gg.keep a u e1 e2 e3
          have hne : a ≠ b := by
            rintro rfl
            rcases h5 with z | z
            · exact e3 z
            · rw [e1] at z; cases z
          obtain ⟨n1, n2⟩ := gr.keep a u hne m1
          exact ⟨n1, fun n => n2 n (m2 n)⟩
      split <;> rename_i e3 <;> simp only [e3] at p
      · exact fun F3 H3 o3 gr hf hh hr => ⟨fun _ v rv => p F3 H3 (fin gr hf hh) v rv, fun z => (by cases z)⟩
      · exact fun F3 H3 o3 gr hf hh hr => p F3 H3 (fin gr hf hh)
theorem xe_callTmp {ban : Nat} {md : List Bool} {k : Nat} {f : Addr} {fd : FuncData} {ps : List Str} {g : DF} {x : Str} {p : Pos} {e : Expr} {es : List Expr} {tn : XV} {t : XA} (tk : Takes X W) (FN : FnOk X.prog X.w X.K X.mg X.base (L2.CX X.prog X.w) k f fd ps (spB X.K cv false md g)) (hr : Room k X.A) (hg : Gl X x) (hm : X.mg x = some (.ref f)) (hk : PySem.W.keepIn X.K (.ref f) = true) (hb : Binds X.K fd ps [])
    (hy : PE X e (lN X.K (EWx cv W) tn)) (ha : PA X es (lM X.K (EWx cv W) ban md t)) (hdb : (x == ("__debug__" : Str)) = false := by decide) (he : starEach (e :: es) X.env = (false, eval e X.env) :: starEach es X.env := by rfl) (hpl : (backTo pos (starEach es X.env)).any (·.1) = false := by rfl) :
    PE X (.Call (.Name x p) (e :: es) [] pos) (lE X.K (EWx cv W) (xCallT g tn t)) := pe_imp (pe_callS FN hr hg hm hk hb (passAt tk) (pa_cons hy ha he) hdb he hpl) fun σ H Q h => callT_of h
end
/-! ### for over a list or a tuple -/
section
variable {X : Cx} {E : EW} {pos : Pos}
def iSeq (K : PySem.W.Frag) (tl : TE) : TI := fun σ H R => tl σ H fun x H1 => (∃ a, x = .ref a ∧ (∃ xs, SqL K H1 a xs) ∧ R (Itl K a) H1) ∨ ∃ a, x = .ref a ∧ (∃ xs, SqT K H1 a xs) ∧ R (Itt K a) H1
theorem pi_seq {tg l : Expr} {tl : TE} (hl : PE X l tl) : PI X tg l (iSeq X.K tl) := by
  refine ⟨fun pins s σ H R I h => ?_⟩
  refine thn (hl.run pins s σ H _ I h) fun v s1 ⟨x, H1, I1, r1, q1⟩ => ?_
  rcases q1 with ⟨a, e, ⟨xs, hq⟩, q⟩ | ⟨a, e, ⟨xs, hq⟩, q⟩
  · subst e
    cases r1
    obtain ⟨its, rv, p, hz⟩ := I1.list hq
    refine wpAny_pyIter_list p.isList ?_
    refine ⟨s1.heap.objs.size, [s1.heap.objs.size], _, _, H1, rfl, I1.kept (t' := s1.toks) fun b o e => Heap.get?_push_of_some _ e, turn_list a _, ⟨_, Heap.get?_push_size _ rfl, rfl, rfl⟩, fun b hb => ?_, q⟩
    have e : b = s1.heap.objs.size := by simpa using hb
    subst e
    exact I1.fpOk (Nat.le_refl _) (I1.hok.fresh (Nat.le_refl _))
  · subst e
    cases r1
    obtain ⟨its, rv, p, hz⟩ := I1.tuple hq
    refine wpAny_pyIter_tuple (show s1.heap.IsTuple a its.toArray from p) ?_
    refine ⟨s1.heap.objs.size, [s1.heap.objs.size], _, _, H1, rfl, I1.kept (t' := s1.toks) fun b o e => Heap.get?_push_of_some _ e, turn_tuple a _, ⟨_, Heap.get?_push_size _ rfl, rfl, rfl⟩, fun b hb => ?_, q⟩
    have e : b = s1.heap.objs.size := by simpa using hb
    subst e
    exact I1.fpOk (Nat.le_refl _) (I1.hok.fresh (Nat.le_refl _))
def xIt (t : XV) : XA := fun ρ => (t ρ).bind (lift dItems)
theorem xi_seq {tg e : Expr} {t : XV} (h : PE X e (lE X.K E t)) : PI X tg e (lI X.K E (xIt t)) := pi_imp (pi_seq h) fun σ H R h => by
  obtain ⟨F, ρ, r, p⟩ := h
  refine ⟨F, ρ, r, (Pend.bind r p).mono fun x ρ1 F1 H1 g1 q v rv => ?_⟩
  obtain ⟨d, e, q⟩ := q.lift
  cases rv with
  | lst hf ra => cases e; exact .inl ⟨_, rfl, ⟨_, SqL.of (g1.rel.ex _ _ hf)⟩, q F1 H1 (Go.refl g1.rel) _ (iters_list (fun ρ2 σ2 F2 H2 g => SqL.of (g.rel.ex _ _ (g.ex _ _ hf))) ra)⟩
  | fix hf ra => cases e; exact .inl ⟨_, rfl, ⟨_, g1.rel.ex.seq hf⟩, q F1 H1 (Go.refl g1.rel) _ (iters_list (fun ρ2 σ2 F2 H2 g => g.rel.ex.seq (g.ex.seq hf)) ra)⟩
  | tup hf ra => cases e; exact .inr ⟨_, rfl, ⟨_, SqT.of (g1.rel.ex _ _ hf)⟩, q F1 H1 (Go.refl g1.rel) _ (iters_tup hf ra)⟩
  | non => cases e
  | bl _ => cases e
  | int _ => cases e
  | str _ => cases e
  | ty _ => cases e
  | dicK _ _ _ => cases e
  | dicT _ _ _ => cases e
  | dicN _ _ _ _ => cases e
end
/-! lent for a while -/
section
variable {K : PySem.W.Frag} {E : EW} {σ σ' : L2.St} {F H F' H' : Hp} {ρ ρ' : Rho} {i : Nat} {d : D}
theorem own_lock {p : Addr} (h : Own (ρ.set i (.rd d)) σ p) : Own ρ σ p ∧ True := by
  obtain ⟨j, e, h1, h2⟩ := h
  rcases get_set h1 with ⟨_, z⟩ | ⟨_, h1⟩
  · cases z
  · exact ⟨⟨j, e, h1, h2⟩, trivial⟩
theorem lock_not {p : Addr} (r : Rel K F H ρ σ) (hi : ρ[i]? = some (.own d)) (hs : σ[i]? = some (some (.ref p))) : ¬ Own (ρ.set i (.rd d)) σ p := by
  rintro ⟨j, e, h1, h2⟩
  rcases get_set h1 with ⟨_, z⟩ | ⟨hj, h1⟩
  · cases z
  · exact hj (r.dis i j d e p hi h1 hs h2)
theorem Rel.lock (r : Rel K F H ρ σ) (hi : ρ[i]? = some (.own d)) : Rel K F H (ρ.set i (.rd d)) σ := by
  refine ⟨r.ex, by rw [List.length_set]; exact r.len, fun j s o h1 h2 => ?_, fun j k d1 d2 p h1 h2 h3 h4 => ?_, fun j e p h1 h2 => ?_⟩
  · rcases get_set h1 with ⟨e, z⟩ | ⟨_, h1⟩
    · subst e z
      have := r.at' i _ _ hi h2
      cases this with
      | own a b c => exact .rd (.own a b c)
    · exact r.at' j s o h1 h2
  · rcases get_set h1 with ⟨_, z⟩ | ⟨_, h1⟩
    · cases z
    · rcases get_set h2 with ⟨_, z⟩ | ⟨_, h2⟩
      · cases z
      · exact r.dis j k d1 d2 p h1 h2 h3 h4
  · rcases get_set h1 with ⟨ej, _⟩ | ⟨_, h1⟩
    · subst ej
      exact lock_not r hi h2
    · exact fun z => r.rdis j e p h1 h2 (own_lock z).1
def unl (i : Nat) (ρ : Rho) : Rho := match ρ[i]? with
  | some (.rd d) => ρ.set i (.own d)
  | _ => ρ
theorem Go.unlock (h0 : i ≠ 0) (r : Rel K F H ρ σ) (hi : ρ[i]? = some (.own d)) (g : Go K (ρ.set i (.rd d)) σ F H ρ' σ' F' H') : Go K ρ σ F H (unl i ρ') σ' F' H' := by
  have l0 : (ρ.set i (Slot.rd d))[0]? = ρ[0]? := List.getElem?_set_ne h0
  have rdo : ∀ (j : Nat) (e : D), (ρ.set i (Slot.rd d))[j]? = some (.rd e) → j ≠ i → ρ[j]? = some (.rd e) := fun j e h hj => by
    rcases get_set h with ⟨z, _⟩ | ⟨_, h⟩
    · exact absurd z.symm hj
    · exact h
  obtain ⟨p, o, s1, f1, h1, ro⟩ := r.own hi
  have np := lock_not r hi s1
  have ownb : ∀ q, Own ρ' σ' q → Own ρ σ q ∨ H q = none := fun q h => by
    rcases g.own q h with z | z
    · exact .inl (own_lock z).1
    · exact .inr z
  have keep : ∀ a o, H a = some o → F a = none → ¬ Own ρ σ a → H' a = some o ∧ (NTup o → F' a = none) := fun a o e1 e2 e3 => g.keep a o e1 e2 fun z => e3 (own_lock z).1
  unfold unl
  split
  · rename_i d' e
    obtain ⟨e1, e2⟩ := g.rdb i d' e
    have hl : i < ρ.length := by
      cases Nat.lt_or_ge i ρ.length with
      | inl z => exact z
      | inr z => rw [List.getElem?_eq_none z] at hi; cases hi
    rw [List.getElem?_set_self hl] at e1
    cases e1
    obtain ⟨k1, k2'⟩ := g.keep p o h1 f1 np
    have k2 := k2' ro.nt
    have sp : σ'[i]? = some (some (.ref p)) := e2.trans s1
    have nop : ∀ (j : Nat) (e : D), ρ'[j]? = some (.own e) → σ'[j]? = some (some (.ref p)) → False := fun j e y1 y2 => by
      rcases g.own p ⟨j, e, y1, y2⟩ with z | z
      · exact np z
      · rw [h1] at z; cases z
    refine ⟨⟨g.rel.ex, by rw [List.length_set]; exact g.rel.len, fun j s v y1 y2 => ?_, fun j k d1 d2 q y1 y2 y3 y4 => ?_, fun j e q y1 y2 y3 => ?_⟩, g.ex, keep, fun q h => ?_, g.low, fun e h => ?_, fun j e h => ?_⟩
    · rcases get_set y1 with ⟨ej, z⟩ | ⟨_, y1⟩
      · subst ej z
        rw [sp] at y2
        cases y2
        exact .own k2 k1 (ro.mono g.ex)
      · exact g.rel.at' j s v y1 y2
    · rcases get_set y1 with ⟨ej, _⟩ | ⟨hj, y1⟩
      · rcases get_set y2 with ⟨ek, _⟩ | ⟨hk, y2⟩
        · exact ej.symm.trans ek
        · subst ej
          rw [sp] at y3; cases y3
          exact (nop k d2 y2 y4).elim
      · rcases get_set y2 with ⟨ek, _⟩ | ⟨hk, y2⟩
        · subst ek
          rw [sp] at y4; cases y4
          exact (nop j d1 y1 y3).elim
        · exact g.rel.dis j k d1 d2 q y1 y2 y3 y4
    · rcases get_set y1 with ⟨_, z⟩ | ⟨hj, y1⟩
      · cases z
      · obtain ⟨k, e', z1, z2⟩ := y3
        rcases get_set z1 with ⟨ek, _⟩ | ⟨_, z1⟩
        · subst ek
          rw [sp] at z2; cases z2
          obtain ⟨w1, w2⟩ := g.rdb j e y1
          rw [w2] at y2
          exact r.rdis j e p (rdo j e w1 (fun z => hj z.symm)) y2 ⟨_, d, hi, s1⟩
        · exact g.rel.rdis j e q y1 y2 ⟨k, e', z1, z2⟩
    · obtain ⟨j, e', z1, z2⟩ := h
      rcases get_set z1 with ⟨ek, _⟩ | ⟨_, z1⟩
      · subst ek
        rw [sp] at z2; cases z2
        exact .inl ⟨_, d, hi, s1⟩
      · exact ownb q ⟨j, e', z1, z2⟩
    · obtain ⟨e', h'⟩ := g.lowO e (l0.trans h)
      exact ⟨e', by rw [List.getElem?_set_ne h0]; exact h'⟩
    · rcases get_set h with ⟨_, z⟩ | ⟨hj, h⟩
      · cases z
      · obtain ⟨w1, w2⟩ := g.rdb j e h
        exact ⟨rdo j e w1 (fun z => hj z.symm), w2⟩
  · rename_i nr
    refine ⟨g.rel, g.ex, keep, ownb, g.low, fun e h => g.lowO e (l0.trans h), fun j e h => ?_⟩
    obtain ⟨w1, w2⟩ := g.rdb j e h
    exact ⟨rdo j e w1 (fun z => nr e (by rw [← z]; exact h)), w2⟩
theorem unl_own (h0 : i ≠ 0) (r : Rel K F H ρ σ) (hi : ρ[i]? = some (.own d)) (g : Go K (ρ.set i (.rd d)) σ F H ρ' σ' F' H') {p : Addr} (hn : ¬ Own ρ' σ' p) (hw : Own (ρ.set i (.rd d)) σ p ∨ H p = none) : ¬ Own (unl i ρ') σ' p := by
  unfold unl
  split
  · rename_i d' e
    rintro ⟨j, e', z1, z2⟩
    rcases get_set z1 with ⟨ek, _⟩ | ⟨_, z1⟩
    · subst ek
      obtain ⟨_, e2⟩ := g.rdb i d' e
      rw [e2] at z2
      rcases hw with hw | hw
      · exact lock_not r hi z2 hw
      · obtain ⟨q, o, s1, _, h1, _⟩ := r.own hi
        rw [s1] at z2; cases z2
        rw [hw] at h1; cases h1
    · exact hn ⟨j, e', z1, z2⟩
  · exact hn
def Res.unl {α : Type} (i : Nat) : Res α → Res α
  | .ok a ρ => .ok a (G.unl i ρ)
  | .exc c ρ => .exc c (G.unl i ρ)
  | .bad => .bad
def Fl.unl (i : Nat) : Fl → Fl
  | .nx ρ => .nx (G.unl i ρ)
  | .ret d ρ => .ret d (G.unl i ρ)
  | .brk ρ => .brk (G.unl i ρ)
  | .cnt ρ => .cnt (G.unl i ρ)
  | .exc c ρ => .exc c (G.unl i ρ)
  | .bad => .bad
def lockV {α : Type} (i : Nat) (t : Rho → Res α) : Rho → Res α := fun ρ => match ownD i ρ with
  | some d => (t (ρ.set i (.rd d))).unl i
  | none => .bad
def lockS (i : Nat) (t : XS) : XS := fun ρ => match ownD i ρ with
  | some d => (t (ρ.set i (.rd d))).unl i
  | none => .bad
end
section
variable {X : Cx} {E : EW} {fr : Bool} {pos : Pos}
theorem xn_lock (i : Nat) {e : Expr} {t : XV} (h : PE X e (lN X.K E t)) (h0 : i ≠ 0 := by decide) : PE X e (lN X.K E (lockV i t)) := pe_imp h fun σ H Q h => by
  obtain ⟨F, ρ, r, p⟩ := h
  unfold Pend lockV at p
  cases e0 : ownD i ρ with
  | none => simp only [e0] at p
  | some d =>
    simp only [e0] at p
    have hi := ownD_of e0
    refine ⟨F, _, r.lock hi, ?_⟩
    unfold Pend
    cases e1 : t (ρ.set i (.rd d)) with
    | bad => simp only [e1, Res.unl] at p
    | exc c ρ' => simp only [e1, Res.unl] at p; exact fun F' H' g => p F' H' (g.unlock h0 r hi)
    | ok a ρ' =>
      simp only [e1, Res.unl] at p
      exact fun F' H' g q o h1 h2 h3 h4 h5 => p F' H' (g.unlock h0 r hi) q o h1 h2 h3 (unl_own h0 r hi g h4 h5) (by
        rcases h5 with z | z
        · exact .inl (own_lock z).1
        · exact .inr z)
theorem xs_lock (i : Nat) {s : Stmt} {t : XS} (h : PS X s (lS X.K E fr t)) (h0 : i ≠ 0 := by decide) : PS X s (lS X.K E fr (lockS i t)) := ps_imp h fun C σ H h => by
  obtain ⟨F, ρ, r, p⟩ := h
  unfold PendS lockS at p
  cases e0 : ownD i ρ with
  | none => simp only [e0] at p
  | some d =>
    simp only [e0] at p
    have hi := ownD_of e0
    refine ⟨F, _, r.lock hi, ?_⟩
    unfold PendS
    cases e1 : t (ρ.set i (.rd d)) with
    | bad => simp only [e1, Fl.unl] at p
    | nx ρ' => simp only [e1, Fl.unl] at p; exact fun σ' F' H' g => p σ' F' H' (g.unlock h0 r hi)
    | brk ρ' => simp only [e1, Fl.unl] at p; exact fun σ' F' H' g => p σ' F' H' (g.unlock h0 r hi)
    | cnt ρ' => simp only [e1, Fl.unl] at p; exact fun σ' F' H' g => p σ' F' H' (g.unlock h0 r hi)
    | exc c ρ' => simp only [e1, Fl.unl] at p; exact fun σ' F' H' g => p σ' F' H' (g.unlock h0 r hi)
    | ret a ρ' =>
      simp only [e1, Fl.unl] at p
      refine ⟨fun ef v σ' F' H' g rv => p.1 ef v σ' F' H' (g.unlock h0 r hi) rv, fun ef q o σ' F' H' g h1 h2 h3 h4 h5 => p.2 ef q o σ' F' H' (g.unlock h0 r hi) h1 h2 h3 (unl_own h0 r hi g h4 h5) ?_⟩
      rcases h5 with z | z
      · exact .inl (own_lock z).1
      · exact .inr z
/-- walking what slot i lends -/
def xItO (i : Nat) : XA := fun ρ => match ρ[i]? with
  | some (.rd d) => lift dItems d ρ
  | _ => .bad
theorem xi_own {tg : Expr} {i : Nat} {x : Str} {xp : Pos} (ho : PE X (.Name x xp) (tVar i)) : PI X tg (.Name x xp) (lI X.K E (xItO i)) := pi_imp (pi_seq ho) fun σ H R h => by
  obtain ⟨F, ρ, r, p⟩ := h
  unfold Pend xItO at p
  split at p <;> rename_i e
  · split at e
    · rename_i ρ' d q
      have hd : rdD i ρ = some d := by unfold rdD; rw [q]
      obtain ⟨v, s1, ra⟩ := r.rd hd
      refine ⟨v, s1, ?_⟩
      unfold lift at e
      split at e
      · rename_i ds hds
        cases e
        cases ra with
        | val rv nf =>
          cases rv with
          | lst hf ra => cases hds; exact .inl ⟨_, rfl, ⟨_, SqL.of (r.ex _ _ hf)⟩, p F H (Go.refl r) _ (iters_list (fun ρ2 σ2 F2 H2 g => SqL.of (g.rel.ex _ _ (g.ex _ _ hf))) ra)⟩
          | fix hf ra => cases nf
          | tup hf ra => cases hds; exact .inr ⟨_, rfl, ⟨_, SqT.of (r.ex _ _ hf)⟩, p F H (Go.refl r) _ (iters_tup hf ra)⟩
          | non => cases hds
          | bl _ => cases hds
          | int _ => cases hds
          | str _ => cases hds
          | ty _ => cases hds
          | dicK _ _ _ => cases hds
          | dicT _ _ _ => cases hds
          | dicN _ _ _ _ => cases hds
        | own f1 h1 ro =>
          have nO := r.rdis i d _ q s1
          cases ro with
          | lst ra => cases hds; exact .inl ⟨_, rfl, ⟨_, SqL.of h1⟩, p F H (Go.refl r) _ (iters_list (fun ρ2 σ2 F2 H2 g => SqL.of (g.keep _ _ h1 f1 nO).1) ra)⟩
          | dicK _ _ => cases hds
          | dicT _ _ => cases hds
          | dicN _ _ => cases hds
      · cases e
    · cases e
  · split at e
    · unfold lift at e
      split at e <;> cases e
    · cases e
  · exact p.elim
end
/-! ### the built-ins' names -/
theorem bt_len : bootBuiltins "len" = some (.builtin "len") := by decide +kernel
theorem bt_abs : bootBuiltins "abs" = some (.builtin "abs") := by decide +kernel
theorem bt_max : bootBuiltins "max" = some (.builtin "max") := by decide +kernel
theorem bt_min : bootBuiltins "min" = some (.builtin "min") := by decide +kernel
theorem bt_isinstance : bootBuiltins "isinstance" = some (.builtin "isinstance") := by decide +kernel
theorem bt_sorted : bootBuiltins "sorted" = some (.builtin "sorted") := by decide +kernel
theorem bt_sum : bootBuiltins "sum" = some (.builtin "sum") := by decide +kernel
theorem bt_any : bootBuiltins "any" = some (.builtin "any") := by decide +kernel
theorem bt_all : bootBuiltins "all" = some (.builtin "all") := by decide +kernel
theorem bt_int : bootBuiltins "int" = some (.type "int") := by decide +kernel
theorem bt_list : bootBuiltins "list" = some (.type "list") := by decide +kernel
theorem bt_tuple : bootBuiltins "tuple" = some (.type "tuple") := by decide +kernel
theorem bt_range : bootBuiltins "range" = some (.type "range") := by decide +kernel
theorem bt_dict : bootBuiltins "dict" = some (.type "dict") := by decide +kernel
theorem bt_set : bootBuiltins "set" = some (.type "set") := by decide +kernel
theorem bt_str : bootBuiltins "str" = some (.type "str") := by decide +kernel
theorem bt_bool : bootBuiltins "bool" = some (.type "bool") := by decide +kernel
theorem bt_reversed : bootBuiltins "reversed" = some (.type "reversed") := by decide +kernel
theorem bt_enumerate : bootBuiltins "enumerate" = some (.type "enumerate") := by decide +kernel
theorem bt_zip : bootBuiltins "zip" = some (.type "zip") := by decide +kernel
theorem hu65 {k : Nat} {A : Around} (r : Room k A) : A.units + 65 < cLine := by have := r.un; omega
/-! ### a law's end -/
theorem law_sp {K : PySem.W.Frag} {cv : String → Value} {g : DF} {H : Hp} {a : Addr} {ns : List Int} {E : XK} (hS : SqL K H a (ns.map V.int)) (h : g [.fix (ns.map D.int)] = .ok (.bl true) []) : spP K cv false [false] g [.ref a] H (fun v _ => v = .bl true) E := by
  refine ⟨H, [.fix (ns.map D.int)], Same.refl H, .val (.fix hS (RpAll.of_ints ns)) .nil, ?_⟩
  rw [h]
  exact ⟨fun _ v F' H' _ rv => by cases rv; rfl, fun z => by cases z⟩
theorem law_cx {P : Program} {w : World} {H : Hp} {s s' : Shared} {e : Value} (h : L2.CX P w [] H s (fun _ _ _ => False) e s') : False := by
  obtain ⟨_, _, _, _, _, _, _, _, _, _, _, _, z⟩ := h
  exact z
end G

namespace G
open PySem PySem.Spec PyProof.Rows L2

/-! ### the plain side: what a body comes to -/
theorem atI_0 {α : Type} (a : α) (l : List α) : atI (a :: l) 0 = some a := atI_nat (j := 0) rfl
theorem atI_1 {α : Type} (a b : α) (l : List α) : atI (a :: b :: l) 1 = some b := atI_nat (j := 1) rfl
theorem atI_2 {α : Type} (a b c : α) (l : List α) : atI (a :: b :: c :: l) 2 = some c := atI_nat (j := 2) rfl
theorem atI_3 {α : Type} (a b c d : α) (l : List α) : atI (a :: b :: c :: d :: l) 3 = some d := atI_nat (j := 3) rfl
theorem len_sz1 {n : Nat} (h : n ≤ 100000) : n ≤ sizeLine := by rw [sizeLine_eq]; omega
theorem CMulA.l {i : Int} (j : Int) (h : -(2 ^ 64) < i ∧ i < 2 ^ 64) : CMulA i j := .inl (.inl h)
theorem CMulA.r {j : Int} (i : Int) (h : -(2 ^ 64) < j ∧ j < 2 ^ 64) : CMulA i j := .inl (.inr h)
theorem CMulA.w {i j : Int} (ha : i.natAbs < 2 ^ 10000) (hb : j.natAbs < 2 ^ 10000) : CMulA i j := .inr (wide_mul ha hb (by decide) (by decide) (by decide))
theorem CDivW.s {j : Int} (i : Int) (h : 0 < j ∧ j < 2 ^ 200) : CDivW i j := wide_div (b := 200) h.1 (by omega) (by decide) (by decide)
/-- data by number and pairs -/
theorem shaped_of {d : PyData} (h1 : d.canLay0 = true) (h2 : d.depth ≤ 64) : SeqAt.shaped d = true := by
  unfold SeqAt.shaped
  rw [h1, decide_eq_true h2]
  rfl
class Enc (α : Type) where
  enc : α → D
  py : α → PyData
  dp : Nat
  to : ∀ a, toPy (enc a) = some (py a)
  lay : ∀ a, (py a).canLay0 = true
  dep : ∀ a, (py a).depth ≤ dp
  eqv : ∀ a b, PyData.eqv (py a) (py b) = true ↔ a = b
instance : Enc Int where
  enc := D.int
  py := PyData.int
  dp := 0
  to := fun _ => rfl
  lay := fun _ => rfl
  dep := fun _ => Nat.le_refl _
  eqv := fun a b => by simp [PyData.eqv]
theorem toPys_map {α : Type} [Enc α] : ∀ l : List α, toPys (l.map Enc.enc) = some (l.map Enc.py)
  | [] => rfl
  | a :: l => by simp only [List.map_cons, toPys, Enc.to, toPys_map l]
theorem lay_map {α : Type} [Enc α] : ∀ l : List α, PyData.canLayAll0 (l.map Enc.py) = true
  | [] => rfl
  | a :: l => by simp only [List.map_cons, PyData.canLayAll0, Enc.lay, lay_map l, Bool.and_self]
theorem dep_map {α : Type} [Enc α] : ∀ l : List α, PyData.depthAll (l.map Enc.py) ≤ Enc.dp α
  | [] => Nat.zero_le _
  | a :: l => by
    have h1 := Enc.dep a
    have h2 := dep_map l
    simp only [List.map_cons, PyData.depthAll]
    omega
theorem eqv_map {α : Type} [Enc α] : ∀ l m : List α, PyData.eqvAll (l.map Enc.py) (m.map Enc.py) = true ↔ l = m
  | [], [] => by simp [PyData.eqvAll]
  | [], _ :: _ => by simp [PyData.eqvAll]
  | _ :: _, [] => by simp [PyData.eqvAll]
  | a :: l, b :: m => by simp only [List.map_cons, PyData.eqvAll, Bool.and_eq_true, Enc.eqv, eqv_map l m, List.cons.injEq]
instance {α : Type} [Enc α] : Enc (List α) where
  enc := fun l => .lst (l.map Enc.enc)
  py := fun l => .list (l.map Enc.py)
  dp := Enc.dp α + 1
  to := fun l => by simp only [toPy, toPys_map, Option.map_some]
  lay := fun l => by simp only [PyData.canLay0, lay_map]
  dep := fun l => by
    have := dep_map l
    simp only [PyData.depth]
    omega
  eqv := fun l m => by simp only [PyData.eqv, eqv_map]
/-- a tuple of things of one kind -/
structure Tup (α : Type) where
  l : List α
instance {α : Type} [Enc α] : Enc (Tup α) where
  enc := fun l => .tup (l.l.map Enc.enc)
  py := fun l => .tuple (l.l.map Enc.py)
  dp := Enc.dp α + 1
  to := fun l => by simp only [toPy, toPys_map, Option.map_some]
  lay := fun l => by simp only [PyData.canLay0, lay_map]
  dep := fun l => by
    have := dep_map l.l
    simp only [PyData.depth]
    omega
  eqv := fun l m => by
    cases l; cases m
    simp only [PyData.eqv, eqv_map, Tup.mk.injEq]
instance {α β : Type} [Enc α] [Enc β] : Enc (α × β) where
  enc := fun p => .tup [Enc.enc p.1, Enc.enc p.2]
  py := fun p => .tuple [Enc.py p.1, Enc.py p.2]
  dp := max (Enc.dp α) (Enc.dp β) + 1
  to := fun p => by simp only [toPy, toPys, Enc.to, Option.map_some]
  lay := fun p => by simp only [PyData.canLay0, PyData.canLayAll0, Enc.lay, Bool.and_self]
  dep := fun p => by
    have h1 := Enc.dep p.1
    have h2 := Enc.dep p.2
    simp only [PyData.depth, PyData.depthAll]
    omega
  eqv := fun p q => by
    simp only [PyData.eqv, PyData.eqvAll, Bool.and_eq_true, Enc.eqv, and_true]
    exact Prod.ext_iff.symm
theorem eqD_enc {α : Type} [Enc α] (h : Enc.dp α ≤ 64) (a b : α) [Decidable (a = b)] : eqD (Enc.enc a) (Enc.enc b) = some (decide (a = b)) := by
  unfold eqD
  simp only [Enc.to]
  have s : ∀ x : α, SeqAt.shaped (Enc.py x) = true := fun x => shaped_of (Enc.lay x) (Nat.le_trans (Enc.dep x) h)
  rw [if_pos ⟨s a, s b⟩]
  congr 1
  by_cases e : a = b
  · rw [decide_eq_true e]; exact (Enc.eqv a b).mpr e
  · rw [decide_eq_false e]
    cases q : PyData.eqv (Enc.py a) (Enc.py b) with
    | true => exact absurd ((Enc.eqv a b).mp q) e
    | false => rfl
theorem inD_enc {α : Type} [Enc α] (h : Enc.dp α ≤ 63) (a : α) (l : List α) [Decidable (a ∈ l)] : inD (Enc.enc a) (.lst (l.map Enc.enc)) = some (decide (a ∈ l)) := by
  unfold inD
  simp only [Enc.to, toPys_map]
  rw [if_pos ⟨shaped_of (Enc.lay a) (Nat.le_trans (Enc.dep a) (by omega)), shaped_of (by simp only [PyData.canLay0, lay_map]) (by have := dep_map l; simp only [PyData.depth]; omega)⟩]
  congr 1
  rw [Bool.eq_iff_iff]
  simp only [List.any_eq_true, List.mem_map, decide_eq_true_eq]
  constructor
  · rintro ⟨_, ⟨b, hb, rfl⟩, e⟩
    rw [(Enc.eqv b a).mp e] at hb
    exact hb
  · exact fun hm => ⟨_, ⟨a, hm, rfl⟩, (Enc.eqv a a).mpr rfl⟩
abbrev cell (x y : Int) : D := .tup [.int x, .int y]
abbrev cellP (p : Int × Int) : D := .tup [.int p.1, .int p.2]
theorem enc_cell (p : Int × Int) : Enc.enc p = cellP p := rfl
theorem eqD_int (a b : Int) : eqD (.int a) (.int b) = some (decide (a = b)) := eqD_enc (α := Int) (by decide) a b
theorem eqD_cell (a b c d : Int) : eqD (.tup [.int a, .int b]) (.tup [.int c, .int d]) = some (decide (a = c ∧ b = d)) := by
  rw [show (D.tup [.int a, .int b]) = Enc.enc (a, b) from rfl, show (D.tup [.int c, .int d]) = Enc.enc (c, d) from rfl, eqD_enc (by decide)]
  congr 1
  simp only [Prod.mk.injEq]
theorem eqD_bl (a b : Bool) : eqD (.bl a) (.bl b) = some (a == b) := by
  unfold eqD
  simp only [toPy]
  rw [if_pos ⟨shaped_of rfl (Nat.zero_le _), shaped_of rfl (Nat.zero_le _)⟩]
  rfl
/-! loops -/
theorem forRun_nil {g : XG} {b : XS} {ρ : Rho} : forRun g b [] ρ = .nx ρ := rfl
theorem forRun_inv {g : XG} {body : XS} (I : Nat → Rho → Prop) : ∀ (ds : List D) (k : Nat) (ρ : Rho), I k ρ → (∀ i d ρ, ds[i]? = some d → I (k + i) ρ → ∃ ρ1, g d ρ = some ρ1 ∧ ∃ ρ2, (body ρ1 = .nx ρ2 ∨ body ρ1 = .cnt ρ2) ∧ I (k + i + 1) ρ2) →
    ∃ ρ', forRun g body ds ρ = .nx ρ' ∧ I (k + ds.length) ρ'
  | [], k, ρ, h, _ => ⟨ρ, rfl, h⟩
  | d :: ds, k, ρ, h, hs => by
    obtain ⟨ρ1, e1, ρ2, e2, h2⟩ := hs 0 d ρ rfl h
    obtain ⟨ρ', e3, h3⟩ := forRun_inv I ds (k + 1) ρ2 h2 (fun i d' ρ3 hd hi => by
      have := hs (i + 1) d' ρ3 (by simpa using hd) (by rw [show k + (i + 1) = k + 1 + i by omega]; exact hi)
      rw [show k + (i + 1) + 1 = k + 1 + i + 1 by omega] at this
      exact this)
    refine ⟨ρ', ?_, by rw [List.length_cons, show k + (ds.length + 1) = k + 1 + ds.length by omega]; exact h3⟩
    unfold forRun
    simp only [e1]
    rcases e2 with e2 | e2 <;> simp only [e2] <;> exact e3
theorem rangeD_get {lo : Int} {n i : Nat} {d : D} (h : (rangeD lo n)[i]? = some d) : i < n ∧ d = .int (lo + (i : Nat)) := by
  unfold rangeD at h
  rw [List.getElem?_map] at h
  by_cases hi : i < n
  · rw [List.getElem?_range hi] at h
    cases h
    exact ⟨hi, rfl⟩
  · rw [List.getElem?_eq_none (by rw [List.length_range]; omega)] at h
    cases h
theorem rangeD_len (lo : Int) (n : Nat) : (rangeD lo n).length = n := by unfold rangeD; rw [List.length_map, List.length_range]
/-- a loop over a range, by an invariant -/
theorem for_range_inv {g : XG} {body : XS} {lo : Int} {n : Nat} (I : Nat → Rho → Prop) {ρ : Rho} (h0 : I 0 ρ) (hs : ∀ (i : Nat) ρ, i < n → I i ρ → ∃ ρ1, g (.int (lo + (i : Nat))) ρ = some ρ1 ∧ ∃ ρ2, (body ρ1 = .nx ρ2 ∨ body ρ1 = .cnt ρ2) ∧ I (i + 1) ρ2) : ∃ ρ', forRun g body (rangeD lo n) ρ = .nx ρ' ∧ I n ρ' := by
  obtain ⟨ρ', e, h⟩ := forRun_inv I (rangeD lo n) 0 ρ h0 (fun i d ρ hd hi => by
    obtain ⟨h1, rfl⟩ := rangeD_get hd
    rw [Nat.zero_add] at hi ⊢
    exact hs i ρ h1 hi)
  rw [rangeD_len, Nat.zero_add] at h
  exact ⟨ρ', e, h⟩
/-! ### a body's steps: each combinator applied -/
section
variable {α β : Type} (ρ ρ1 : Rho) (i : Nat) (ta tb : XV) (t u : XT) (p q : XS) (f : D → D → Option D) (g : D → Option D) (h : List D → Option D)
theorem zaa (a : α) (k : α → Rho → Res β) : (Res.ok a ρ).bind k = k a ρ := rfl
theorem zab (a : α) (k : α → Rho → Fl) : (Res.ok a ρ).fl k = k a ρ := rfl
theorem zac (c : String) (k : α → Rho → Res β) : (Res.exc c ρ).bind k = .exc c ρ := rfl
theorem zad (c : String) (k : α → Rho → Fl) : (Res.exc c ρ : Res α).fl k = .exc c ρ := rfl
theorem zae (a : α) (k : α → Rho → Res β) : (Res.ok a ρ).bindX k = k a ρ := rfl
theorem zaf : (Fl.nx ρ).seq p = p ρ := rfl
theorem zag (d : D) : (Fl.ret d ρ).seq p = .ret d ρ := rfl
theorem zah : (Fl.brk ρ).seq p = .brk ρ := rfl
theorem zai : (Fl.cnt ρ).seq p = .cnt ρ := rfl
theorem zaj (c : String) : (Fl.exc c ρ).seq p = .exc c ρ := rfl
def slotV (o : Option Slot) (ρ : Rho) : Res D := match o with
  | some (.val d) => .ok d ρ
  | _ => .bad
theorem zak : xVar i ρ = slotV ρ[i]? ρ := rfl
theorem zal (d : D) : slotV (some (.val d)) ρ = .ok d ρ := rfl
def slotT (i : Nat) (o : Option Slot) (ρ : Rho) : Res D := match o with
  | some (.own d) => .ok d (ρ.set i .emp)
  | _ => .bad
theorem zam : xTake i ρ = slotT i ρ[i]? ρ := rfl
theorem zan (d : D) : slotT i (some (.own d)) ρ = .ok d (ρ.set i .emp) := rfl
theorem zao (d : D) : xC d ρ = .ok d ρ := rfl
def liftO (o : Option β) (ρ : Rho) : Res β := match o with
  | some b => .ok b ρ
  | none => .bad
theorem zap (f : α → Option β) (a : α) : G.lift f a ρ = liftO (f a) ρ := rfl
theorem zaq (b : β) : liftO (some b) ρ = .ok b ρ := rfl
theorem zar : xOp1 g ta ρ = (ta ρ).bind (G.lift g) := rfl
def op2k (f : D → D → Option D) (tb : XV) : D → Rho → Res D := fun x ρ1 => (tb ρ1).bind (G.lift (f x))
theorem zas : xOp2 f ta tb ρ = (ta ρ).bind (op2k f tb) := rfl
theorem zat (x : D) : op2k f tb x ρ = (tb ρ).bind (G.lift (f x)) := rfl
theorem zau (a : XA) : xOpL h a ρ = (a ρ).bind (G.lift h) := rfl
theorem zav : xNil ρ = .ok [] ρ := rfl
def consk (tr : XA) : D → Rho → Res (List D) := fun x ρ1 => (tr ρ1).bind fun xs ρ2 => .ok (x :: xs) ρ2
def consk2 (x : D) : List D → Rho → Res (List D) := fun xs ρ2 => .ok (x :: xs) ρ2
theorem zaw (tr : XA) : xCons ta tr ρ = (ta ρ).bind (consk tr) := rfl
theorem zax (tr : XA) (x : D) : consk tr x ρ = (tr ρ).bind (consk2 x) := rfl
theorem zay (x : D) (xs : List D) : consk2 x xs ρ = .ok (x :: xs) ρ := rfl
def testk : D → Rho → Res Bool := fun x ρ1 => match x with
  | .bl b => .ok b ρ1
  | _ => .bad
theorem zaz : xTest ta ρ = (ta ρ).bind testk := rfl
theorem zaA (b : Bool) : testk (.bl b) ρ = .ok b ρ := rfl
def andk (u : XT) : Bool → Rho → Res Bool := fun b ρ1 => if b = true then u ρ1 else .ok false ρ1
def ork (u : XT) : Bool → Rho → Res Bool := fun b ρ1 => if b = true then .ok true ρ1 else u ρ1
def notk : Bool → Rho → Res Bool := fun b ρ1 => .ok (!b) ρ1
theorem zaB : xAnd t u ρ = (t ρ).bind (andk u) := rfl
theorem zaC : xOr t u ρ = (t ρ).bind (ork u) := rfl
theorem zaD : xNot t ρ = (t ρ).bind notk := rfl
theorem zaE : andk u true ρ = u ρ := rfl
theorem zaF : andk u false ρ = .ok false ρ := rfl
theorem zaG : ork u true ρ = .ok true ρ := rfl
theorem zaH : ork u false ρ = u ρ := rfl
theorem zaI (b : Bool) : notk b ρ = .ok (!b) ρ := rfl
def andVk (u : XV) : Bool → Rho → Res D := fun b ρ1 => if b = true then u ρ1 else .ok (.bl false) ρ1
def orVk (u : XV) : Bool → Rho → Res D := fun b ρ1 => if b = true then .ok (.bl true) ρ1 else u ρ1
def notVk : Bool → Rho → Res D := fun b ρ1 => .ok (.bl (!b)) ρ1
theorem zaJ : xAndV ta tb ρ = (xTest ta ρ).bind (andVk tb) := rfl
theorem zaK : xOrV ta tb ρ = (xTest ta ρ).bind (orVk tb) := rfl
theorem zaL : xNotV ta ρ = (xTest ta ρ).bind notVk := rfl
theorem zaM : andVk tb true ρ = tb ρ := rfl
theorem zaN : andVk tb false ρ = .ok (.bl false) ρ := rfl
theorem zaO : orVk tb true ρ = .ok (.bl true) ρ := rfl
theorem zaP : orVk tb false ρ = tb ρ := rfl
theorem zaQ (b : Bool) : notVk b ρ = .ok (.bl (!b)) ρ := rfl
def ifVk (a b : XV) : Bool → Rho → Res D := fun c ρ1 => if c = true then a ρ1 else b ρ1
theorem zaR : xIf t ta tb ρ = (t ρ).bind (ifVk ta tb) := rfl
theorem zaS : ifVk ta tb true ρ = ta ρ := rfl
theorem zaT : ifVk ta tb false ρ = tb ρ := rfl
theorem zaU : xNext ρ = .nx ρ := rfl
theorem zaV : xBrk ρ = .brk ρ := rfl
theorem zaW : xCnt ρ = .cnt ρ := rfl
theorem zaX : xSeq p q ρ = (p ρ).seq q := rfl
def dropk : D → Rho → Fl := fun _ ρ1 => .nx ρ1
theorem zaY : xDrop ta ρ = (ta ρ).fl dropk := rfl
theorem zaZ (d : D) : dropk d ρ = .nx ρ := rfl
def retk : D → Rho → Fl := fun d ρ1 => .ret d ρ1
theorem zba : xRet ta ρ = (ta ρ).fl retk := rfl
theorem zbb (d : D) : retk d ρ = .ret d ρ := rfl
def ifk (a b : XS) : Bool → Rho → Fl := fun c ρ1 => if c = true then a ρ1 else b ρ1
theorem zbc : xIfS t p q ρ = (t ρ).fl (ifk p q) := rfl
theorem zbd : ifk p q true ρ = p ρ := rfl
theorem zbe : ifk p q false ρ = q ρ := rfl
def asgO (o : Option Rho) : Fl := match o with
  | some ρ2 => .nx ρ2
  | none => .bad
def asgk (g : XG) : D → Rho → Fl := fun d ρ1 => asgO (g d ρ1)
theorem zbf (g : XG) : xAsg ta g ρ = (ta ρ).fl (asgk g) := rfl
theorem zbg (g : XG) (d : D) : asgk g d ρ = asgO (g d ρ) := rfl
theorem zbh : asgO (some ρ) = .nx ρ := rfl
theorem zbi (d : D) : gSet i d ρ = some (ρ.set i (.val d)) := rfl
theorem zbj (n : Nat) (gs : List D → Rho → Option Rho) (ds : List D) : gsTup n gs (.tup ds) ρ = if ds.length = n then gs ds ρ else none := rfl
theorem zbk (g : XG) (gs : List D → Rho → Option Rho) (d : D) (ds : List D) : gsCons g gs (d :: ds) ρ = (g d ρ).bind (gs ds) := rfl
theorem zbl : gsNil [] ρ = some ρ := rfl
def setOk (i : Nat) : D → Rho → Fl := fun d ρ1 => .nx (ρ1.set i (.own d))
theorem zbm : xSetO i ta ρ = (ta ρ).fl (setOk i) := rfl
theorem zbn (d : D) : setOk i d ρ = .nx (ρ.set i (.own d)) := rfl
def callk (g : DF) : List D → Rho → Res D := fun ds ρ1 => (g ds).res ρ1
theorem zbo (g : DF) (a : XA) : xCall g a ρ = (a ρ).bind (callk g) := rfl
theorem zbp (g : DF) (ds : List D) : callk g ds ρ = (g ds).res ρ := rfl
theorem zbq (d : D) (ps : List D) : (FR.ok d ps).res ρ = .ok d ρ := rfl
theorem zbr (c : String) (ps : List D) : (FR.exc c ps).res ρ = .exc c ρ := rfl
def ownO (o : Option Slot) : Option D := match o with
  | some (.own d) => some d
  | _ => none
theorem zbs : ownD i ρ = ownO ρ[i]? := rfl
theorem zbt (d : D) : ownO (some (.own d)) = some d := rfl
def callB2 (g : DF) (i : Nat) (ds : List D) (ρ1 : Rho) (o : Option D) : Res D := match o with
  | none => .bad
  | some d0 => (g (d0 :: ds)).resB i ρ1
def callB1 (g : DF) (i : Nat) : List D → Rho → Res D := fun ds ρ1 => callB2 g i ds ρ1 (ownD i ρ1)
def callB0 (g : DF) (i : Nat) (a : XA) (ρ : Rho) (o : Option D) : Res D := match o with
  | none => .bad
  | some _ => (a ρ).bind (callB1 g i)
theorem zbu (g : DF) (a : XA) : xCallB g i a ρ = callB0 g i a ρ (ownD i ρ) := by
  unfold xCallB callB0
  cases ownD i ρ <;> rfl
theorem zbv (g : DF) (a : XA) (d : D) : callB0 g i a ρ (some d) = (a ρ).bind (callB1 g i) := rfl
theorem zbw (g : DF) (ds : List D) : callB1 g i ds ρ = callB2 g i ds ρ (ownD i ρ) := rfl
theorem zbx (g : DF) (ds : List D) (d0 : D) : callB2 g i ds ρ (some d0) = (g (d0 :: ds)).resB i ρ := rfl
theorem zby (d e : D) : (FR.ok d [e]).resB i ρ = .ok d (ρ.set i (.own e)) := rfl
def callT2 (g : DF) (d0 : D) : List D → Rho → Res D := fun ds ρ2 => match g (d0 :: ds) with
  | .ok d [_] => .ok d ρ2
  | .exc c [_] => .exc c ρ2
  | _ => .bad
def callT1 (g : DF) (a : XA) : D → Rho → Res D := fun d0 ρ1 => (a ρ1).bind (callT2 g d0)
theorem zbz (g : DF) (a : XA) : xCallT g ta a ρ = (ta ρ).bind (callT1 g a) := rfl
theorem zbA (g : DF) (a : XA) (d0 : D) : callT1 g a d0 ρ = (a ρ).bind (callT2 g d0) := rfl
theorem callT2_ok {g : DF} {d0 d e : D} {ds : List D} (hg : g (d0 :: ds) = .ok d [e]) : callT2 g d0 ds ρ = .ok d ρ := by unfold callT2; rw [hg]
def listO (o : Option Slot) : Option (List D) := match o with
  | some (.own (.lst ds)) => some ds
  | _ => none
theorem zbB : ownL i ρ = listO ρ[i]? := rfl
theorem zbC (ds : List D) : listO (some (.own (.lst ds))) = some ds := rfl
def withO (f : List D → XS) (ρ : Rho) (o : Option (List D)) : Fl := match o with
  | some ds => f ds ρ
  | none => .bad
theorem zbD (f : List D → XS) : withL i f ρ = withO f ρ (ownL i ρ) := by
  unfold withL withO
  cases ownL i ρ <;> rfl
theorem zbE (f : List D → XS) (ds : List D) : withO f ρ (some ds) = f ds ρ := rfl
def withOV (f : List D → Rho → Res α) (ρ : Rho) (o : Option (List D)) : Res α := match o with
  | some ds => f ds ρ
  | none => .bad
def rdO (o : Option Slot) : Option D := match o with
  | some (.own d) => some d
  | some (.rd d) => some d
  | _ => none
theorem zbF : rdD i ρ = rdO ρ[i]? := rfl
theorem zbG (d : D) : rdO (some (.own d)) = some d := rfl
theorem zbH (d : D) : rdO (some (.rd d)) = some d := rfl
def rdOL (o : Option D) : Option (List D) := match o with
  | some (.lst ds) => some ds
  | _ => none
theorem zbI : rdL i ρ = rdOL (rdD i ρ) := rfl
theorem zbJ (ds : List D) : rdOL (some (.lst ds)) = some ds := rfl
theorem zbK (f : List D → Rho → Res α) : withR i f ρ = withOV f ρ (rdL i ρ) := by
  unfold withR withOV
  cases rdL i ρ <;> rfl
theorem zbL (f : List D → Rho → Res α) (ds : List D) : withOV f ρ (some ds) = f ds ρ := rfl
def appk2 (i : Nat) (d : D) : List D → XS := fun ds ρ1 => if ds.length < sizeLine then .nx (ρ1.set i (.own (.lst (ds ++ [d])))) else .bad
def appk (i : Nat) : D → Rho → Fl := fun d => withL i (appk2 i d)
def appk0 (i : Nat) (te : XV) : List D → XS := fun _ ρ => (te ρ).fl (appk i)
theorem zbM : xAppend i ta ρ = withL i (appk0 i ta) ρ := rfl
theorem zbN (ds : List D) : appk0 i ta ds ρ = (ta ρ).fl (appk i) := rfl
theorem zbO (d : D) : appk i d ρ = withL i (appk2 i d) ρ := rfl
theorem zbP (d : D) (ds : List D) (hz : ds.length < sizeLine) : appk2 i d ds ρ = .nx (ρ.set i (.own (.lst (ds ++ [d])))) := if_pos hz
def mutk (i : Nat) (f : List D → List D) : List D → XS := fun ds ρ => .nx (ρ.set i (.own (.lst (f ds))))
theorem zbQ (f : List D → List D) : xMut i f ρ = withL i (mutk i f) ρ := rfl
theorem zbR (f : List D → List D) (ds : List D) : mutk i f ds ρ = .nx (ρ.set i (.own (.lst (f ds)))) := rfl
def setO2 (i : Nat) (ρ : Rho) (o : Option (List D)) : Fl := match o with
  | some ds' => .nx (ρ.set i (.own (.lst ds')))
  | none => .bad
def setk3 (i : Nat) (d k : D) : List D → XS := fun ds ρ2 => setO2 i ρ2 (dSetAt ds k d)
def setk2 (i : Nat) (d : D) : D → Rho → Fl := fun k => withL i (setk3 i d k)
def setk1 (i : Nat) (tk : XV) (d : D) : List D → XS := fun _ ρ1 => (tk ρ1).fl (setk2 i d)
def setk0 (i : Nat) (tk : XV) : D → Rho → Fl := fun d => withL i (setk1 i tk d)
theorem zbS : xSetIx i ta tb ρ = (tb ρ).fl (setk0 i ta) := rfl
theorem zbT (d : D) : setk0 i ta d ρ = withL i (setk1 i ta d) ρ := rfl
theorem zbU (d : D) (ds : List D) : setk1 i ta d ds ρ = (ta ρ).fl (setk2 i d) := rfl
theorem zbV (d k : D) : setk2 i d k ρ = withL i (setk3 i d k) ρ := rfl
theorem zbW (d k : D) (ds : List D) : setk3 i d k ds ρ = setO2 i ρ (dSetAt ds k d) := rfl
theorem zbX (ds : List D) : setO2 i ρ (some ds) = .nx (ρ.set i (.own (.lst ds))) := rfl
theorem zbY (ds : List D) (j : Int) (d : D) : dSetAt ds (.int j) d = (ixN ds.length j).map fun m => ds.set m d := rfl
def ixk2 (i : Nat) (k : D) : List D → Rho → Res D := fun ds => G.lift (dAt ds) k
def ixk (i : Nat) : D → Rho → Res D := fun k => withR i (ixk2 i k)
def ixk0 (i : Nat) (tk : XV) : List D → Rho → Res D := fun _ ρ => (tk ρ).bind (ixk i)
theorem zbZ : xIxO i ta ρ = withR i (ixk0 i ta) ρ := rfl
theorem zca (ds : List D) : ixk0 i ta ds ρ = (ta ρ).bind (ixk i) := rfl
theorem zcb (k : D) : ixk i k ρ = withR i (ixk2 i k) ρ := rfl
theorem zcc (k : D) (ds : List D) : ixk2 i k ds ρ = liftO (dAt ds k) ρ := rfl
theorem zcd (ds : List D) (j : Int) : dAt ds (.int j) = atI ds j := rfl
def lenk : List D → Rho → Res D := fun ds ρ => .ok (.int (ds.length : Nat)) ρ
theorem zce : xLenO i ρ = withR i lenk ρ := rfl
theorem zcf (ds : List D) : lenk ds ρ = .ok (.int (ds.length : Nat)) ρ := rfl
def blO (o : Option Bool) (ρ : Rho) : Res D := match o with
  | some b => .ok (.bl b) ρ
  | none => .bad
def cmpO2 (f : D → D → Option D) (x : D) (ρ : Rho) (o : Option D) : Res D := match o with
  | some y => blO (dBl f x y) ρ
  | none => .bad
def cmpOk (f : D → D → Option D) (i : Nat) : D → Rho → Res D := fun x ρ1 => cmpO2 f x ρ1 (rdD i ρ1)
theorem zcg : xCmpO f ta i ρ = (ta ρ).bind (cmpOk f i) := rfl
theorem zch (x : D) : cmpOk f i x ρ = cmpO2 f x ρ (rdD i ρ) := rfl
theorem zci (x y : D) : cmpO2 f x ρ (some y) = blO (dBl f x y) ρ := rfl
theorem zcj (b : Bool) : blO (some b) ρ = .ok (.bl b) ρ := rfl
theorem dBl_some {x y : D} {b : Bool} (e : f x y = some (.bl b)) : dBl f x y = some b := by unfold dBl; rw [e]
theorem zck (x y : D) : dBl dEq x y = eqD x y := by unfold dBl dEq; cases eqD x y <;> rfl
theorem zcl (x y : D) : dBl dNe x y = (eqD x y).map (!·) := by unfold dBl dNe; cases eqD x y <;> rfl
theorem zcm (x y : D) : dBl dIn x y = inD x y := by unfold dBl dIn; cases inD x y <;> rfl
theorem zcn (x y : D) : dBl dNotIn x y = (inD x y).map (!·) := by unfold dBl dNotIn; cases inD x y <;> rfl
def fork (g : XG) (body : XS) : List D → Rho → Fl := fun ds ρ1 => forRun g body ds ρ1
theorem zco (ti : XA) (g : XG) : xFor ti g p ρ = (ti ρ).fl (fork g p) := rfl
theorem zcp (g : XG) (ds : List D) : fork g p ds ρ = forRun g p ds ρ := rfl
theorem zcq : xIt ta ρ = (ta ρ).bind (G.lift dItems) := rfl
theorem zcr : xItR1 ta ρ = (ta ρ).bind (G.lift dRange1) := rfl
def r2k (tb : XV) : D → Rho → Res (List D) := fun x ρ1 => (tb ρ1).bind (G.lift (dRange2 x))
theorem zcs : xItR2 ta tb ρ = (ta ρ).bind (r2k tb) := rfl
theorem zct (x : D) : r2k tb x ρ = (tb ρ).bind (G.lift (dRange2 x)) := rfl
theorem zcu (n : Int) (h : inR n = true) : dRange1 (.int n) = some (rangeD 0 n.toNat) := if_pos h
theorem zcv (a b : Int) (h : inR a = true) (k : inR b = true) : dRange2 (.int a) (.int b) = some (rangeD a (b - a).toNat) := if_pos ⟨h, k⟩
theorem inR_of {n : Int} (h : -(2 ^ 62) ≤ n ∧ n < 2 ^ 62) : inR n = true := (inR_iff n).mpr h
theorem zcw : inR 0 = true := by decide
theorem zcx : inR 1 = true := by decide
theorem zcy : inR (-1) = true := by decide
theorem zcz : inR 2 = true := by decide
theorem zcA : inR 3 = true := by decide
theorem zcB : inR 4 = true := by decide
theorem zcC : inR 5 = true := by decide
theorem zcD : inR 6 = true := by decide
theorem zcE : inR 7 = true := by decide
theorem zcF : inR 8 = true := by decide
theorem zcG : inR 9 = true := by decide
theorem zcH (ds : List D) : dItems (.lst ds) = some ds := rfl
theorem zcI (ds : List D) : dItems (.tup ds) = some ds := rfl
theorem zcJ (ds : List D) : dItems (.fix ds) = some ds := rfl
/-- one turn of a loop -/
def turnFl (g : XG) (body : XS) (r : List D) (f : Fl) : Fl := match f with
  | .nx ρ2 => forRun g body r ρ2
  | .cnt ρ2 => forRun g body r ρ2
  | .brk ρ2 => .nx ρ2
  | f => f
def turnO (g : XG) (body : XS) (r : List D) (o : Option Rho) : Fl := match o with
  | none => .bad
  | some ρ1 => turnFl g body r (body ρ1)
theorem zcK (g : XG) (d : D) (r : List D) : forRun g p (d :: r) ρ = turnO g p r (g d ρ) := by
  show (match g d ρ with | none => Fl.bad | some ρ1 => match p ρ1 with | .nx ρ2 => forRun g p r ρ2 | .cnt ρ2 => forRun g p r ρ2 | .brk ρ2 => .nx ρ2 | f => f) = _
  unfold turnO turnFl
  cases g d ρ with
  | none => rfl
  | some ρ1 => cases p ρ1 <;> rfl
theorem zcL (g : XG) (r : List D) : turnO g p r (some ρ) = turnFl g p r (p ρ) := rfl
theorem zcM (g : XG) (r : List D) : turnFl g p r (.nx ρ) = forRun g p r ρ := rfl
theorem zcN (g : XG) (r : List D) : turnFl g p r (.cnt ρ) = forRun g p r ρ := rfl
theorem zcO (g : XG) (r : List D) : turnFl g p r (.brk ρ) = .nx ρ := rfl
theorem zcP (g : XG) (r : List D) (d : D) : turnFl g p r (.ret d ρ) = .ret d ρ := rfl
theorem zcQ (g : XG) (r : List D) (c : String) : turnFl g p r (.exc c ρ) = .exc c ρ := rfl
def cmpL2 (f : D → D → Option D) (y : D) (ρ : Rho) (o : Option D) : Res D := match o with
  | some x => blO (dBl f x y) ρ
  | none => .bad
def cmpL1 (f : D → D → Option D) (i : Nat) : D → Rho → Res D := fun y ρ1 => cmpL2 f y ρ1 (rdD i ρ1)
def cmpL0 (f : D → D → Option D) (i : Nat) (tb : XV) (ρ : Rho) (o : Option D) : Res D := match o with
  | none => .bad
  | some _ => (tb ρ).bind (cmpL1 f i)
theorem zcR : xCmpOL f i tb ρ = cmpL0 f i tb ρ (rdD i ρ) := by
  unfold xCmpOL cmpL0
  cases rdD i ρ <;> rfl
theorem zcS (d : D) : cmpL0 f i tb ρ (some d) = (tb ρ).bind (cmpL1 f i) := rfl
theorem zcT (y : D) : cmpL1 f i y ρ = cmpL2 f y ρ (rdD i ρ) := rfl
theorem zcU (x y : D) : cmpL2 f y ρ (some x) = blO (dBl f x y) ρ := rfl
def consR2 (x : D) : List D → Rho → Res (List D) := fun xs ρ2 => if nofx x = true then .ok (x :: xs) ρ2 else .bad
def consR1 (tr : XA) : D → Rho → Res (List D) := fun x ρ1 => (tr ρ1).bind (consR2 x)
theorem zcV (tr : XA) : xConsR ta tr ρ = (ta ρ).bind (consR1 tr) := rfl
theorem zcW (tr : XA) (x : D) : consR1 tr x ρ = (tr ρ).bind (consR2 x) := rfl
theorem zcX (ds xs : List D) : consR2 (.lst ds) xs ρ = .ok (.lst ds :: xs) ρ := rfl
theorem zcY (ds xs : List D) : consR2 (.tup ds) xs ρ = .ok (.tup ds :: xs) ρ := rfl
theorem zcZ (n : Int) (xs : List D) : consR2 (.int n) xs ρ = .ok (.int n :: xs) ρ := rfl
theorem zda (n : Bool) (xs : List D) : consR2 (.bl n) xs ρ = .ok (.bl n :: xs) ρ := rfl
theorem zdb (n : Str) (xs : List D) : consR2 (.str n) xs ρ = .ok (.str n :: xs) ρ := rfl
theorem zdc (xs : List D) : consR2 .non xs ρ = .ok (.non :: xs) ρ := rfl
def consO2 (ds : List D) (ρ1 : Rho) (o : Option D) : Res (List D) := match o with
  | some d => .ok (d :: ds) ρ1
  | none => .bad
def consO1 (j : Nat) : List D → Rho → Res (List D) := fun ds ρ1 => consO2 ds ρ1 (rdD j ρ1)
def consO0 (j : Nat) (tr : XA) (ρ : Rho) (o : Option D) : Res (List D) := match o with
  | none => .bad
  | some _ => (tr ρ).bind (consO1 j)
theorem zdd (tr : XA) : xConsO i tr ρ = consO0 i tr ρ (rdD i ρ) := by
  unfold xConsO consO0
  cases rdD i ρ <;> rfl
theorem zde (tr : XA) (d : D) : consO0 i tr ρ (some d) = (tr ρ).bind (consO1 i) := rfl
theorem zdf (ds : List D) : consO1 i ds ρ = consO2 ds ρ (rdD i ρ) := rfl
theorem zdg (d : D) (ds : List D) : consO2 ds ρ (some d) = .ok (d :: ds) ρ := rfl
def lockO (i : Nat) (t : Rho → Res α) (ρ : Rho) (o : Option D) : Res α := match o with
  | some d => (t (ρ.set i (.rd d))).unl i
  | none => .bad
theorem zdh (t : Rho → Res α) : lockV i t ρ = lockO i t ρ (ownD i ρ) := by
  unfold lockV lockO
  cases ownD i ρ <;> rfl
theorem zdi (t : Rho → Res α) (d : D) : lockO i t ρ (some d) = (t (ρ.set i (.rd d))).unl i := rfl
def lockSO (i : Nat) (t : XS) (ρ : Rho) (o : Option D) : Fl := match o with
  | some d => (t (ρ.set i (.rd d))).unl i
  | none => .bad
theorem zdj : lockS i p ρ = lockSO i p ρ (ownD i ρ) := by
  unfold lockS lockSO
  cases ownD i ρ <;> rfl
theorem zdk (d : D) : lockSO i p ρ (some d) = (p (ρ.set i (.rd d))).unl i := rfl
theorem zdl (a : α) : (Res.ok a ρ).unl i = .ok a (unl i ρ) := rfl
theorem zdm : (Fl.nx ρ).unl i = .nx (unl i ρ) := rfl
theorem zdn (d : D) : (Fl.ret d ρ).unl i = .ret d (unl i ρ) := rfl
theorem zdo : (Fl.brk ρ).unl i = .brk (unl i ρ) := rfl
theorem zdp : (Fl.cnt ρ).unl i = .cnt (unl i ρ) := rfl
theorem zdq (c : String) : (Fl.exc c ρ).unl i = .exc c (unl i ρ) := rfl
def unlO (i : Nat) (ρ : Rho) (o : Option Slot) : Rho := match o with
  | some (.rd d) => ρ.set i (.own d)
  | _ => ρ
theorem zdr : unl i ρ = unlO i ρ ρ[i]? := rfl
theorem zds (d : D) : unlO i ρ (some (.rd d)) = ρ.set i (.own d) := rfl
theorem zdt (d : D) : unlO i ρ (some (.own d)) = ρ := rfl
theorem zdu (d : D) : unlO i ρ (some (.val d)) = ρ := rfl
def itO (o : Option Slot) (ρ : Rho) : Res (List D) := match o with
  | some (.rd d) => lift dItems d ρ
  | _ => .bad
theorem zdv : xItO i ρ = itO ρ[i]? ρ := rfl
theorem zdw (d : D) : itO (some (.rd d)) ρ = liftO (dItems d) ρ := rfl
/-! comprehensions -/
def lstk : List D → Rho → Res D := fun acc ρ2 => .ok (.lst acc) ρ2
def lcK (g : XG) (tt : XT) (te : XV) (vs : List Nat) : List D → Rho → Res D := fun ds ρ1 => if ds.length ≤ sizeLine ∧ noOwn ρ1 vs = true then (lcRun g tt te vs ds [] ρ1).bind lstk else .bad
theorem zdx (ti : XA) (g : XG) (tt : XT) (te : XV) (vs : List Nat) : xLC ti g tt te vs ρ = (ti ρ).bind (lcK g tt te vs) := rfl
theorem zdy (g : XG) (tt : XT) (te : XV) (vs : List Nat) (ds : List D) (hz : ds.length ≤ sizeLine) (hn : noOwn ρ vs = true) : lcK g tt te vs ds ρ = (lcRun g tt te vs ds [] ρ).bind lstk := if_pos ⟨hz, hn⟩
theorem zdz (acc : List D) : lstk acc ρ = .ok (.lst acc) ρ := rfl
def notOwn (o : Option Slot) : Bool := match o with
  | some (.own _) => false
  | _ => true
theorem zdA : noOwn ρ [] = true := rfl
theorem zdB (v : Nat) (vs : List Nat) : noOwn ρ (v :: vs) = (notOwn ρ[v]? && noOwn ρ vs) := rfl
theorem zdC (d : D) : notOwn (some (.val d)) = true := rfl
theorem zdD (d : D) : notOwn (some (.rd d)) = true := rfl
theorem zdE : notOwn (some .emp) = true := rfl
theorem zdF : wipeR ρ [] = ρ := rfl
theorem zdG (v : Nat) (vs : List Nat) : wipeR ρ (v :: vs) = (wipeR ρ vs).set v .emp := rfl
theorem zdH : backR ρ ρ1 [] = ρ1 := rfl
theorem zdI (v : Nat) (vs : List Nat) : backR ρ ρ1 (v :: vs) = (backR ρ ρ1 vs).set v (ρ.getD v .emp) := rfl
/-- one turn of a comprehension -/
def lcS2 (vs : List Nat) (ρ0 : Rho) : D → Rho → Res (Option D) := fun y ρ3 => .ok (some y) (backR ρ0 ρ3 vs)
def lcS1 (te : XV) (vs : List Nat) (ρ0 : Rho) : Bool → Rho → Res (Option D) := fun b ρ2 => if b = true then (te ρ2).bindX (lcS2 vs ρ0) else .ok none (backR ρ0 ρ2 vs)
def lcS0 (tt : XT) (te : XV) (vs : List Nat) (ρ0 : Rho) : Option Rho → Res (Option D)
  | none => .bad
  | some ρ1 => (tt ρ1).bindX (lcS1 te vs ρ0)
def lcStep (g : XG) (tt : XT) (te : XV) (vs : List Nat) (d : D) : Rho → Res (Option D) := fun ρ => lcS0 tt te vs ρ (g d (wipeR ρ vs))
theorem zdJ (g : XG) (tt : XT) (te : XV) (vs : List Nat) (d : D) : lcStep g tt te vs d ρ = lcS0 tt te vs ρ (g d (wipeR ρ vs)) := rfl
theorem zdK (tt : XT) (te : XV) (vs : List Nat) : lcS0 tt te vs ρ (some ρ1) = (tt ρ1).bindX (lcS1 te vs ρ) := rfl
theorem zdL (te : XV) (vs : List Nat) : lcS1 te vs ρ true ρ1 = (te ρ1).bindX (lcS2 vs ρ) := rfl
theorem zdM (te : XV) (vs : List Nat) : lcS1 te vs ρ false ρ1 = .ok none (backR ρ ρ1 vs) := rfl
theorem zdN (vs : List Nat) (d : D) : lcS2 vs ρ d ρ1 = .ok (some d) (backR ρ ρ1 vs) := rfl
theorem zdO : xYes ρ = .ok true ρ := rfl
/-! defs -/
def endP (fr : Bool) : Fl → FR
  | .ret d _ => .ok d []
  | .nx _ => if fr = true then .bad else .ok .non []
  | .exc c _ => .exc c []
  | _ => .bad
def runO (n : Nat) (fr : Bool) (body : XS) (o : Option (List Slot)) : FR := match o with
  | some ss => endP fr (body (ss ++ List.replicate (n - ss.length) .emp))
  | none => .bad
theorem zdP (md : List Bool) (n : Nat) (fr : Bool) (ds : List D) : runP md n fr p ds = runO n fr p (ini md ds) := by
  unfold runP runO endP
  cases ini md ds <;> rfl
theorem zdQ (n : Nat) (fr : Bool) (ss : List Slot) : runO n fr p (some ss) = endP fr (p (ss ++ List.replicate (n - ss.length) .emp)) := rfl
theorem zdR (fr : Bool) (d : D) : endP fr (.ret d ρ) = .ok d [] := rfl
theorem zdS : endP false (.nx ρ) = .ok .non [] := rfl
theorem zdT (fr : Bool) (c : String) : endP fr (.exc c ρ) = .exc c [] := rfl
theorem zdU : ini [] [] = some [] := rfl
theorem zdV (m : Bool) (ms : List Bool) (d : D) (ds : List D) : ini (m :: ms) (d :: ds) = (ini ms ds).map (Slot.of m d :: ·) := rfl
theorem of_f (d : D) : Slot.of false d = .val d := rfl
theorem of_t (d : D) : Slot.of true d = .rd d := rfl
def endB (fr : Bool) : Fl → FR
  | .ret d ρ => .ok d (slot0 ρ)
  | .nx ρ => if fr = true then .bad else .ok .non (slot0 ρ)
  | .exc c ρ => .exc c (slot0 ρ)
  | _ => .bad
def runBO (n : Nat) (fr : Bool) (body : XS) (d0 : D) (o : Option (List Slot)) : FR := match o with
  | some ss => endB fr (body (.own d0 :: ss ++ List.replicate (n - (ss.length + 1)) .emp))
  | none => .bad
theorem zdW (md : List Bool) (n : Nat) (fr : Bool) (d0 : D) (ds : List D) : runB md n fr p (d0 :: ds) = runBO n fr p d0 (ini md ds) := by
  show (match ini md ds with | some ss => _ | none => _) = _
  unfold runBO endB
  cases ini md ds <;> rfl
theorem zdX (n : Nat) (fr : Bool) (d0 : D) (ss : List Slot) : runBO n fr p d0 (some ss) = endB fr (p (.own d0 :: ss ++ List.replicate (n - (ss.length + 1)) .emp)) := rfl
theorem zdY (fr : Bool) (d d0 : D) : endB fr (.ret d (.own d0 :: ρ)) = .ok d [d0] := rfl
theorem zdZ (d0 : D) : endB false (.nx (.own d0 :: ρ)) = .ok .non [d0] := rfl
theorem zea (fr : Bool) (c : String) (d0 : D) : endB fr (.exc c (.own d0 :: ρ)) = .exc c [d0] := rfl
/-! values -/
theorem zeb (a b : Int) : dAdd (.int a) (.int b) = some (.int (a + b)) := rfl
theorem zec (a b : Int) : dSub (.int a) (.int b) = some (.int (a - b)) := rfl
theorem zed {a b : Int} (hc : CMulA a b) : dMul (.int a) (.int b) = some (.int (a * b)) := if_pos hc
theorem zee {a b : Int} (hc : CDivW a b) : dDiv (.int a) (.int b) = some (.int (a / b)) := if_pos hc
theorem zef {a b : Int} (hc : 0 < b) : dMod (.int a) (.int b) = some (.int (a % b)) := if_pos hc
theorem zeg {a b : Int} (hc : CPow a b) : dPow (.int a) (.int b) = some (.int (a ^ b.toNat)) := if_pos hc
theorem zeh (c : Int → Int → Bool) (a b : Int) : dCmp c (.int a) (.int b) = some (.bl (c a b)) := rfl
theorem zei (a b : Int) : dLt (.int a) (.int b) = some (.bl (decide (a < b))) := rfl
theorem zej (a : Int) : dNeg (.int a) = some (.int (-a)) := rfl
theorem zek (x y : D) : dEq x y = (eqD x y).map .bl := rfl
theorem zel (x y : D) : dNe x y = (eqD x y).map fun b => .bl (!b) := rfl
theorem zem (x y : D) : dIn x y = (inD x y).map .bl := rfl
theorem zen (x y : D) : dNotIn x y = (inD x y).map fun b => .bl (!b) := rfl
theorem zeo (ds : List D) (j : Int) : dIx (.lst ds) (.int j) = atI ds j := rfl
theorem zep (ds : List D) (j : Int) : dIx (.tup ds) (.int j) = atI ds j := rfl
theorem zeq (ds : List D) (j : Int) : dIx (.fix ds) (.int j) = atI ds j := rfl
theorem zer (ds : List D) : dLen [.lst ds] = some (.int (ds.length : Nat)) := rfl
theorem zes (ds : List D) : dLen [.tup ds] = some (.int (ds.length : Nat)) := rfl
theorem zet (ds : List D) : dLen [.fix ds] = some (.int (ds.length : Nat)) := rfl
theorem zeu (a : Int) : dAbs [.int a] = some (.int (if a < 0 then -a else a)) := rfl
theorem dTup_ap {ds : List D} (hc : ds.length ≤ sizeLine) : dTup ds = some (.tup ds) := if_pos hc
theorem dLst_ap {ds : List D} (hc : ds.length ≤ sizeLine) : dLst ds = some (.lst ds) := if_pos hc
theorem zev (a b : D) : dTup [a, b] = some (.tup [a, b]) := dTup_ap (len_sz1 (by show 2 ≤ 100000; decide))
theorem zew (a b c : D) : dTup [a, b, c] = some (.tup [a, b, c]) := dTup_ap (len_sz1 (by show 3 ≤ 100000; decide))
theorem zex (a b c d : D) : dTup [a, b, c, d] = some (.tup [a, b, c, d]) := dTup_ap (len_sz1 (by show 4 ≤ 100000; decide))
theorem zey (a : D) : dTup [a] = some (.tup [a]) := dTup_ap (len_sz1 (by show 1 ≤ 100000; decide))
theorem zez : dTup [] = some (.tup []) := dTup_ap (len_sz1 (by show 0 ≤ 100000; decide))
theorem zeA (a b c d : D) : dLst [a, b, c, d] = some (.lst [a, b, c, d]) := dLst_ap (len_sz1 (by show 4 ≤ 100000; decide))
theorem zeB : dLst [] = some (.lst []) := dLst_ap (len_sz1 (by show 0 ≤ 100000; decide))
theorem zeC (a : D) : dLst [a] = some (.lst [a]) := dLst_ap (len_sz1 (by show 1 ≤ 100000; decide))
theorem zeD (a b : D) : dLst [a, b] = some (.lst [a, b]) := dLst_ap (len_sz1 (by show 2 ≤ 100000; decide))
theorem zeE (a b c : D) : dLst [a, b, c] = some (.lst [a, b, c]) := dLst_ap (len_sz1 (by show 3 ≤ 100000; decide))
end
end G

namespace G
open PySem PySem.Spec PyProof.Rows L2
local macro_rules | `(tactic| simp! [$ls,*] $[$loc:location]?) => `(tactic| simp only [zaa, zab, zac, zad, zae, zaf, zag, zah, zai, zaj, zak, zal, zam, zan, zao, zap, zaq, zar, zas, zat, zau, zav, zaw, zax, zay, zaz, zaA, zaB, zaC, zaD, zaE, zaF, zaG, zaH, zaI, zaJ, zaK, zaL, zaM, zaN, zaO, zaP, zaQ, zaR, zaS, zaT, zaU, zaV, zaW, zaX, zaY, zaZ, zba, zbb, zbc, zbd, zbe, zbf, zbg, zbh, zbi, zbj, zbk, zbl, zbm, zbn, zbo, zbp, zbq, zbr, zbs, zbt, zbu, zbv, zbw, zbx, zby, zbz, zbA, zbB, zbC, zbD, zbE, zbF, zbG, zbH, zbI, zbJ, zbK, zbL, zbM, zbN, zbO, zbP, zbQ, zbR, zbS, zbT, zbU, zbV, zbW, zbX, zbY, zbZ, zca, zcb, zcc, zcd, zce, zcf, zcg, zch, zci, zcj, zck, zcl, zcm, zcn, zco, zcp, zcq, zcr, zcs, zct, zcu, zcv, zcw, zcx, zcy, zcz, zcA, zcB, zcC, zcD, zcE, zcF, zcG, zcH, zcI, zcJ, zcK, zcL, zcM, zcN, zcO, zcP, zcQ, zcR, zcS, zcT, zcU, zcV, zcW, zcX, zcY, zcZ, zda, zdb, zdc, zdd, zde, zdf, zdg, zdh, zdi, zdj, zdk, zdl, zdm, zdn, zdo, zdp, zdq, zdr, zds, zdt, zdu, zdv, zdw, zdx, zdy, zdz, zdA, zdB, zdC, zdD, zdE, zdF, zdG, zdH, zdI, zdJ, zdK, zdL, zdM, zdN, zdO, zdP, zdQ, zdR, zdS, zdT, zdU, zdV, G.of_f, G.of_t, zdW, zdX, zdY, zdZ, zea, zeb, zec, zed, zee, zef, zeg, zeh, zei, zej, zek, zel, zem, zen, zeo, zep, zeq, zer, zes, zet, zeu, zev, zew, zex, zey, zez, zeA, zeB, zeC, zeD, zeE, List.getElem?_cons_zero, List.getElem?_cons_succ, List.set_cons_zero, List.set_cons_succ, G.atI_0, G.atI_1, G.atI_2, G.atI_3, Option.map_some, Option.bind_some, G.eqD_int, G.eqD_cell, G.eqD_bl, List.length_cons, List.length_nil, List.getD_cons_zero, List.getD_cons_succ, Bool.and_true, Bool.and_self, decide_true, decide_false, Bool.not_true, Bool.not_false, List.append_nil, List.nil_append, List.cons_append, if_true, if_false, Bool.false_eq_true, reduceIte, Int.reduceLT, Int.reduceLE, Int.reduceToNat, Int.reducePow, Int.reduceNeg, Int.reduceAdd, Int.reduceSub, Int.reduceMul, Nat.reduceAdd, Int.reduceEq, List.replicate, Nat.reduceSub, and_self, and_true, true_and, $ls,*] $[$loc]?)

/-! ### the laws' pens -/
/-- a pen from which n numbers at most were drawn -/
def PenOk (n : Nat) (p : D) : Prop := ∃ a b c : Int, p = .lst [.int a, .int b, .int c] ∧ 0 ≤ c ∧ c ≤ n
theorem PenOk.mono {n m : Nat} {p : D} (h : PenOk n p) (e : n ≤ m) : PenOk m p := by
  obtain ⟨a, b, c, h1, h2, h3⟩ := h
  exact ⟨a, b, c, h1, h2, by omega⟩
def bDraw : XS := (xSeq (xSetIx 0 (xC (.int 2)) (xOp2 dAdd (xIxO 0 (xC (.int 2))) (xC (.int 1))))
    (xSeq (xIfS (xTest (xOp2 (dCmp fun i j => decide (j < i)) (xIxO 0 (xC (.int 0))) (xC (.int 0))))
    (xSeq (xSet 2 (xOp2 dMod (xIxO 0 (xC (.int 0))) (xVar 1)))
    (xSeq (xSetIx 0 (xC (.int 0)) (xOp2 dDiv (xIxO 0 (xC (.int 0))) (xVar 1)))
    (xRet (xVar 2))))
    xNext)
    (xSeq (xSet 3 (xOp2 dMod (xOp2 dAdd (xOp2 dAdd (xIxO 0 (xC (.int 1))) (xOp2 dMul (xC (.int 48271)) (xIxO 0 (xC (.int 2))))) (xC (.int 11))) (xC (.int 2147483629))))
    (xSeq (xSet 3 (xOp2 dAdd (xOp2 dMod (xOp2 dMul (xVar 3) (xVar 3)) (xC (.int 2147483587))) (xOp2 dMul (xC (.int 7919)) (xIxO 0 (xC (.int 2))))))
    (xSeq (xSet 3 (xOp2 dMod (xOp2 dMul (xVar 3) (xVar 3)) (xC (.int 2147483629))))
    (xRet (xOp2 dMod (xOp2 dDiv (xVar 3) (xC (.int 64))) (xVar 1))))))))
def fDraw : DF := runB [false] 4 false bDraw
theorem ix3 (n : Int) (h : 0 ≤ n ∧ n < 3) : ixN 3 n = some n.toNat := by
  unfold ixN
  rw [if_pos h.1, if_pos (by omega)]
theorem natAbs_lt {i : Int} {k : Nat} (h : -(2 ^ k) < i ∧ i < 2 ^ k) : i.natAbs < 2 ^ k := by
  have e : ((2 : Int) ^ k) = ((2 ^ k : Nat) : Int) := by rw [Int.natCast_pow]; rfl
  rw [e] at h
  omega
theorem draw_ex {n : Nat} {p : D} (h : PenOk n p) (hn : n < 2 ^ 60) {m : Int} (hm : 0 < m) (hm2 : m < 2 ^ 200) : ∃ r p', fDraw [p, .int m] = .ok (.int r) [p'] ∧ 0 ≤ r ∧ r < m ∧ PenOk (n + 1) p' := by
  obtain ⟨a, b, c, rfl, hc0, hc⟩ := h
  have hd : CDivW a m := CDivW.s a ⟨hm, hm2⟩
  unfold fDraw bDraw
  have i2 : ixN 3 2 = some 2 := ix3 2 ⟨by decide, by decide⟩
  have i0 : ixN 3 0 = some 0 := ix3 0 ⟨by decide, by decide⟩
  by_cases ha : 0 < a
  · simp! [i2, i0, hm, hd, ha]
    exact ⟨_, _, rfl, Int.emod_nonneg _ (by omega), Int.emod_lt_of_pos _ hm, ⟨_, _, _, rfl, by omega, by omega⟩⟩
  · have m1 : CMulA 48271 (c + 1) := CMulA.l _ ⟨by decide, by decide⟩
    have m2 : CMulA 7919 (c + 1) := CMulA.l _ ⟨by decide, by decide⟩
    have d1 : ∀ x : Int, CDivW x 64 := fun x => CDivW.s x ⟨by decide, by decide⟩
    generalize hx : (b + 48271 * (c + 1) + 11) % 2147483629 = x at *
    have hx0 : 0 ≤ x := by rw [← hx]; exact Int.emod_nonneg _ (by decide)
    have hx1 : x < 2147483629 := by rw [← hx]; exact Int.emod_lt_of_pos _ (by decide)
    have m3 : CMulA x x := CMulA.l _ ⟨by omega, by omega⟩
    generalize hy : x * x % 2147483587 + 7919 * (c + 1) = y at *
    have hy0 : 0 ≤ x * x % 2147483587 := Int.emod_nonneg _ (by decide)
    have hy1 : x * x % 2147483587 < 2147483587 := Int.emod_lt_of_pos _ (by decide)
    have m4 : CMulA y y := by
      have q : y.natAbs < 2 ^ 100 := natAbs_lt (k := 100) ⟨by omega, by omega⟩
      exact .inr (wide_mul q q (by decide) (by decide) (by decide))
    simp! [i2, i0, hm, d1, ha, slot0, m1, m2, hx, m3, hy, m4]
    exact ⟨_, _, rfl, Int.emod_nonneg _ (by omega), Int.emod_lt_of_pos _ hm, ⟨_, _, _, rfl, by omega, by omega⟩⟩
def bPen : XS := (xSeq (xSet 2 (xOp2 dAdd (xOp2 dMul (xC (.int 7919)) (xVar 1)) (xC (.int 5))))
    (xSeq (xIfS (xTest (xOp2 dLt (xVar 1) (xOpL dLen (xCons (xVar 0) xNil))))
    (xSet 2 (xOp2 dIx (xVar 0) (xVar 1)))
    (xIfS (xTest (xOp2 (dCmp fun i j => decide (j < i)) (xOpL dLen (xCons (xVar 0) xNil)) (xC (.int 0))))
    (xSet 2 (xOp2 dAdd (xOp2 dMod (xOp2 dIx (xVar 0) (xOp2 dMod (xVar 1) (xOpL dLen (xCons (xVar 0) xNil)))) (xC (.int 2147483629))) (xOp2 dMul (xC (.int 48271)) (xVar 1))))
    xNext))
    (xSeq (xIfS (xTest (xOp2 (dCmp fun i j => decide (j ≤ i)) (xVar 2) (xOp2 dPow (xC (.int 10)) (xC (.int 18)))))
    (xRet (xOpL dLst (xCons (xOp2 dSub (xVar 2) (xOp2 dPow (xC (.int 10)) (xC (.int 18)))) (xCons (xOp2 dMod (xVar 2) (xC (.int 2147483587))) (xCons (xC (.int 0)) xNil)))))
    xNext)
    (xRet (xOpL dLst (xCons (xC (.int 0)) (xCons (xOp2 dMod (xVar 2) (xC (.int 2147483587))) (xCons (xC (.int 0)) xNil))))))))
def fPen : DF := runP [false, false] 3 true bPen
theorem atI_get_int {ns : List Int} {j : Int} (h0 : 0 ≤ j) (h1 : j < ns.length) : ∃ v : Int, atI (ns.map D.int) j = some (.int v) := by
  obtain ⟨k, rfl⟩ := Int.eq_ofNat_of_zero_le h0
  have hk : k < ns.length := by omega
  refine ⟨ns[k], atI_nat ?_⟩
  rw [List.getElem?_map, List.getElem?_eq_getElem hk]
  rfl
theorem cpow10 {j : Int} (h : 0 ≤ j ∧ j ≤ 1000) : CPow 10 j := ⟨h.1, by omega, by decide⟩
theorem pen_ex (ns : List Int) (k : Nat) : ∃ p, fPen [.fix (ns.map D.int), .int (k : Nat)] = .ok p [] ∧ PenOk 0 p := by
  unfold fPen bPen
  have m0 : CMulA 7919 (k : Int) := CMulA.l _ ⟨by decide, by decide⟩
  have m1 : CMulA 48271 (k : Int) := CMulA.l _ ⟨by decide, by decide⟩
  have c1 : CPow 10 18 := cpow10 ⟨by decide, by decide⟩
  have fin : ∀ x : Int, ∃ p, endP true ((xSeq (xIfS (xTest (xOp2 (dCmp fun i j => decide (j ≤ i)) (xVar 2) (xOp2 dPow (xC (.int 10)) (xC (.int 18)))))
    (xRet (xOpL dLst (xCons (xOp2 dSub (xVar 2) (xOp2 dPow (xC (.int 10)) (xC (.int 18)))) (xCons (xOp2 dMod (xVar 2) (xC (.int 2147483587))) (xCons (xC (.int 0)) xNil)))))
    xNext)
    (xRet (xOpL dLst (xCons (xC (.int 0)) (xCons (xOp2 dMod (xVar 2) (xC (.int 2147483587))) (xCons (xC (.int 0)) xNil)))))) [.val (.fix (ns.map D.int)), .val (.int (k : Nat)), .val (.int x)]) = .ok p [] ∧ PenOk 0 p := fun x => by
    by_cases hx : (10 : Int) ^ 18 ≤ x
    · have hx' : (1000000000000000000 : Int) ≤ x := by simpa using hx
      simp! [c1, hx']
      exact ⟨_, rfl, ⟨_, _, _, rfl, by omega, by omega⟩⟩
    · have hx' : ¬ (1000000000000000000 : Int) ≤ x := by simpa using hx
      simp! [c1, hx']
      exact ⟨_, rfl, ⟨_, _, _, rfl, by omega, by omega⟩⟩
  have hl : (ns.map D.int).length = ns.length := List.length_map _
  by_cases h1 : (k : Int) < (ns.length : Int)
  · obtain ⟨v, hv⟩ := atI_get_int (ns := ns) (j := k) (by omega) h1
    simp! [m0, hl, h1, hv]
    exact fin v
  · by_cases h2 : (0 : Int) < (ns.length : Int)
    · obtain ⟨v, hv⟩ := atI_get_int (ns := ns) (j := (k : Int) % (ns.length : Int)) (Int.emod_nonneg _ (by omega)) (Int.emod_lt_of_pos _ h2)
      simp! [m0, m1, hl, h1, h2, hv]
      exact fin _
    · simp! [m0, hl, h1, h2]
      exact fin _
end G

namespace G
open PySem PySem.Spec PyProof.Rows L2

/-! ### built-ins of things that are lent -/
def ImpLr (K : PySem.W.Frag) (f : List D → Option D) (r : List V → Hp → VK → Prop) : Prop := ∀ F H md vs ds d Q, Same F H → RaL K F H (fun _ => False) md vs ds → f ds = some d → OutV K F H d Q → r vs H Q
def ImpLrN (K : PySem.W.Frag) (f : List D → Option D) (r : List V → Hp → VK → Prop) : Prop := ∀ F H md vs ds d Q, Same F H → RaL K F H (fun _ => False) md vs ds → f ds = some d → OutN K F H d Q → r vs H Q
section
variable {X : Cx} {E : EW} {pos : Pos}
theorem xe_callBr {ban : Nat} {md : List Bool} {id : String} {x : Str} {p : Pos} {e : Expr} {es : List Expr} {t : XA} {f : List D → Option D} {r : List V → Hp → VK → Prop} (hc : CallR X (.builtin id) r) (hi : ImpLr X.K f r) (hg : Gl X x) (hm : X.mg x = none) (hv : bootBuiltins x = some (.builtin id)) (ha : PA X (e :: es) (lM X.K E ban md t)) (hn : x ≠ "__name__" := by decide) (hdb : (x == ("__debug__" : Str)) = false := by decide)
    (he : starEach (e :: es) X.env = (false, eval e X.env) :: starEach es X.env := by rfl) (hpl : (backTo pos (starEach es X.env)).any (·.1) = false := by rfl) : PE X (.Call (.Name x p) (e :: es) [] pos) (lE X.K E (xOpL f t)) := by
  refine pe_imp (pe_callB hc hg hm hv ha hn hdb he hpl) fun σ H Q h => ?_
  obtain ⟨F, ρ, r, p⟩ := h
  refine ⟨F, ρ, r, (Pend.bind r p).mono fun xs ρ1 F1 H1 g1 q vs rs => ?_⟩
  obtain ⟨d, e, q⟩ := q.lift
  exact hi F1 H1 md vs xs d Q g1.rel.ex (rs.ral g1.rel) e (outV_of g1.rel q)
theorem xn_callBr {ban : Nat} {md : List Bool} {id : String} {x : Str} {p : Pos} {e : Expr} {es : List Expr} {t : XA} {f : List D → Option D} {r : List V → Hp → VK → Prop} (hc : CallR X (.builtin id) r) (hi : ImpLrN X.K f r) (hg : Gl X x) (hm : X.mg x = none) (hv : bootBuiltins x = some (.builtin id)) (ha : PA X (e :: es) (lM X.K E ban md t)) (hn : x ≠ "__name__" := by decide) (hdb : (x == ("__debug__" : Str)) = false := by decide)
    (he : starEach (e :: es) X.env = (false, eval e X.env) :: starEach es X.env := by rfl) (hpl : (backTo pos (starEach es X.env)).any (·.1) = false := by rfl) : PE X (.Call (.Name x p) (e :: es) [] pos) (lN X.K E (xOpL f t)) := by
  refine pe_imp (pe_callB hc hg hm hv ha hn hdb he hpl) fun σ H Q h => ?_
  obtain ⟨F, ρ, r, p⟩ := h
  refine ⟨F, ρ, r, (Pend.bind r p).mono fun xs ρ1 F1 H1 g1 q vs rs => ?_⟩
  obtain ⟨d, e, q⟩ := q.lift
  exact hi F1 H1 md vs xs d Q g1.rel.ex (rs.ral g1.rel) e (outN_of r g1 q)
theorem xe_callTr {ban : Nat} {md : List Bool} {T : String} {x : Str} {p : Pos} {e : Expr} {es : List Expr} {t : XA} {f : List D → Option D} {r : List V → Hp → VK → Prop} (hc : CallR X (.type T) r) (hi : ImpLr X.K f r) (hg : Gl X x) (hm : X.mg x = none) (hv : bootBuiltins x = some (.type T)) (ha : PA X (e :: es) (lM X.K E ban md t)) (hn : x ≠ "__name__" := by decide) (hdb : (x == ("__debug__" : Str)) = false := by decide)
    (he : starEach (e :: es) X.env = (false, eval e X.env) :: starEach es X.env := by rfl) (hpl : (backTo pos (starEach es X.env)).any (·.1) = false := by rfl) : PE X (.Call (.Name x p) (e :: es) [] pos) (lE X.K E (xOpL f t)) := by
  refine pe_imp (pe_callTy hc hg hm hv ha hn hdb he hpl) fun σ H Q h => ?_
  obtain ⟨F, ρ, r, p⟩ := h
  refine ⟨F, ρ, r, (Pend.bind r p).mono fun xs ρ1 F1 H1 g1 q vs rs => ?_⟩
  obtain ⟨d, e, q⟩ := q.lift
  exact hi F1 H1 md vs xs d Q g1.rel.ex (rs.ral g1.rel) e (outV_of g1.rel q)
theorem xn_callTr {ban : Nat} {md : List Bool} {T : String} {x : Str} {p : Pos} {e : Expr} {es : List Expr} {t : XA} {f : List D → Option D} {r : List V → Hp → VK → Prop} (hc : CallR X (.type T) r) (hi : ImpLrN X.K f r) (hg : Gl X x) (hm : X.mg x = none) (hv : bootBuiltins x = some (.type T)) (ha : PA X (e :: es) (lM X.K E ban md t)) (hn : x ≠ "__name__" := by decide) (hdb : (x == ("__debug__" : Str)) = false := by decide)
    (he : starEach (e :: es) X.env = (false, eval e X.env) :: starEach es X.env := by rfl) (hpl : (backTo pos (starEach es X.env)).any (·.1) = false := by rfl) : PE X (.Call (.Name x p) (e :: es) [] pos) (lN X.K E (xOpL f t)) := by
  refine pe_imp (pe_callTy hc hg hm hv ha hn hdb he hpl) fun σ H Q h => ?_
  obtain ⟨F, ρ, r, p⟩ := h
  refine ⟨F, ρ, r, (Pend.bind r p).mono fun xs ρ1 F1 H1 g1 q vs rs => ?_⟩
  obtain ⟨d, e, q⟩ := q.lift
  exact hi F1 H1 md vs xs d Q g1.rel.ex (rs.ral g1.rel) e (outN_of r g1 q)
end
/-! tests of things that are lent -/
section
variable {X : Cx} {E : EW} {a b : Expr} {pos : Pos} {ta tb : XV}
theorem xt_cmpO {op : CmpOp} {f : D → D → Option D} {r : R2} {i : Nat} {x : Str} {xp : Pos} (ho : OpR X (compareOp op) r) (hi : Imp2 X.K f r) (ha : PE X a (lE X.K E ta)) (hb : PE X (.Name x xp) (tVar i)) (hm : behindInMarks op (.Name x xp) = false) : PT X (.Compare a [op] [.Name x xp] pos) (lT X.K E (xTest (xCmpO f ta i))) := by
  refine pt_imp (pt_cmpR ho ha hb hm) fun σ H Q h => ?_
  obtain ⟨F, ρ, r, p⟩ := h
  have p := Pend.bind r p
  refine ⟨F, ρ, r, (Pend.bind r p).mono fun d ρ1 F1 H1 g1 q v rv => ?_⟩
  unfold Pend at q
  cases e0 : rdD i ρ1 with
  | none => simp only [e0] at q
  | some y =>
    simp only [e0] at q
    cases e1 : dBl f d y with
    | none => simp only [e1] at q
    | some c =>
      simp only [e1] at q
      obtain ⟨w, h1, h2⟩ := g1.rel.rd e0
      obtain ⟨F2, s1, s2, rw, k⟩ := ra_peek g1.rel.ex h2
      refine ⟨w, h1, hi F2 H1 v w d y _ _ s2 (rv.mono s1) rw (dBl_of e1) (k c _ fun F' H' g => ?_)⟩
      have q := q F' H' (g.go g1.rel)
      exact ⟨c, rfl, q F' H' (Go.refl (g.go g1.rel).rel)⟩
theorem xt_cmpOL {op : CmpOp} {f : D → D → Option D} {r : R2} {i : Nat} {x : Str} {xp : Pos} (ho : OpR X (compareOp op) r) (hi : Imp2 X.K f r) (ha : PE X (.Name x xp) (tVar i)) (hb : PE X b (lE X.K E tb)) (hm : behindInMarks op b = false) : PT X (.Compare (.Name x xp) [op] [b] pos) (lT X.K E (xTest (xCmpOL f i tb))) := by
  refine pt_imp (pt_cmpR ho ha hb hm) fun σ H Q h => ?_
  obtain ⟨F, ρ, r, p⟩ := h
  have p := Pend.bind r p
  unfold xCmpOL at p
  cases e00 : rdD i ρ with
  | none => unfold Pend at p; simp only [e00] at p
  | some y0 =>
    obtain ⟨w, z1, _⟩ := r.rd e00
    have p' : Pend X.K E (fun ρ => (tb ρ).bind fun y ρ1 => match rdD i ρ1 with
      | some x => match dBl f x y with
        | some b => (Res.ok (D.bl b) ρ1 : Res D)
        | none => .bad
      | none => .bad) ρ σ F H fun (a : D) ρ1 F1 H1 => Pend X.K E (fun ρ1 => match a with | D.bl b => (.ok b ρ1 : Res Bool) | _ => .bad) ρ1 σ F1 H1 fun b _ _ H' => Q b H' := by
      unfold Pend at p ⊢
      simp only [e00] at p
      exact p
    refine ⟨w, z1, F, ρ, r, (Pend.bind r p').mono fun d ρ1 F1 H1 g1 q v rv => ?_⟩
    unfold Pend at q
    cases e0 : rdD i ρ1 with
    | none => simp only [e0] at q
    | some y =>
      simp only [e0] at q
      cases e1 : dBl f y d with
      | none => simp only [e1] at q
      | some c =>
        simp only [e1] at q
        obtain ⟨w2, h1, h2⟩ := g1.rel.rd e0
        rw [z1] at h1
        cases h1
        obtain ⟨F2, s1, s2, rw, k⟩ := ra_peek g1.rel.ex h2
        refine hi F2 H1 w v y d _ _ s2 rw (rv.mono s1) (dBl_of e1) (k c _ fun F' H' g => ?_)
        have q := q F' H' (g.go g1.rel)
        exact ⟨c, rfl, q F' H' (Go.refl (g.go g1.rel).rel)⟩
end
/-- a scalar answer does not ask whether the things are frozen -/
theorem ral_peek {K : PySem.W.Frag} {F H : Hp} {no : Addr → Prop} (e : Same F H) : ∀ {md : List Bool} {vs : List V} {ds : List D}, RaL K F H no md vs ds → ∃ F2, Same F F2 ∧ Same F2 H ∧ RpAll K F2 vs ds
  | _, _, _, .nil => ⟨F, Same.refl F, e, .nil⟩
  | _, _, _, .val a b => by
    obtain ⟨F2, h1, h2, h3⟩ := ral_peek e b
    exact ⟨F2, h1, h2, .cons (a.mono h1) h3⟩
  | _, _, _, .rd (.val a _) _ b => by
    obtain ⟨F2, h1, h2, h3⟩ := ral_peek e b
    exact ⟨F2, h1, h2, .cons (a.mono h1) h3⟩
  | _, _, _, .rd (.own (p := p) (o := o) f1 hh ro) _ b => by
    obtain ⟨F2, h1, h2, h3⟩ := ral_peek e b
    cases q : F2 p with
    | none =>
      have hs : Same F2 (upd F2 p o) := fun b' u z => by rw [upd_ne (ne_of_none z q)]; exact z
      exact ⟨upd F2 p o, h1.trans hs, same_frz h2 hh, .cons (ro_rp q (ro.mono h1)) (h3.mono hs)⟩
    | some u =>
      have := h2 p u q
      rw [hh] at this
      cases this
      refine ⟨F2, h1, h2, .cons ?_ h3⟩
      cases ro with
      | lst r => exact .lst q (r.mono h1)
      | dicK k r => exact .dicK q k (r.mono h1)
      | dicT k r => exact .dicT q k (r.mono h1)
      | dicN k r q2 => exact .dicN q k (r.mono h1) (q2.mono h1)
def scal (f : List D → Option D) (ds : List D) : Option D := match f ds with
  | some (.bl b) => some (.bl b)
  | some (.int i) => some (.int i)
  | _ => none
theorem ImpL.scal {K : PySem.W.Frag} {f : List D → Option D} {r : List V → Hp → VK → Prop} (hi : ImpL K f r) : ImpLr K (scal f) r := fun F H md vs ds d Q ex ra e o => by
  obtain ⟨F2, h1, h2, h3⟩ := ral_peek ex ra
  have gr : ∀ {F' H'}, Gr F2 H F' H' → Gr F H F H' := fun {F' H'} g => ⟨Same.refl F, g.exH, fun b u q => g.exH b u (ex b u q), fun _ _ _ _ h2 => h2⟩
  unfold G.scal at e
  split at e
  · rename_i b e1
    cases e
    exact hi F2 H vs ds _ Q h2 h3 e1 fun v F' H' g rv => by cases rv; exact o _ F H' (gr g) (.bl _)
  · rename_i b e1
    cases e
    exact hi F2 H vs ds _ Q h2 h3 e1 fun v F' H' g rv => by cases rv; exact o _ F H' (gr g) (.int _)
  · cases e
theorem dItL_ofR {x : D} {ds : List D} {K : PySem.W.Frag} {F H : Hp} {v : V} (ex : Same F H) (h : dItL x = some ds) (r : Ra K F H v x) : ∃ a xs, v = .ref a ∧ SqL K H a xs ∧ RpAll K F xs ds := by
  cases r with
  | val r _ => cases r with
    | lst hf ra => cases h; exact ⟨_, _, rfl, SqL.of (ex _ _ hf), ra⟩
    | fix hf ra => cases h; exact ⟨_, _, rfl, ex.seq hf, ra⟩
    | non => cases h
    | bl _ => cases h
    | int _ => cases h
    | str _ => cases h
    | ty _ => cases h
    | tup _ _ => cases h
    | dicK _ _ _ => cases h
    | dicT _ _ _ => cases h
    | dicN _ _ _ _ => cases h
  | own f1 h1 ro => cases ro with
    | lst r => cases h; exact ⟨_, _, rfl, SqL.of h1, r⟩
    | dicK _ _ => cases h
    | dicT _ _ => cases h
    | dicN _ _ => cases h

theorem hu200 {k : Nat} {A : Around} (r : Room k A) : A.units + 200 < cLine := by have := r.un; omega
theorem ral1 {K : PySem.W.Frag} {F H : Hp} {no : Addr → Prop} {md : List Bool} {vs : List V} {x : D} (h : RaL K F H no md vs [x]) : ∃ v, vs = [v] ∧ (Rp K F v x ∨ ∃ p o, v = .ref p ∧ F p = none ∧ H p = some o ∧ Ro K F p o x) := by
  cases h with
  | val a b => cases b; exact ⟨_, rfl, .inl a⟩
  | rd a _ b =>
    cases b
    cases a with
    | val r _ => exact ⟨_, rfl, .inl r⟩
    | own f1 h1 ro => exact ⟨_, rfl, .inr ⟨_, _, rfl, f1, h1, ro⟩⟩
theorem imp_listR {K : PySem.W.Frag} : ImpLrN K dList (fun xs H Q => ∃ p ys, xs = [.ref p] ∧ (SqL K H p ys ∨ SqT K H p ys) ∧ ∀ l, H l = none → Q (.ref l) (upd H l (.lst ys))) := fun F H md vs ds d Q ex ra e o => by
  have e0 := e
  unfold dList at e
  split at e
  · obtain ⟨v, rfl, z | ⟨p, u, rfl, f1, h1, ro⟩⟩ := ral1 ra
    · exact imp_list F H [v] _ d Q ex (.cons z .nil) e0 o
    · cases ro with
      | lst r => cases e; exact ⟨_, _, rfl, .inl (SqL.of h1), fun l hl => o.new ex hl (.lst r)⟩
  · obtain ⟨v, rfl, z | ⟨p, u, rfl, f1, h1, ro⟩⟩ := ral1 ra
    · exact imp_list F H [v] _ d Q ex (.cons z .nil) e0 o
    · cases ro
  · obtain ⟨v, rfl, z | ⟨p, u, rfl, f1, h1, ro⟩⟩ := ral1 ra
    · exact imp_list F H [v] _ d Q ex (.cons z .nil) e0 o
    · cases ro
  · cases e
theorem imp_tupleR {K : PySem.W.Frag} : ImpLr K dTuple (fun xs H Q => ∃ p ys, xs = [.ref p] ∧ ((SqL K H p ys ∧ ∀ l, H l = none → Q (.ref l) (upd H l (.tup ys))) ∨ (SqT K H p ys ∧ Q (.ref p) H))) := fun F H md vs ds d Q ex ra e o => by
  have e0 := e
  unfold dTuple at e
  split at e
  · obtain ⟨v, rfl, z | ⟨p, u, rfl, f1, h1, ro⟩⟩ := ral1 ra
    · exact imp_tuple F H [v] _ d Q ex (.cons z .nil) e0 o
    · cases ro with
      | lst r => cases e; exact ⟨_, _, rfl, .inl ⟨SqL.of h1, fun l hl => o.new ex hl (.tup upd_same (r.mono (Gr.new (o := .tup _) ex hl).ex))⟩⟩
  · obtain ⟨v, rfl, z | ⟨p, u, rfl, f1, h1, ro⟩⟩ := ral1 ra
    · exact imp_tuple F H [v] _ d Q ex (.cons z .nil) e0 o
    · cases ro
  · obtain ⟨v, rfl, z | ⟨p, u, rfl, f1, h1, ro⟩⟩ := ral1 ra
    · exact imp_tuple F H [v] _ d Q ex (.cons z .nil) e0 o
    · cases ro
  · cases e

/-! ### sorted, of any data that can be compared -/
def pyOf (d : D) : PyData := (toPy d).getD .none
def insB {α : Type} (le : α → α → Bool) (a : α) : List α → List α
  | [] => [a]
  | b :: l => if le a b = true then a :: b :: l else b :: insB le a l
def isortB {α : Type} (le : α → α → Bool) : List α → List α
  | [] => []
  | a :: l => insB le a (isortB le l)
theorem insB_at {α : Type} {le : α → α → Bool} {a : α} : ∀ {l m : List α}, (∀ b ∈ l, le a b = false) → (∀ b ∈ m, le a b = true) → insB le a (l ++ m) = l ++ a :: m
  | [], [], _, _ => rfl
  | [], b :: m, _, h => by
    show (if le a b = true then a :: b :: m else _) = _
    rw [if_pos (h b (List.mem_cons_self ..))]
    rfl
  | b :: l, m, h1, h2 => by
    show (if le a b = true then _ else b :: insB le a (l ++ m)) = _
    rw [if_neg (by rw [h1 b (List.mem_cons_self ..)]; decide), insB_at (fun c hc => h1 c (List.mem_cons_of_mem _ hc)) h2]
    rfl
theorem isortB_eq {α : Type} {le : α → α → Bool} (h : PySem.W.TotalLe le) : ∀ l : List α, l.mergeSort le = isortB le l
  | [] => List.mergeSort_nil
  | a :: l => by
    obtain ⟨l₁, l₂, e1, e2, e3⟩ := List.mergeSort_cons (le := le) (fun a b c h1 h2 => h.trans a b c h1 h2) (fun a b => Bool.or_eq_true_iff.mpr (h.total a b)) a l
    have pw := PySem.W.sort_pairwise h (a :: l)
    rw [e1] at pw
    rw [e1]
    show _ = insB le a (isortB le l)
    rw [← isortB_eq h l, e2]
    exact (insB_at (fun b hb => by simpa using e3 b hb) fun b hb => (List.pairwise_cons.mp (List.pairwise_append.mp pw).2.1).1 b hb).symm
theorem leD_total {β : Type} (k : β → PyData) : PySem.W.TotalLe (PySem.W.dataLe false k) := PySem.W.sortLe_total _ _ _
def leD (a b : D) : Bool := !PySem.W.dataLt (pyOf b) (pyOf a)
theorem leD_eq : leD = PySem.W.dataLe false pyOf := rfl
def sortD (ds : List D) : List D := isortB leD ds
theorem sortD_eq (ds : List D) : sortD ds = ds.mergeSort (PySem.W.dataLe false pyOf) := (isortB_eq (leD_total _) ds).symm
def isTupC : PyData → Bool
  | .tuple (_ :: _) => true
  | _ => false
def isOne : PyData → Bool
  | .none => false
  | .tuple _ => false
  | _ => true
def sortOk (xs : List PyData) : Bool := (xs.all fun x => xs.all fun y => PySem.W.alike x y) && (xs.all isTupC || xs.all isOne) && xs.all fun x => decide (x.depth ≤ 64)
theorem sortOk_of {xs : List PyData} (h : sortOk xs = true) : PySem.W.AllAlike xs ∧ PySem.W.Sortable xs ∧ ∀ d ∈ xs, d.depth ≤ 64 := by
  unfold sortOk at h
  simp only [Bool.and_eq_true, Bool.or_eq_true, List.all_eq_true, decide_eq_true_eq] at h
  obtain ⟨⟨h1, h2⟩, h3⟩ := h
  refine ⟨h1, ?_, h3⟩
  rcases h2 with h2 | h2
  · refine .inl fun d hd => ?_
    have := h2 d hd
    unfold isTupC at this
    split at this
    · exact ⟨_, _, rfl⟩
    · cases this
  · refine .inr fun d hd => ?_
    have := h2 d hd
    refine ⟨fun e => ?_, fun xs e => ?_⟩
    · subst e; cases this
    · subst e; cases this
def rSortD (K : PySem.W.Frag) : List V → Hp → VK → Prop := fun vs H Q => ∃ (a : Addr) (xs : List V) (ds : List PyData) (bs : List (V × D)), vs = [V.ref a] ∧ SqL K H a xs ∧ DpAll K H xs ds ∧ sortOk ds = true ∧ bs.map (·.1) = xs ∧ bs.map (fun b => pyOf b.2) = ds ∧
  ∀ p, H p = none → Q (.ref p) (upd H p (.lst ((bs.mergeSort (PySem.W.dataLe false fun b => pyOf b.2)).map (·.1))))
theorem each_of_vals {xs : List V} {us : List Value} : ∀ {bs : List (V × D)}, bs.map (·.1) = xs → Vals xs us → PySem.W.EachIs (fun (u : Value) (b : V × D) => RelV b.1 u) us bs := by
  intro bs
  induction bs generalizing xs us with
  | nil => intro e r; subst e; cases r; exact .nil
  | cons b bs ih => intro e r; subst e; cases r with | cons r1 r2 => exact .cons r1 (ih rfl r2)
theorem vals_of_each {us : List Value} {bs : List (V × D)} (h : PySem.W.EachIs (fun (u : Value) (b : V × D) => RelV b.1 u) us bs) : Vals (bs.map (·.1)) us := by
  induction h with
  | nil => exact .nil
  | cons h _ ih => exact .cons h ih
theorem each_reads {h : Heap} : ∀ {us : List Value} {ds : List PyData} {as : List Addr}, ReadsAll h us ds as → PySem.W.EachIs (fun v d => ∃ as, Reads h v d as) us ds
  | _, _, _, .nil => .nil
  | _, _, _, .cons r1 r2 => .cons ⟨_, r1⟩ (each_reads r2)
theorem readsAll_keeps {h h' : Heap} (k : ∀ b o, h.get? b = some o → h'.get? b = some o) : ∀ {us : List Value} {ds : List PyData} {as : List Addr}, ReadsAll h us ds as → ReadsAll h' us ds as
  | _, _, _, .nil => .nil
  | _, _, _, .cons r1 r2 => .cons (PySem.W.reads_keeps k r1) (readsAll_keeps k r2)
theorem cr_sortedD {X : Cx} (hu : X.A.units + 200 < cLine) : CallR X (.builtin "sorted") (rSortD X.K) := by
  intro pins s σ H vs us Q I r h
  obtain ⟨a, xs, ds, bs, rfl, hs, hd, hok, e1, e2, q⟩ := h
  obtain ⟨its, rv, hl, hz⟩ := I.list hs
  rw [Vals.ref1 r]
  obtain ⟨as, hr⟩ := Dp.readsAll I ds xs its hd rv
  obtain ⟨k1, k2, k3⟩ := sortOk_of hok
  have hz' : its.length ≤ sizeLine := by rw [← rv.length]; exact hz
  have hr2 := readsAll_keeps (h' := PySem.W.sortingHeap (PySem.W.copyHeap s.heap its) (s.heap.objs.size + 1) its) (fun b o e => PySem.W.sorting_copy_old e) hr
  have S := PySem.W.SortsAt.data (prog := X.prog) (w := X.w) (A := X.A.in1.in1) (s := { s with heap := PySem.W.sortingHeap (PySem.W.copyHeap s.heap its) (s.heap.objs.size + 1) its }) (each_reads hr2) k1 k2 (fun d hm => by
    have := k3 d hm
    show X.A.units + 1 + 1 + d.depth < cLine
    omega)
  refine PySem.W.sorted_vals hl.isList S hz' ?_
  have ko : PySem.W.KeyedOut false (bs.map fun b => pyOf b.2) its (PySem.W.sortVals (PySem.W.dataKind (PySem.W.sortingHeap (PySem.W.copyHeap s.heap its) (s.heap.objs.size + 1) its) ds) false its its) := by
    rw [e2]
    exact ⟨_, its, k1, rfl, each_reads hr2⟩
  have ev := PySem.W.keyedOut_each (fun b : V × D => pyOf b.2) ko (each_of_vals e1 rv)
  have vv := vals_of_each ev
  obtain ⟨ep, he'⟩ := PyProof.Rows.sortedAll_at s.heap its (PySem.W.sortVals (PySem.W.dataKind (PySem.W.sortingHeap (PySem.W.copyHeap s.heap its) (s.heap.objs.size + 1) its) ds) false its its).toArray
  have hlen : ((bs.mergeSort (PySem.W.dataLe false fun b => pyOf b.2)).map (·.1)).length ≤ sizeLine := by
    rw [List.length_map, (List.mergeSort_perm _ _).length_eq]
    have : bs.length = xs.length := by rw [← e1, List.length_map]
    omega
  exact ⟨.ref _, upd H (s.heap.objs.size + 1) (.lst ((bs.mergeSort (PySem.W.dataLe false fun b => pyOf b.2)).map (·.1))), I.laid (t' := s.toks) (fun _ _ => PyProof.Rows.sortedAll_old) (Nat.le_succ _) ⟨hlen, _, ep, vv, he'⟩, rfl, q _ (I.hok.fresh (Nat.le_succ _))⟩
def dSorted : List D → Option D
  | [x] => (dItL x).bind fun ds => (toPys ds).bind fun xs => if sortOk xs = true then some (.lst (sortD ds)) else none
  | _ => none
theorem zip_fst {α β : Type} : ∀ {l : List α} {m : List β}, l.length = m.length → (l.zip m).map (·.1) = l
  | [], [], _ => rfl
  | a :: l, b :: m, h => by rw [List.zip_cons_cons, List.map_cons, zip_fst (by simpa using h)]
  | [], _ :: _, h => by cases h
  | _ :: _, [], h => by cases h
theorem zip_snd {α β : Type} : ∀ {l : List α} {m : List β}, l.length = m.length → (l.zip m).map (·.2) = m
  | [], [], _ => rfl
  | a :: l, b :: m, h => by rw [List.zip_cons_cons, List.map_cons, zip_snd (by simpa using h)]
  | [], _ :: _, h => by cases h
  | _ :: _, [], h => by cases h
theorem toPys_pyOf : ∀ {ds : List D} {xs : List PyData}, toPys ds = some xs → ds.map pyOf = xs
  | [], _, h => by simp only [toPys] at h; cases h; rfl
  | d :: ds, _, h => by
    simp only [toPys] at h
    cases q1 : toPy d with
    | none => rw [q1] at h; cases h
    | some x =>
      cases q2 : toPys ds with
      | none => rw [q1, q2] at h; cases h
      | some xs =>
        rw [q1, q2] at h
        cases h
        rw [List.map_cons, toPys_pyOf q2]
        unfold pyOf
        rw [q1]
        rfl
theorem rpAll_zip {K : PySem.W.Frag} {F : Hp} : ∀ {vs : List V} {ds : List D}, RpAll K F vs ds → ∀ p ∈ vs.zip ds, Rp K F p.1 p.2
  | _, _, .nil, p, h => by cases h
  | _, _, .cons a b, p, h => by
    rw [List.zip_cons_cons] at h
    rcases List.mem_cons.mp h with rfl | h
    · exact a
    · exact rpAll_zip b p h
theorem rpAll_of {K : PySem.W.Frag} {F : Hp} : ∀ {l : List (V × D)}, (∀ p ∈ l, Rp K F p.1 p.2) → RpAll K F (l.map (·.1)) (l.map (·.2))
  | [], _ => .nil
  | p :: l, h => .cons (h p (List.mem_cons_self ..)) (rpAll_of fun q hq => h q (List.mem_cons_of_mem _ hq))
theorem sort_zip {K : PySem.W.Frag} {F : Hp} {vs : List V} {ds : List D} (r : RpAll K F vs ds) : RpAll K F (((vs.zip ds).mergeSort (PySem.W.dataLe false fun b => pyOf b.2)).map (·.1)) (sortD ds) := by
  have hl := r.length
  have e : sortD ds = ((vs.zip ds).mergeSort (PySem.W.dataLe false fun b => pyOf b.2)).map (·.2) := by
    rw [sortD_eq]
    rw [show (fun x : V × D => x.2) = Prod.snd from rfl, List.map_mergeSort (f := Prod.snd) (r := PySem.W.dataLe false fun b : V × D => pyOf b.2) (s := PySem.W.dataLe false pyOf) (l := vs.zip ds) (fun a _ b _ => rfl)]
    exact congrArg (fun l => List.mergeSort l (PySem.W.dataLe false pyOf)) (zip_snd hl).symm
  rw [e]
  exact rpAll_of fun p hp => rpAll_zip r p ((List.mergeSort_perm _ _).mem_iff.mp hp)
theorem dItL_of {x : D} {ds : List D} {K : PySem.W.Frag} {F : Hp} {v : V} (h : dItL x = some ds) (r : Rp K F v x) : ∃ a xs, v = .ref a ∧ SqL K F a xs ∧ RpAll K F xs ds := by
  cases r with
  | lst hf ra => cases h; exact ⟨_, _, rfl, SqL.of hf, ra⟩
  | fix hf ra => cases h; exact ⟨_, _, rfl, hf, ra⟩
  | non => cases h
  | bl _ => cases h
  | int _ => cases h
  | str _ => cases h
  | ty _ => cases h
  | tup _ _ => cases h
  | dicK _ _ _ => cases h
  | dicT _ _ _ => cases h
  | dicN _ _ _ _ => cases h
theorem dpAll_same {K : PySem.W.Frag} {H H' : Hp} (e : Same H H') : ∀ {vs : List V} {xs : List PyData}, DpAll K H vs xs → DpAll K H' vs xs
  | _, _, .nil => .nil
  | _, _, .cons a b => .cons (dp_same e a) (dpAll_same e b)
theorem dpAll_of {K : PySem.W.Frag} {F H : Hp} {ws : List V} {ys : List D} {xs : List PyData} (ex : Same F H) (rs : RpAll K F ws ys) (q2 : toPys ys = some xs) : DpAll K H ws xs := dpAll_same ex (rp_dps _ _ _ rs q2)
theorem imp_sortedR {K : PySem.W.Frag} : ImpLrN K dSorted (rSortD K) := fun F H md vs ds d Q ex ra e o => by
  unfold dSorted at e
  split at e
  · rename_i x
    cases q1 : dItL x with
    | none => rw [q1] at e; cases e
    | some ys =>
      rw [q1] at e
      simp only [Option.bind_some] at e
      cases q2 : toPys ys with
      | none => rw [q2] at e; cases e
      | some xs =>
        rw [q2] at e
        simp only [Option.bind_some] at e
        split at e
        · rename_i hok
          cases e
          have one : ∃ a ws, vs = [.ref a] ∧ SqL K H a ws ∧ RpAll K F ws ys := by
            cases ra with
            | val r1 r2 =>
              cases r2
              obtain ⟨a, ws, rfl, hs, rs⟩ := dItL_of q1 r1
              exact ⟨a, ws, rfl, ex.seq hs, rs⟩
            | rd r1 _ r2 =>
              cases r2
              obtain ⟨a, ws, rfl, hs, rs⟩ := dItL_ofR ex q1 r1
              exact ⟨a, ws, rfl, hs, rs⟩
          obtain ⟨a, ws, rfl, hs, rs⟩ := one
          have hl := rs.length
          refine ⟨a, ws, xs, ws.zip ys, rfl, hs, dpAll_of ex rs q2, hok, zip_fst hl, ?_, fun p hp => o.new ex hp (.lst (sort_zip rs))⟩
          have e3 := congrArg (List.map pyOf) (zip_snd hl)
          rw [List.map_map, toPys_pyOf q2] at e3
          exact e3
        · cases e
  · cases e
theorem imp_sorted {K : PySem.W.Frag} : ImpLN K dSorted (rSortD K) := fun F H vs ds d Q ex ra e o => by
  unfold dSorted at e
  split at e
  · rename_i x
    cases q1 : dItL x with
    | none => rw [q1] at e; cases e
    | some ys =>
      rw [q1] at e
      simp only [Option.bind_some] at e
      cases q2 : toPys ys with
      | none => rw [q2] at e; cases e
      | some xs =>
        rw [q2] at e
        simp only [Option.bind_some] at e
        split at e
        · rename_i hok
          cases e
          cases ra with
          | cons r1 r2 =>
            cases r2
            obtain ⟨a, ws, rfl, hs, rs⟩ := dItL_of q1 r1
            have hl := rs.length
            refine ⟨a, ws, xs, ws.zip ys, rfl, ex.seq hs, dpAll_same ex (rp_dps _ _ _ rs q2), hok, zip_fst hl, ?_, fun p hp => o.new ex hp (.lst (sort_zip rs))⟩
            have e3 := congrArg (List.map pyOf) (zip_snd hl)
            rw [List.map_map, toPys_pyOf q2] at e3
            exact e3
        · cases e
  · cases e
/-! ### all, any, sum, min, max -/
def dBools : List D → Option (List Bool)
  | [] => some []
  | .bl b :: r => (dBools r).map (b :: ·)
  | _ => none
theorem dBools_of : ∀ {ds : List D} {bs : List Bool}, dBools ds = some bs → ds = bs.map D.bl
  | [], bs, h => by cases h; rfl
  | .bl i :: r, bs, h => by
    unfold dBools at h
    cases q : dBools r with
    | none => rw [q] at h; cases h
    | some ms => rw [q] at h; cases h; rw [dBools_of q]; rfl
  | .non :: _, _, h => by cases h
  | .int _ :: _, _, h => by cases h
  | .str _ :: _, _, h => by cases h
  | .ty _ :: _, _, h => by cases h
  | .tup _ :: _, _, h => by cases h
  | .lst _ :: _, _, h => by cases h
  | .fix _ :: _, _, h => by cases h
  | .dicK _ _ :: _, _, h => by cases h
  | .dicT _ _ :: _, _, h => by cases h
theorem dBools_bl (bs : List Bool) : dBools (bs.map D.bl) = some bs := by
  induction bs with
  | nil => rfl
  | cons n ns ih => show (dBools (ns.map D.bl)).map (n :: ·) = _; rw [ih]; rfl
theorem RpAll.bls {K : PySem.W.Frag} {F : Hp} : ∀ {vs : List V} {ns : List Bool}, RpAll K F vs (ns.map D.bl) → vs = ns.map V.bl
  | _, [], .nil => rfl
  | _, _ :: _, .cons (.bl _) b => by rw [RpAll.bls b]; rfl
def dAll : List D → Option D
  | [x] => (dItL x).bind fun ds => (dBools ds).map fun bs => .bl (bs.all id)
  | _ => none
def dAny : List D → Option D
  | [x] => (dItL x).bind fun ds => (dBools ds).map fun bs => .bl (bs.any id)
  | _ => none
theorem imp_all {K : PySem.W.Frag} : ImpL K dAll (rAll K) := fun F H vs ds d Q ex ra e o => by
  unfold dAll at e
  split at e
  · rename_i x
    cases q1 : dItL x with
    | none => rw [q1] at e; cases e
    | some ys =>
      rw [q1] at e
      simp only [Option.bind_some] at e
      cases q2 : dBools ys with
      | none => rw [q2] at e; cases e
      | some bs =>
        rw [q2] at e
        cases e
        cases ra with
        | cons r1 r2 =>
          cases r2
          obtain ⟨a, ws, rfl, hs, rs⟩ := dItL_of q1 r1
          rw [dBools_of q2] at rs
          rw [rs.bls] at hs
          exact ⟨a, bs, rfl, ex.seq hs, o.here ex (.bl _)⟩
  · cases e
theorem imp_any {K : PySem.W.Frag} : ImpL K dAny (rAny K) := fun F H vs ds d Q ex ra e o => by
  unfold dAny at e
  split at e
  · rename_i x
    cases q1 : dItL x with
    | none => rw [q1] at e; cases e
    | some ys =>
      rw [q1] at e
      simp only [Option.bind_some] at e
      cases q2 : dBools ys with
      | none => rw [q2] at e; cases e
      | some bs =>
        rw [q2] at e
        cases e
        cases ra with
        | cons r1 r2 =>
          cases r2
          obtain ⟨a, ws, rfl, hs, rs⟩ := dItL_of q1 r1
          rw [dBools_of q2] at rs
          rw [rs.bls] at hs
          exact ⟨a, bs, rfl, ex.seq hs, o.here ex (.bl _)⟩
  · cases e
def dSum : List D → Option D
  | [x] => (dItL x).bind fun ds => (tupInts ds).map fun ns => .int ns.sum
  | _ => none
theorem imp_sum {K : PySem.W.Frag} : ImpL K dSum (rSum K) := fun F H vs ds d Q ex ra e o => by
  unfold dSum at e
  split at e
  · rename_i x
    cases q1 : dItL x with
    | none => rw [q1] at e; cases e
    | some ys =>
      rw [q1] at e
      simp only [Option.bind_some] at e
      cases q2 : tupInts ys with
      | none => rw [q2] at e; cases e
      | some bs =>
        rw [q2] at e
        cases e
        cases ra with
        | cons r1 r2 =>
          cases r2
          obtain ⟨a, ws, rfl, hs, rs⟩ := dItL_of q1 r1
          rw [tupInts_of q2] at rs
          rw [rs.ints] at hs
          exact ⟨a, bs, rfl, ex.seq hs, o.here ex (.int _)⟩
  · cases e
mutual
theorem toPy_inj : ∀ (a b : D) (x : PyData), toPy a = some x → toPy b = some x → a = b
  | .non, b, x, h1, h2 => by
    simp only [toPy, Option.some.injEq] at h1
    subst h1
    cases b <;> simp [toPy] at h2 <;> rfl
  | .bl _, b, x, h1, h2 => by
    simp only [toPy, Option.some.injEq] at h1
    subst h1
    cases b <;> simp [toPy] at h2
    rw [h2]
  | .int _, b, x, h1, h2 => by
    simp only [toPy, Option.some.injEq] at h1
    subst h1
    cases b <;> simp [toPy] at h2
    rw [h2]
  | .str _, b, x, h1, h2 => by
    simp only [toPy, Option.some.injEq] at h1
    subst h1
    cases b <;> simp [toPy] at h2
    rw [h2]
  | .tup ds, b, x, h1, h2 => by
    simp only [toPy, Option.map_eq_some_iff] at h1
    obtain ⟨xs, e, rfl⟩ := h1
    cases b <;> simp only [toPy, Option.map_eq_some_iff, reduceCtorEq, Option.some.injEq, PyData.tuple.injEq, and_false, exists_false, exists_eq_right] at h2
    rw [toPys_inj _ _ _ e h2]
  | .lst ds, b, x, h1, h2 => by
    simp only [toPy, Option.map_eq_some_iff] at h1
    obtain ⟨xs, e, rfl⟩ := h1
    cases b <;> simp only [toPy, Option.map_eq_some_iff, reduceCtorEq, Option.some.injEq, PyData.list.injEq, and_false, exists_false, exists_eq_right] at h2
    rw [toPys_inj _ _ _ e h2]
  | .ty _, _, _, h1, _ => by simp only [toPy] at h1; cases h1
  | .fix _, _, _, h1, _ => by simp only [toPy] at h1; cases h1
  | .dicK _ _, _, _, h1, _ => by simp only [toPy] at h1; cases h1
  | .dicT _ _, _, _, h1, _ => by simp only [toPy] at h1; cases h1
theorem toPys_inj : ∀ (a b : List D) (x : List PyData), toPys a = some x → toPys b = some x → a = b
  | [], b, x, h1, h2 => by
    simp only [toPys, Option.some.injEq] at h1
    subst h1
    cases b with
    | nil => rfl
    | cons d ds =>
      simp only [toPys] at h2
      split at h2 <;> cases h2
  | d :: ds, b, x, h1, h2 => by
    simp only [toPys] at h1
    cases q1 : toPy d with
    | none => rw [q1] at h1; cases h1
    | some y =>
      cases q2 : toPys ds with
      | none => rw [q1, q2] at h1; cases h1
      | some ys =>
        rw [q1, q2] at h1
        cases h1
        cases b with
        | nil => simp only [toPys] at h2; cases h2
        | cons e es =>
          simp only [toPys] at h2
          cases p1 : toPy e with
          | none => rw [p1] at h2; cases h2
          | some z =>
            cases p2 : toPys es with
            | none => rw [p1, p2] at h2; cases h2
            | some zs =>
              rw [p1, p2] at h2
              cases h2
              rw [toPy_inj d e y q1 p1, toPys_inj ds es ys q2 p2]
end
/-- the least, the greatest: of data that can be compared; the first of equal ones -/
def minDD (x : D) (xs : List D) : D := xs.foldl (fun a y => if PySem.W.dataLt (pyOf y) (pyOf a) = true then y else a) x
def maxDD (x : D) (xs : List D) : D := xs.foldl (fun a y => if PySem.W.dataLt (pyOf a) (pyOf y) = true then y else a) x
def minOk (xs : List PyData) : Bool := (xs.all fun x => xs.all fun y => PySem.W.alike x y) && (xs.all fun x => match x with | .none => false | _ => true) && decide (PyData.depthAll xs ≤ 64) && PyData.canLayAll0 xs
theorem minOk_of {xs : List PyData} (h : minOk xs = true) : PySem.W.AlikeAll xs ∧ PyData.depthAll xs ≤ 64 ∧ PyData.canLayAll0 xs = true := by
  unfold minOk at h
  simp only [Bool.and_eq_true, List.all_eq_true, decide_eq_true_eq] at h
  obtain ⟨⟨⟨h1, h2⟩, h3⟩, h4⟩ := h
  refine ⟨⟨h1, fun x hx e => ?_⟩, h3, h4⟩
  have := h2 x hx
  rw [e] at this
  cases this
theorem minDD_py : ∀ (xs : List D) (x : D), pyOf (minDD x xs) = PySem.W.minD (pyOf x) (xs.map pyOf)
  | [], x => rfl
  | y :: xs, x => by
    show pyOf (minDD (if PySem.W.dataLt (pyOf y) (pyOf x) = true then y else x) xs) = PySem.W.minD (if PySem.W.dataLt (pyOf y) (pyOf x) = true then pyOf y else pyOf x) (xs.map pyOf)
    rw [minDD_py xs]
    split <;> rfl
theorem maxDD_py : ∀ (xs : List D) (x : D), pyOf (maxDD x xs) = PySem.W.maxD (pyOf x) (xs.map pyOf)
  | [], x => rfl
  | y :: xs, x => by
    show pyOf (maxDD (if PySem.W.dataLt (pyOf x) (pyOf y) = true then y else x) xs) = PySem.W.maxD (if PySem.W.dataLt (pyOf x) (pyOf y) = true then pyOf y else pyOf x) (xs.map pyOf)
    rw [maxDD_py xs]
    split <;> rfl
theorem minDD_mem : ∀ (xs : List D) (x : D), minDD x xs ∈ x :: xs
  | [], x => List.mem_cons_self ..
  | y :: xs, x => by
    have := minDD_mem xs (if PySem.W.dataLt (pyOf y) (pyOf x) = true then y else x)
    show minDD (if PySem.W.dataLt (pyOf y) (pyOf x) = true then y else x) xs ∈ _
    rcases List.mem_cons.mp this with h | h
    · rw [h]
      split
      · exact List.mem_cons_of_mem _ (List.mem_cons_self ..)
      · exact List.mem_cons_self ..
    · exact List.mem_cons_of_mem _ (List.mem_cons_of_mem _ h)
theorem maxDD_mem : ∀ (xs : List D) (x : D), maxDD x xs ∈ x :: xs
  | [], x => List.mem_cons_self ..
  | y :: xs, x => by
    have := maxDD_mem xs (if PySem.W.dataLt (pyOf x) (pyOf y) = true then y else x)
    show maxDD (if PySem.W.dataLt (pyOf x) (pyOf y) = true then y else x) xs ∈ _
    rcases List.mem_cons.mp this with h | h
    · rw [h]
      split
      · exact List.mem_cons_of_mem _ (List.mem_cons_self ..)
      · exact List.mem_cons_self ..
    · exact List.mem_cons_of_mem _ (List.mem_cons_of_mem _ h)
theorem toPys_mem : ∀ {ds : List D} {xs : List PyData}, toPys ds = some xs → ∀ d ∈ ds, toPy d = some (pyOf d)
  | [], _, _, d, h => by cases h
  | e :: ds, _, h, d, hd => by
    simp only [toPys] at h
    cases q1 : toPy e with
    | none => rw [q1] at h; cases h
    | some x =>
      cases q2 : toPys ds with
      | none => rw [q1, q2] at h; cases h
      | some xs =>
        rcases List.mem_cons.mp hd with rfl | hd
        · unfold pyOf; rw [q1]; rfl
        · exact toPys_mem q2 d hd
/-- min(xs) of such a list: v stands in the list and reads as the least -/
def rBestD (K : PySem.W.Frag) (best : PyData → List PyData → PyData) : List V → Hp → VK → Prop := fun vs H Q => ∃ (a : Addr) (xs : List V) (x : PyData) (ds : List PyData), vs = [V.ref a] ∧ SqL K H a xs ∧ DpAll K H xs (x :: ds) ∧ minOk (x :: ds) = true ∧
  ∀ (i : Nat) v e, xs[i]? = some v → (x :: ds)[i]? = some e → e = best x ds → Q v H
theorem rel_back {v : V} {u : Value} (r : RelV v u) : absV u = some v := r.abs
theorem readsAll_get {h : Heap} : ∀ {us : List Value} {ds : List PyData} {as : List Addr} {i : Nat} {u : Value}, ReadsAll h us ds as → us[i]? = some u → ∃ d bs, ds[i]? = some d ∧ Reads h u d bs
  | _, _, _, _, _, .nil, e => by simp at e
  | _, _, _, 0, _, .cons r1 _, e => by simp at e; subst e; exact ⟨_, _, rfl, r1⟩
  | _, _, _, i + 1, _, .cons _ r2, e => by
    obtain ⟨d, bs, h1, h2⟩ := readsAll_get r2 (i := i) (by simpa using e)
    exact ⟨d, bs, by simpa using h1, h2⟩
theorem lay_get : ∀ {ds : List PyData} {i : Nat} {d : PyData}, PyData.canLayAll0 ds = true → ds[i]? = some d → d.canLay0 = true
  | [], _, _, _, e => by simp at e
  | x :: xs, 0, d, h, e => by
    simp at e; subst e
    simp only [PyData.canLayAll0, Bool.and_eq_true] at h
    exact h.1
  | x :: xs, i + 1, d, h, e => by
    simp only [PyData.canLayAll0, Bool.and_eq_true] at h
    exact lay_get h.2 (by simpa using e)
theorem vals_get' : ∀ {xs : List V} {us : List Value} {i : Nat} {u : Value}, Vals xs us → us[i]? = some u → ∃ x, xs[i]? = some x ∧ RelV x u
  | _, _, _, _, .nil, e => by simp at e
  | _, _, 0, _, .cons r _, e => by simp at e; subst e; exact ⟨_, rfl, r⟩
  | _, _, i + 1, u, .cons _ t, e => by
    obtain ⟨x, h1, h2⟩ := vals_get' t (i := i) (by simpa using e)
    exact ⟨x, by simpa using h1, h2⟩
theorem cr_minD {X : Cx} (hc : X.calm = true) (hu : X.A.units + 200 < cLine) : CallR X (.builtin "min") (rBestD X.K PySem.W.minD) := by
  intro pins s σ H vs us Q I r h
  obtain ⟨a, xs, x, ds, rfl, hs, hd, hok, q⟩ := h
  obtain ⟨its, rv, hl, hz⟩ := I.list hs
  rw [Vals.ref1 r]
  obtain ⟨as, hr⟩ := Dp.readsAll I _ xs its hd rv
  obtain ⟨k1, k2, k3⟩ := minOk_of hok
  refine PySem.W.min_list_data (I.ok.hd hc) hl.isList (by rw [List.toList_toArray] <;> exact hr) k1 (by omega) fun i v h' tk bs hv hrd kp => ?_
  have hv' : its[i]? = some v := by simpa using hv
  obtain ⟨u, hu1, hu2⟩ := vals_get' rv hv'
  obtain ⟨e, cs, he, hre⟩ := readsAll_get hr hv'
  refine ⟨u, H, I.kept kp, hu2, q i u e hu1 he ?_⟩
  exact PySem.SeqAt.Reads.unique _ _ _ _ _ (lay_get k3 he) (PySem.W.reads_keeps kp hre) hrd
theorem cr_maxD {X : Cx} (hc : X.calm = true) (hu : X.A.units + 200 < cLine) : CallR X (.builtin "max") (rBestD X.K PySem.W.maxD) := by
  intro pins s σ H vs us Q I r h
  obtain ⟨a, xs, x, ds, rfl, hs, hd, hok, q⟩ := h
  obtain ⟨its, rv, hl, hz⟩ := I.list hs
  rw [Vals.ref1 r]
  obtain ⟨as, hr⟩ := Dp.readsAll I _ xs its hd rv
  obtain ⟨k1, k2, k3⟩ := minOk_of hok
  refine PySem.W.max_list_data (I.ok.hd hc) hl.isList (by rw [List.toList_toArray] <;> exact hr) k1 (by omega) fun i v h' tk bs hv hrd kp => ?_
  have hv' : its[i]? = some v := by simpa using hv
  obtain ⟨u, hu1, hu2⟩ := vals_get' rv hv'
  obtain ⟨e, cs, he, hre⟩ := readsAll_get hr hv'
  refine ⟨u, H, I.kept kp, hu2, q i u e hu1 he ?_⟩
  exact PySem.SeqAt.Reads.unique _ _ _ _ _ (lay_get k3 he) (PySem.W.reads_keeps kp hre) hrd
def dBest (best : D → List D → D) : List D → Option D
  | [x] => (dItL x).bind fun ds => match ds with
    | [] => none
    | d :: r => (toPys (d :: r)).bind fun xs => if minOk xs = true then some (best d r) else none
  | _ => none
theorem imp_best {K : PySem.W.Frag} {best : D → List D → D} {bp : PyData → List PyData → PyData} (hm : ∀ xs x, best x xs ∈ x :: xs) (hp : ∀ xs x, pyOf (best x xs) = bp (pyOf x) (xs.map pyOf)) : ImpL K (dBest best) (rBestD K bp) := fun F H vs ds d Q ex ra e o => by
  unfold dBest at e
  split at e
  · rename_i x
    cases q1 : dItL x with
    | none => rw [q1] at e; cases e
    | some ys =>
      rw [q1] at e
      simp only [Option.bind_some] at e
      cases ys with
      | nil => cases e
      | cons y ys =>
        simp only at e
        cases q2 : toPys (y :: ys) with
        | none => rw [q2] at e; cases e
        | some xs =>
          rw [q2] at e
          simp only [Option.bind_some] at e
          split at e
          · rename_i hok
            cases e
            cases ra with
            | cons r1 r2 =>
              cases r2
              obtain ⟨a, ws, rfl, hs, rs⟩ := dItL_of q1 r1
              have e3 := toPys_pyOf q2
              rw [List.map_cons] at e3
              subst e3
              refine ⟨a, ws, _, _, rfl, ex.seq hs, dpAll_same ex (rp_dps _ _ _ rs q2), hok, fun i v e4 hv he4 ee => ?_⟩
              obtain ⟨d', hd', rv⟩ := rs.getV hv
              have hmem : d' ∈ y :: ys := List.mem_of_getElem? hd'
              have e5 : e4 = pyOf d' := by
                have : ((y :: ys).map pyOf)[i]? = some (pyOf d') := by rw [List.getElem?_map, hd']; rfl
                rw [List.map_cons, he4] at this
                exact Option.some.inj this
              have t1 := toPys_mem q2 d' hmem
              have t2 := toPys_mem q2 (best y ys) (hm ys y)
              have : d' = best y ys := toPy_inj _ _ _ t1 (by rw [t2, hp, ← ee, e5])
              subst this
              exact o.here ex rv
          · cases e
  · cases e
/-! ### < of data -/
def rLtDat (K : PySem.W.Frag) : R2 := fun x y H Q => ∃ d e, Dp K H x d ∧ Dp K H y e ∧ PySem.W.alike d e = true ∧ d ≠ .none ∧ d.depth ≤ 64 ∧ Q (.bl (PySem.W.dataLt d e)) H
theorem op_ltDat {X : Cx} (hu : X.A.units + 64 < cLine) : OpR X (compareOp .Lt) (rLtDat X.K) := by
  intro pins s σ H x y v u Q I rx ry h
  obtain ⟨d, e, hd, he, ha, hn, hp, q⟩ := h
  obtain ⟨as, r1⟩ := Dp.reads I d x v hd rx
  obtain ⟨bs, r2⟩ := Dp.reads I e y u he ry
  exact PySem.W.lt_data r1 r2 ha hn (by omega) ⟨.bl _, H, I, rfl, q⟩
end G

namespace G
open PySem PySem.Spec PyProof.Rows L2

/-! ### the plain side of sorting -/
section
variable {α : Type} {le : α → α → Bool}
theorem insB_perm (a : α) : ∀ l : List α, (insB le a l).Perm (a :: l)
  | [] => List.Perm.refl _
  | b :: l => by
    unfold insB
    split
    · exact List.Perm.refl _
    · exact ((insB_perm a l).cons b).trans (List.Perm.swap a b l)
theorem isortB_perm : ∀ l : List α, (isortB le l).Perm l
  | [] => List.Perm.refl _
  | a :: l => (insB_perm a _).trans ((isortB_perm l).cons a)
theorem isortB_pw (h : PySem.W.TotalLe le) (l : List α) : (isortB le l).Pairwise (fun a b => le a b = true) := by
  rw [← isortB_eq h]
  exact PySem.W.sort_pairwise h l
theorem isortB_of_pw (h : PySem.W.TotalLe le) : ∀ {l : List α}, l.Pairwise (fun a b => le a b = true) → isortB le l = l
  | [], _ => rfl
  | a :: l, hp => by
    obtain ⟨h1, h2⟩ := List.pairwise_cons.mp hp
    show insB le a (isortB le l) = a :: l
    rw [isortB_of_pw h h2]
    exact insB_at (l := []) (by simp) h1
theorem pw_unique (anti : ∀ a b, le a b = true → le b a = true → a = b) : ∀ {l m : List α}, l.Perm m → l.Pairwise (fun a b => le a b = true) → m.Pairwise (fun a b => le a b = true) → l = m
  | [], m, p, _, _ => (List.nil_perm.mp p).symm
  | a :: l, [], p, _, _ => by have := p.length_eq; simp at this
  | a :: l, b :: m, p, h1, h2 => by
    obtain ⟨k1, k2⟩ := List.pairwise_cons.mp h1
    obtain ⟨j1, j2⟩ := List.pairwise_cons.mp h2
    have e : a = b := by
      rcases List.mem_cons.mp (p.mem_iff.mp (List.mem_cons_self ..)) with e | e
      · exact e
      · rcases List.mem_cons.mp (p.mem_iff.mpr (List.mem_cons_self ..)) with e2 | e2
        · exact e2.symm
        · exact anti a b (k1 b e2) (j1 a e)
    subst e
    rw [pw_unique anti (List.perm_cons a |>.mp p) k2 j2]
theorem isortB_cong (h : PySem.W.TotalLe le) (anti : ∀ a b, le a b = true → le b a = true → a = b) {l m : List α} (p : l.Perm m) : isortB le l = isortB le m :=
  pw_unique anti ((isortB_perm l).trans (p.trans (isortB_perm m).symm)) (isortB_pw h l) (isortB_pw h m)
theorem insB_map {β : Type} {le2 : β → β → Bool} (f : β → α) (e : ∀ a b, le (f a) (f b) = le2 a b) (a : β) : ∀ l : List β, insB le (f a) (l.map f) = (insB le2 a l).map f
  | [] => rfl
  | b :: l => by
    show (if le (f a) (f b) = true then _ else _) = List.map f (if le2 a b = true then _ else _)
    rw [e, insB_map f e a l]
    split <;> rfl
theorem isortB_map {β : Type} {le2 : β → β → Bool} (f : β → α) (e : ∀ a b, le (f a) (f b) = le2 a b) : ∀ l : List β, isortB le (l.map f) = (isortB le2 l).map f
  | [] => rfl
  | a :: l => by
    show insB le (f a) (isortB le (l.map f)) = _
    rw [isortB_map f e l, insB_map f e a]
    rfl
end
/-- things that can be sorted -/
class EncS (α : Type) [Enc α] : Prop where
  ali : ∀ a b : α, PySem.W.alike (Enc.py a) (Enc.py b) = true
  srt : (∀ a : α, isTupC (Enc.py a) = true) ∨ ∀ a : α, isOne (Enc.py a) = true
section
variable {α : Type} [Enc α]
def leE (a b : α) : Bool := !PySem.W.dataLt (Enc.py b) (Enc.py a)
theorem pyOf_enc (a : α) : pyOf (Enc.enc a) = Enc.py a := by unfold pyOf; rw [Enc.to]; rfl
theorem leD_enc (a b : α) : leD (Enc.enc a) (Enc.enc b) = leE a b := by unfold leD leE; rw [pyOf_enc, pyOf_enc]
theorem leE_total : PySem.W.TotalLe (leE (α := α)) := leD_total (fun a : α => Enc.py a)
def sortE (l : List α) : List α := isortB leE l
theorem sortD_enc (l : List α) : sortD (l.map Enc.enc) = (sortE l).map Enc.enc := isortB_map _ leD_enc l
theorem sortE_perm (l : List α) : (sortE l).Perm l := isortB_perm l
theorem sortE_pw (l : List α) : (sortE l).Pairwise (fun a b => leE a b = true) := isortB_pw leE_total l
theorem sortE_of_pw {l : List α} (h : l.Pairwise (fun a b => leE a b = true)) : sortE l = l := isortB_of_pw leE_total h
theorem sortE_sortE (l : List α) : sortE (sortE l) = sortE l := sortE_of_pw (sortE_pw l)
theorem sortE_length (l : List α) : (sortE l).length = l.length := (sortE_perm l).length_eq
theorem mem_sortE {l : List α} {a : α} : a ∈ sortE l ↔ a ∈ l := (sortE_perm l).mem_iff
theorem leE_anti' (a b : α) (ali : PySem.W.alike (Enc.py a) (Enc.py b) = true) (h1 : leE a b = true) (h2 : leE b a = true) : a = b := by
  unfold leE at h1 h2
  rw [Bool.not_eq_true'] at h1 h2
  have e : PySem.W.keyToks (Enc.py a) = PySem.W.keyToks (Enc.py b) := (listOrd itemOrd).total _ _ h2 h1
  obtain ⟨_, k2⟩ := PySem.W.toks_eqv (Enc.py a) (Enc.py b) ali
  refine (Enc.eqv a b).mp ?_
  cases q : PyData.eqv (Enc.py a) (Enc.py b) with
  | true => rfl
  | false =>
    exfalso
    have := k2 q [] [Sum.inl 0]
    rw [e, List.append_nil] at this
    have i1 : PyProof.Rows.lexLt itemOrd (PySem.W.keyToks (Enc.py b)) (PySem.W.keyToks (Enc.py b)) = false := (listOrd itemOrd).irrefl _
    rw [i1] at this
    have i2 := PySem.W.lex_pre (PySem.W.keyToks (Enc.py b)) [] [Sum.inl 0]
    rw [List.append_nil, this] at i2
    cases i2
variable [EncS α]
theorem leE_anti (a b : α) (h1 : leE a b = true) (h2 : leE b a = true) : a = b := leE_anti' a b (EncS.ali a b) h1 h2
theorem sortE_cong {l m : List α} (p : l.Perm m) : sortE l = sortE m := isortB_cong leE_total leE_anti p
theorem sortOk_enc (h : Enc.dp α ≤ 64) (l : List α) : sortOk (l.map Enc.py) = true := by
  unfold sortOk
  simp only [Bool.and_eq_true, Bool.or_eq_true, List.all_eq_true, decide_eq_true_eq, List.mem_map, forall_exists_index, and_imp, forall_apply_eq_imp_iff₂]
  refine ⟨⟨fun a _ b _ => EncS.ali a b, ?_⟩, fun a _ => Nat.le_trans (Enc.dep a) h⟩
  rcases EncS.srt (α := α) with k | k
  · exact .inl fun a _ => k a
  · exact .inr fun a _ => k a
theorem dSorted_enc (h : Enc.dp α ≤ 64) (l : List α) : dSorted [.lst (l.map Enc.enc)] = some (.lst ((sortE l).map Enc.enc)) := by
  unfold dSorted dItL
  simp only [Option.bind_some, toPys_map]
  rw [if_pos (sortOk_enc h l), sortD_enc]
end
instance : EncS Int := ⟨fun _ _ => rfl, .inr fun _ => rfl⟩
instance {α β : Type} [Enc α] [Enc β] [EncS α] [EncS β] : EncS (α × β) := ⟨fun a b => by
  show PySem.W.alikeAll [Enc.py a.1, Enc.py a.2] [Enc.py b.1, Enc.py b.2] = true
  simp only [PySem.W.alikeAll, EncS.ali, Bool.and_self], .inl fun _ => rfl⟩
theorem alike_map {α : Type} [Enc α] [EncS α] : ∀ l m : List α, PySem.W.alikeAll (l.map Enc.py) (m.map Enc.py) = true
  | [], _ => by simp only [List.map_nil, PySem.W.alikeAll]
  | _ :: _, [] => by simp only [List.map_nil, List.map_cons, PySem.W.alikeAll]
  | a :: l, b :: m => by simp only [List.map_cons, PySem.W.alikeAll, EncS.ali, alike_map l m, Bool.and_self]
instance {α : Type} [Enc α] [EncS α] : EncS (List α) := ⟨fun a b => alike_map a b, .inr fun _ => rfl⟩
/-- four numbers -/
structure Q4 where
  a : Int
  b : Int
  c : Int
  d : Int
deriving DecidableEq
instance : Enc Q4 where
  enc := fun q => .tup [.int q.a, .int q.b, .int q.c, .int q.d]
  py := fun q => .tuple [.int q.a, .int q.b, .int q.c, .int q.d]
  dp := 1
  to := fun _ => rfl
  lay := fun _ => rfl
  dep := fun _ => Nat.le_refl _
  eqv := fun p q => by
    cases p; cases q
    simp [PyData.eqv, PyData.eqvAll]
instance : EncS Q4 := ⟨fun _ _ => rfl, .inl fun _ => rfl⟩
/-- what the order of cells is -/
theorem lt_int (a b : Int) : itemLt (.inl a) (.inl b) = decide (a < b) := rfl
theorem leE_int (a b : Int) : leE a b = decide (a ≤ b) := by
  unfold leE
  rw [show (Enc.py a : PyData) = .int a from rfl, show (Enc.py b : PyData) = .int b from rfl, PySem.W.dataLt_int, Bool.eq_iff_iff]
  simp
theorem dataLt_pair (p q : Int × Int) : PySem.W.dataLt (Enc.py p) (Enc.py q) = decide (p.1 < q.1 ∨ p.1 = q.1 ∧ p.2 < q.2) := by
  rw [show (Enc.py p : PyData) = .tuple [.int p.1, .int p.2] from rfl, show (Enc.py q : PyData) = .tuple [.int q.1, .int q.2] from rfl, PySem.W.dataLt_tuple]
  simp only [PySem.W.keyToksAll, PySem.W.keyToks, List.cons_append, List.nil_append, PyProof.Rows.lexLt, lt_int]
  rw [Bool.eq_iff_iff]
  simp
  omega
theorem leE_pair (p q : Int × Int) : leE p q = decide (p.1 < q.1 ∨ p.1 = q.1 ∧ p.2 ≤ q.2) := by
  unfold leE
  rw [dataLt_pair, Bool.eq_iff_iff]
  simp
  omega
end G

namespace G
open PySem PySem.Spec PyProof.Rows L2
local macro_rules | `(tactic| simp! [$ls,*] $[$loc:location]?) => `(tactic| simp only [zaa, zab, zac, zad, zae, zaf, zag, zah, zai, zaj, zak, zal, zam, zan, zao, zap, zaq, zar, zas, zat, zau, zav, zaw, zax, zay, zaz, zaA, zaB, zaC, zaD, zaE, zaF, zaG, zaH, zaI, zaJ, zaK, zaL, zaM, zaN, zaO, zaP, zaQ, zaR, zaS, zaT, zaU, zaV, zaW, zaX, zaY, zaZ, zba, zbb, zbc, zbd, zbe, zbf, zbg, zbh, zbi, zbj, zbk, zbl, zbm, zbn, zbo, zbp, zbq, zbr, zbs, zbt, zbu, zbv, zbw, zbx, zby, zbz, zbA, zbB, zbC, zbD, zbE, zbF, zbG, zbH, zbI, zbJ, zbK, zbL, zbM, zbN, zbO, zbP, zbQ, zbR, zbS, zbT, zbU, zbV, zbW, zbX, zbY, zbZ, zca, zcb, zcc, zcd, zce, zcf, zcg, zch, zci, zcj, zck, zcl, zcm, zcn, zco, zcp, zcq, zcr, zcs, zct, zcu, zcv, zcw, zcx, zcy, zcz, zcA, zcB, zcC, zcD, zcE, zcF, zcG, zcH, zcI, zcJ, zcK, zcL, zcM, zcN, zcO, zcP, zcQ, zcR, zcS, zcT, zcU, zcV, zcW, zcX, zcY, zcZ, zda, zdb, zdc, zdd, zde, zdf, zdg, zdh, zdi, zdj, zdk, zdl, zdm, zdn, zdo, zdp, zdq, zdr, zds, zdt, zdu, zdv, zdw, zdx, zdy, zdz, zdA, zdB, zdC, zdD, zdE, zdF, zdG, zdH, zdI, zdJ, zdK, zdL, zdM, zdN, zdO, zdP, zdQ, zdR, zdS, zdT, zdU, zdV, G.of_f, G.of_t, zdW, zdX, zdY, zdZ, zea, zeb, zec, zed, zee, zef, zeg, zeh, zei, zej, zek, zel, zem, zen, zeo, zep, zeq, zer, zes, zet, zeu, zev, zew, zex, zey, zez, zeA, zeB, zeC, zeD, zeE, List.getElem?_cons_zero, List.getElem?_cons_succ, List.set_cons_zero, List.set_cons_succ, G.atI_0, G.atI_1, G.atI_2, G.atI_3, Option.map_some, Option.bind_some, G.eqD_int, G.eqD_cell, G.eqD_bl, List.length_cons, List.length_nil, List.getD_cons_zero, List.getD_cons_succ, Bool.and_true, Bool.and_self, decide_true, decide_false, Bool.not_true, Bool.not_false, List.append_nil, List.nil_append, List.cons_append, if_true, if_false, Bool.false_eq_true, reduceIte, Int.reduceLT, Int.reduceLE, Int.reduceToNat, Int.reducePow, Int.reduceNeg, Int.reduceAdd, Int.reduceSub, Int.reduceMul, Nat.reduceAdd, Int.reduceEq, List.replicate, Nat.reduceSub, and_self, and_true, true_and, $ls,*] $[$loc]?)

/-! ### comprehensions, the plain side -/
section
variable {g : XG} {tt : XT} {te : XV} {vs : List Nat} {ρ : Rho}
theorem lcRun_step (d : D) (r acc : List D) : lcRun g tt te vs (d :: r) acc ρ = (match lcStep g tt te vs d ρ with
    | .ok (some y) ρ' => lcRun g tt te vs r (acc ++ [y]) ρ'
    | .ok none ρ' => lcRun g tt te vs r acc ρ'
    | _ => .bad) := by
  show (match g d (wipeR ρ vs) with | none => Res.bad | some ρ1 => (tt ρ1).bindX fun b ρ2 => if b = true then (te ρ2).bindX fun y ρ3 => lcRun g tt te vs r (acc ++ [y]) (backR ρ ρ3 vs) else lcRun g tt te vs r acc (backR ρ ρ2 vs)) = _
  unfold lcStep
  cases g d (wipeR ρ vs) with
  | none => rfl
  | some ρ1 =>
    simp only [lcS0]
    cases tt ρ1 with
    | ok b ρ2 =>
      cases b with
      | false => rfl
      | true =>
        simp only [Res.bindX, lcS1, if_true]
        cases te ρ2 <;> rfl
    | exc _ _ => rfl
    | bad => rfl
theorem lcRun_cons {d y : D} {r acc : List D} {ρ' : Rho} (e : lcStep g tt te vs d ρ = .ok (some y) ρ') : lcRun g tt te vs (d :: r) acc ρ = lcRun g tt te vs r (acc ++ [y]) ρ' := by
  rw [lcRun_step, e]
theorem lcRun_skip {d : D} {r acc : List D} {ρ' : Rho} (e : lcStep g tt te vs d ρ = .ok none ρ') : lcRun g tt te vs (d :: r) acc ρ = lcRun g tt te vs r acc ρ' := by
  rw [lcRun_step, e]
theorem lcRun_map {α β : Type} {e1 : α → D} {e2 : β → D} (φ : α → β) : ∀ (l : List α) (acc : List D), (∀ a ∈ l, lcStep g tt te vs (e1 a) ρ = .ok (some (e2 (φ a))) ρ) → lcRun g tt te vs (l.map e1) acc ρ = .ok (acc ++ (l.map φ).map e2) ρ
  | [], acc, _ => by rw [List.map_nil, List.map_nil, List.map_nil, List.append_nil]; rfl
  | a :: l, acc, h => by
    rw [List.map_cons, lcRun_cons (h a (List.mem_cons_self ..)), lcRun_map φ l _ (fun b hb => h b (List.mem_cons_of_mem _ hb))]
    simp only [List.map_cons, List.append_assoc, List.cons_append, List.nil_append]
theorem lcRun_filter {α β : Type} {e1 : α → D} {e2 : β → D} (p : α → Bool) (φ : α → β) : ∀ (l : List α) (acc : List D), (∀ a ∈ l, lcStep g tt te vs (e1 a) ρ = .ok (if p a = true then some (e2 (φ a)) else none) ρ) → lcRun g tt te vs (l.map e1) acc ρ = .ok (acc ++ ((l.filter p).map φ).map e2) ρ
  | [], acc, _ => by rw [List.filter_nil, List.map_nil, List.map_nil, List.map_nil, List.append_nil]; rfl
  | a :: l, acc, h => by
    have h0 := h a (List.mem_cons_self ..)
    rw [List.map_cons]
    cases q : p a with
    | true =>
      rw [q, if_pos rfl] at h0
      rw [lcRun_cons h0, lcRun_filter p φ l _ (fun b hb => h b (List.mem_cons_of_mem _ hb)), List.filter_cons_of_pos q]
      simp only [List.map_cons, List.append_assoc, List.cons_append, List.nil_append]
    | false =>
      rw [q, if_neg (by decide)] at h0
      rw [lcRun_skip h0, lcRun_filter p φ l _ (fun b hb => h b (List.mem_cons_of_mem _ hb)), List.filter_cons_of_neg (by rw [q]; decide)]
/-- with a state that changes -/
theorem lcRun_inv (I : Nat → List D → Rho → Prop) : ∀ (ds : List D) (k : Nat) (acc : List D) (ρ : Rho), I k acc ρ → (∀ i d acc ρ, ds[i]? = some d → I (k + i) acc ρ → (∃ y ρ', lcStep g tt te vs d ρ = .ok (some y) ρ' ∧ I (k + i + 1) (acc ++ [y]) ρ') ∨ ∃ ρ', lcStep g tt te vs d ρ = .ok none ρ' ∧ I (k + i + 1) acc ρ') →
    ∃ acc' ρ', lcRun g tt te vs ds acc ρ = .ok acc' ρ' ∧ I (k + ds.length) acc' ρ'
  | [], k, acc, ρ, h, _ => ⟨acc, ρ, rfl, h⟩
  | d :: ds, k, acc, ρ, h, hs => by
    have h2 := hs 0 d acc ρ rfl h
    have rest : ∀ acc2 ρ4, I (k + 1) acc2 ρ4 → ∃ acc' ρ', lcRun g tt te vs ds acc2 ρ4 = .ok acc' ρ' ∧ I (k + (d :: ds).length) acc' ρ' := fun acc2 ρ4 h4 => by
      obtain ⟨a', r', e3, h3⟩ := lcRun_inv I ds (k + 1) acc2 ρ4 h4 (fun i d' acc3 ρ3 hd hi => by
        have := hs (i + 1) d' acc3 ρ3 (by simpa using hd) (by rw [show k + (i + 1) = k + 1 + i by omega]; exact hi)
        rw [show k + (i + 1) + 1 = k + 1 + i + 1 by omega] at this
        exact this)
      exact ⟨a', r', e3, by rw [List.length_cons, show k + (ds.length + 1) = k + 1 + ds.length by omega]; exact h3⟩
    rcases h2 with ⟨y, ρ', e, h4⟩ | ⟨ρ', e, h4⟩
    · rw [lcRun_cons e]
      exact rest _ _ h4
    · rw [lcRun_skip e]
      exact rest _ _ h4
end
/-! ### the laws' wide numbers -/
def bWide1 : XS := (xSet 2 (xOp2 dAdd (xOp2 dMul (xVar 2) (xOp2 dPow (xC (.int 10)) (xC (.int 6)))) (xCallB fDraw 0 (xCons (xOp2 dPow (xC (.int 10)) (xC (.int 6))) xNil))))
def bWide : XS := (xSeq (xSet 2 (xC (.int 0)))
    (xSeq (xFor (xItR1 (xVar 1)) (gSet 3) bWide1)
    (xRet (xVar 2))))
def fWide : DF := runB [false] 4 false bWide
theorem pow_step {r x : Int} {i : Nat} (h1 : r < 1000000 ^ i) (x1 : x < 1000000) : r * 1000000 + x < 1000000 ^ (i + 1) := by
  rw [Int.pow_succ]
  generalize (1000000 : Int) ^ i = y at *
  omega
theorem wide_ex {n : Nat} {p : D} (m : Nat) (h : PenOk n p) (hm : m ≤ 100) (hn : n + m < 2 ^ 60) : ∃ r p', fWide [p, .int (m : Nat)] = .ok (.int r) [p'] ∧ 0 ≤ r ∧ r < 1000000 ^ m ∧ PenOk (n + m) p' := by
  unfold fWide bWide
  have c1 : CPow 10 6 := cpow10 ⟨by decide, by decide⟩
  have hb : inR (m : Int) = true := inR_of (by omega)
  obtain ⟨ρ', e, r, q, s, rfl, h0, h1, hq⟩ := for_range_inv (g := gSet 3) (body := bWide1) (lo := 0) (n := m)
    (fun i ρ => ∃ (r : Int) (q : D) (s : Slot), ρ = [.own q, .val (.int (m : Nat)), .val (.int r), s] ∧ 0 ≤ r ∧ r < 1000000 ^ i ∧ PenOk (n + i) q) (ρ := [.own p, .val (.int (m : Nat)), .val (.int 0), .emp]) ⟨0, p, _, rfl, by decide, by decide, h⟩ (fun i ρ hi hρ => by
      obtain ⟨r, q, s, rfl, h0, h1, hq⟩ := hρ
      refine ⟨_, rfl, ?_⟩
      obtain ⟨x, q', e, x0, x1, hq'⟩ := draw_ex hq (by omega) (m := 1000000) (by decide) (by decide)
      have m1 : CMulA r 1000000 := CMulA.r _ ⟨by decide, by decide⟩
      unfold bWide1
      simp! [c1, m1, e]
      refine ⟨_, .inl rfl, _, _, _, rfl, by omega, ?_, hq'⟩
      exact pow_step h1 x1)
  refine ⟨r, q, ?_, h0, h1, hq⟩
  simp! [hb, Int.toNat_natCast, e]
end G

namespace G
open PySem PySem.Spec PyProof.Rows L2

/-! ### l.index(x) -/
def dIndex (ds : List D) (y : D) : Option D := (toPys ds).bind fun xs => (toPy y).bind fun d => if SeqAt.shaped (.list xs) = true ∧ SeqAt.shaped d = true then (xs.findIdx? fun z => PyData.eqv z d).map fun j => .int (j : Nat) else none
theorem findIdx_spec {α : Type} {p : α → Bool} : ∀ {l : List α} {j : Nat}, l.findIdx? p = some j → ∃ z, l[j]? = some z ∧ p z = true ∧ ∀ (m : Nat) (z' : α), m < j → l[m]? = some z' → p z' = false := by
  intro l
  induction l with
  | nil => intro j h; simp at h
  | cons a l ih =>
    intro j h
    rw [List.findIdx?_cons] at h
    cases q : p a with
    | true =>
      rw [q] at h
      simp at h
      subst h
      exact ⟨a, rfl, q, fun m z' hm => by omega⟩
    | false =>
      rw [q] at h
      simp only [Bool.false_eq_true, if_false] at h
      cases e : l.findIdx? p with
      | none => rw [e] at h; simp at h
      | some k =>
        rw [e] at h
        simp at h
        subst h
        obtain ⟨z, h1, h2, h3⟩ := ih e
        refine ⟨z, by simpa using h1, h2, fun m z' hm hz => ?_⟩
        cases m with
        | zero => simp at hz; subst hz; exact q
        | succ m => exact h3 m z' (by omega) (by simpa using hz)
section
variable {X : Cx} {E : EW} {pos : Pos}
def indexk (tb : XV) : D → Rho → Res D := fun x ρ1 => match x with
  | .lst ds => (tb ρ1).bind (lift (dIndex ds))
  | _ => .bad
def xIndex (ta tb : XV) : XV := fun ρ => (ta ρ).bind (indexk tb)
theorem xe_index {e : Expr} {ta tb : XV} (hs : PE X e (tBM X.K "list" (rIndexD X.K) (lE X.K E ta) (tCons (lE X.K E tb) tNil))) : PE X e (lE X.K E (xIndex ta tb)) := pe_imp hs fun σ H Q h => by
  obtain ⟨F, ρ, r, p⟩ := h
  refine ⟨F, ρ, r, (Pend.bind r p).mono fun x ρ1 F1 H1 g1 q v rv => ?_⟩
  cases rv with
  | lst hf ra =>
    rename_i a xs ds
    refine ⟨.inl ⟨rfl, xs, SqL.of (g1.rel.ex _ _ hf)⟩, F1, ρ1, g1.rel, (Pend.bind g1.rel (show Pend X.K E (fun ρ1 => (tb ρ1).bind (lift (dIndex ds))) ρ1 σ F1 H1 _ from q)).mono fun y ρ2 F2 H2 g2 q2 w rw => ?_⟩
    obtain ⟨d, e, q3⟩ := q2.lift
    unfold dIndex at e
    cases q1 : toPys ds with
    | none => rw [q1] at e; cases e
    | some zs =>
      rw [q1] at e
      simp only [Option.bind_some] at e
      cases q4 : toPy y with
      | none => rw [q4] at e; cases e
      | some dd =>
        rw [q4] at e
        simp only [Option.bind_some] at e
        split at e
        · rename_i hsh
          cases q5 : zs.findIdx? fun z => PyData.eqv z dd with
          | none => rw [q5] at e; cases e
          | some j =>
            rw [q5] at e
            cases e
            obtain ⟨z, k1, k2, k3⟩ := findIdx_spec q5
            have hl : Dp X.K H2 (.ref a) (.list zs) := dp_same g2.rel.ex (rp_dp (.lst ds) (.ref a) (.list zs) (.lst (g2.ex _ _ hf) (ra.mono g2.ex)) (by simp only [toPy, q1, Option.map_some]))
            exact ⟨a, w, dd, zs, j, z, rfl, rfl, hl, dp_same g2.rel.ex (rp_dp y w dd rw q4), hsh.1, hsh.2, k1, k2, k3, q3 F2 H2 (Go.refl g2.rel) _ (.int _)⟩
        · cases e
  | non => exact q.elim
  | bl _ => exact q.elim
  | int _ => exact q.elim
  | str _ => exact q.elim
  | ty _ => exact q.elim
  | tup _ _ => exact q.elim
  | fix _ _ => exact q.elim
  | dicK _ _ _ => exact q.elim
  | dicT _ _ _ => exact q.elim
  | dicN _ _ _ _ => exact q.elim
/-! ### slices -/
def cutG {α : Type} (xs : List α) (lo hi : Option Int) : List α := (xs.drop (HT.sIx xs.length 0 lo)).take (HT.sIx xs.length xs.length hi - HT.sIx xs.length 0 lo)
theorem RpAll.cut {K : PySem.W.Frag} {F : Hp} {vs : List V} {ds : List D} (h : RpAll K F vs ds) (lo hi : Option Int) : RpAll K F (cutV vs lo hi) (cutG ds lo hi) := by
  have hl := h.length
  unfold cutV cutG
  rw [hl]
  exact (h.drop _).take _
abbrev XP := Rho → Res (Option Int)
def lPO (K : PySem.W.Frag) (E : EW) (t : XP) : TO := fun σ H Q => ∃ F ρ, Rel K F H ρ σ ∧ Pend K E t ρ σ F H fun o _ _ H' => Q o H'
theorem po_imp {e : Option Expr} {t t' : TO} (h : PO X e t) (k : ∀ σ H Q, t' σ H Q → t σ H Q) : PO X e t' := ⟨fun pins s σ H Q I q => h.run pins s σ H Q I (k σ H Q q)⟩
def xpNone : XP := fun ρ => .ok none ρ
def partk : D → Rho → Res (Option Int) := fun d ρ1 => match d with
  | .int i => .ok (some i) ρ1
  | _ => .bad
def xpSome (te : XV) : XP := fun ρ => (te ρ).bind partk
theorem xp_none : PO X none (lPO X.K E xpNone) := po_imp po_none fun σ H Q h => by
  obtain ⟨F, ρ, r, p⟩ := h
  exact p F H (Go.refl r)
theorem xp_some {e : Expr} {te : XV} (h : PE X e (lE X.K E te)) : PO X (some e) (lPO X.K E (xpSome te)) := po_imp (po_some h) fun σ H Q h => by
  obtain ⟨F, ρ, r, p⟩ := h
  refine ⟨F, ρ, r, (Pend.bind r p).mono fun x ρ1 F1 H1 g1 q v rv => ?_⟩
  unfold Pend partk at q
  cases x with
  | int i => cases rv; exact ⟨i, rfl, q F1 H1 (Go.refl g1.rel)⟩
  | non => exact q.elim
  | bl _ => exact q.elim
  | str _ => exact q.elim
  | ty _ => exact q.elim
  | tup _ => exact q.elim
  | lst _ => exact q.elim
  | fix _ => exact q.elim
  | dicK _ _ => exact q.elim
  | dicT _ _ => exact q.elim
  | dicN _ _ => exact q.elim
def dSlL (x : D) (lo hi : Option Int) : Option D := (dItL x).map fun ds => .lst (cutG ds lo hi)
def dSlT (x : D) (lo hi : Option Int) : Option D := (dItT x).map fun ds => .tup (cutG ds lo hi)
def slk2 (f : D → Option Int → Option Int → Option D) (x : D) (lo : Option Int) : Option Int → Rho → Res D := fun hi => lift (f x lo) hi
def slk1 (f : D → Option Int → Option Int → Option D) (th : XP) (x : D) : Option Int → Rho → Res D := fun lo ρ => (th ρ).bind (slk2 f x lo)
def slk0 (f : D → Option Int → Option Int → Option D) (tl th : XP) : D → Rho → Res D := fun x ρ => (tl ρ).bind (slk1 f th x)
def xSl (f : D → Option Int → Option Int → Option D) (te : XV) (tl th : XP) : XV := fun ρ => (te ρ).bind (slk0 f tl th)
theorem xn_slice {e : Expr} {lo hi : Option Expr} {te : XV} {tl th : XP} {p2 : Pos} (he : PE X e (lE X.K E te)) (hl : PO X lo (lPO X.K E tl)) (hu : PO X hi (lPO X.K E th)) : PE X (.Subscript e (.Slice lo hi none p2) pos) (lN X.K E (xSl dSlL te tl th)) := pe_imp (pe_slice sl_list he hl hu) fun σ H Q h => by
  obtain ⟨F, ρ, r, p⟩ := h
  refine ⟨F, ρ, r, (Pend.bind r p).mono fun x ρ1 F1 H1 g1 q v rv => ⟨F1, ρ1, g1.rel, (Pend.bind g1.rel q).mono fun l ρ2 F2 H2 g2 q2 => ⟨F2, ρ2, g2.rel, (Pend.bind g2.rel q2).mono fun u ρ3 F3 H3 g3 q3 => ?_⟩⟩⟩
  obtain ⟨d, e, q4⟩ := q3.lift
  unfold dSlL at e
  cases q5 : dItL x with
  | none => rw [q5] at e; cases e
  | some ds =>
    rw [q5] at e
    cases e
    obtain ⟨a, xs, rfl, hs, rs⟩ := dItL_of q5 (rv.mono (g2.ex.trans g3.ex))
    have gg := (g1.trans r g2).trans r g3
    exact ⟨a, xs, rfl, g3.rel.ex.seq hs, fun p hp => (outN_of r gg q4).new g3.rel.ex hp (.lst (rs.cut l u))⟩
theorem cut_whole {α : Type} {xs : List α} {lo hi : Option Int} (h : HT.sIx xs.length 0 lo = 0 ∧ HT.sIx xs.length xs.length hi = xs.length) : cutG xs lo hi = xs := by
  unfold cutG
  rw [h.1, h.2, List.drop_zero, Nat.sub_zero, List.take_length]
theorem xe_sliceT {e : Expr} {lo hi : Option Expr} {te : XV} {tl th : XP} {p2 : Pos} (he : PE X e (lE X.K E te)) (hl : PO X lo (lPO X.K E tl)) (hu : PO X hi (lPO X.K E th)) : PE X (.Subscript e (.Slice lo hi none p2) pos) (lE X.K E (xSl dSlT te tl th)) := pe_imp (pe_slice sl_tupA he hl hu) fun σ H Q h => by
  obtain ⟨F, ρ, r, p⟩ := h
  refine ⟨F, ρ, r, (Pend.bind r p).mono fun x ρ1 F1 H1 g1 q v rv => ⟨F1, ρ1, g1.rel, (Pend.bind g1.rel q).mono fun l ρ2 F2 H2 g2 q2 => ⟨F2, ρ2, g2.rel, (Pend.bind g2.rel q2).mono fun u ρ3 F3 H3 g3 q3 => ?_⟩⟩⟩
  obtain ⟨d, e, q4⟩ := q3.lift
  unfold dSlT at e
  cases q5 : dItT x with
  | none => rw [q5] at e; cases e
  | some ds =>
    rw [q5] at e
    cases e
    have rv' := rv.mono (g2.ex.trans g3.ex)
    cases rv' with
    | tup hf ra =>
      cases q5
      rename_i a xs
      have hl := ra.length
      have o := outV_of g3.rel q4
      refine ⟨a, xs, rfl, SqT.of (g3.rel.ex _ _ hf), fun hw => ?_, fun _ p hp => o.new g3.rel.ex hp (.tup upd_same ((ra.cut l u).mono (Gr.new (o := .tup _) g3.rel.ex hp).ex))⟩
      rw [hl] at hw
      exact o.here g3.rel.ex (by show Rp X.K F3 (.ref a) (.tup (cutG ds l u)); rw [cut_whole hw]; exact .tup hf ra)
    | non => cases q5
    | bl _ => cases q5
    | int _ => cases q5
    | str _ => cases q5
    | ty _ => cases q5
    | lst _ _ => cases q5
    | fix _ _ => cases q5
    | dicK _ _ _ => cases q5
    | dicT _ _ _ => cases q5
    | dicN _ _ _ _ => cases q5
/-- of a thing that is lent -/
def xSlO (i : Nat) (tl th : XP) : XV := fun ρ => match rdD i ρ with
  | none => .bad
  | some _ => (tl ρ).bind fun lo ρ1 => (th ρ1).bind fun hi ρ2 => match rdD i ρ2 with
    | some x => lift (dSlL x lo) hi ρ2
    | none => .bad
theorem xn_sliceO {i : Nat} {e : Expr} {lo hi : Option Expr} {tl th : XP} {p2 : Pos} (he : PE X e (tVar i)) (hl : PO X lo (lPO X.K E tl)) (hu : PO X hi (lPO X.K E th)) : PE X (.Subscript e (.Slice lo hi none p2) pos) (lN X.K E (xSlO i tl th)) := pe_imp (pe_slice sl_list he hl hu) fun σ H Q h => by
  obtain ⟨F, ρ, r, p⟩ := h
  unfold Pend xSlO at p
  cases e0 : rdD i ρ with
  | none => simp only [e0] at p
  | some d0 =>
    simp only [e0] at p
    obtain ⟨v, s1, _⟩ := r.rd e0
    have p' : Pend X.K E (fun ρ => (tl ρ).bind fun lo ρ1 => (th ρ1).bind fun hi ρ2 => match rdD i ρ2 with
      | some x => lift (dSlL x lo) hi ρ2
      | none => .bad) ρ σ F H fun d ρ' F' H' => ∀ p o, F' p = none → H' p = some o → Ro X.K F' p o d → ¬ Own ρ' σ p → (Own ρ σ p ∨ H p = none) → Q (.ref p) H' := p
    refine ⟨v, s1, F, ρ, r, (Pend.bind r p').mono fun l ρ2 F2 H2 g2 q2 => ⟨F2, ρ2, g2.rel, (Pend.bind g2.rel q2).mono fun u ρ3 F3 H3 g3 q3 => ?_⟩⟩
    unfold Pend at q3
    cases e1 : rdD i ρ3 with
    | none => simp only [e1] at q3
    | some x =>
      simp only [e1] at q3
      obtain ⟨d, e, q4⟩ := Pend.lift (f := dSlL x l) (x := u) (ρ := ρ3) (Q := fun d ρ' F' H' => ∀ p o, F' p = none → H' p = some o → Ro X.K F' p o d → ¬ Own ρ' σ p → (Own ρ σ p ∨ H p = none) → Q (.ref p) H') (K := X.K) (E := E) (σ := σ) (F := F3) (H := H3) q3
      unfold dSlL at e
      cases q5 : dItL x with
      | none => rw [q5] at e; cases e
      | some ds =>
        rw [q5] at e
        cases e
        obtain ⟨w, s2, ra⟩ := g3.rel.rd e1
        rw [s1] at s2
        cases s2
        obtain ⟨a, xs, rfl, hs, rs⟩ := dItL_ofR g3.rel.ex q5 ra
        have gg := g2.trans r g3
        exact ⟨a, xs, rfl, hs, fun p hp => (outN_of r gg q4).new g3.rel.ex hp (.lst (rs.cut l u))⟩
end
/-! the plain side -/
section
variable (ρ ρ1 : Rho) (i : Nat) (ta tb : XV) (tl th : XP)
theorem zeF : xIndex ta tb ρ = (ta ρ).bind (indexk tb) := rfl
theorem zeG (ds : List D) : indexk tb (.lst ds) ρ = (tb ρ).bind (lift (dIndex ds)) := rfl
theorem zeH (f : D → Option Int → Option Int → Option D) : xSl f ta tl th ρ = (ta ρ).bind (slk0 f tl th) := rfl
theorem zeI (f : D → Option Int → Option Int → Option D) (x : D) : slk0 f tl th x ρ = (tl ρ).bind (slk1 f th x) := rfl
theorem zeJ (f : D → Option Int → Option Int → Option D) (x : D) (lo : Option Int) : slk1 f th x lo ρ = (th ρ).bind (slk2 f x lo) := rfl
theorem zeK (f : D → Option Int → Option Int → Option D) (x : D) (lo hi : Option Int) : slk2 f x lo hi ρ = liftO (f x lo hi) ρ := rfl
theorem zeL : xpNone ρ = .ok none ρ := rfl
theorem zeM : xpSome ta ρ = (ta ρ).bind partk := rfl
theorem zeN (i : Int) : partk (.int i) ρ = .ok (some i) ρ := rfl
theorem zeO (ds : List D) (lo hi : Option Int) : dSlL (.lst ds) lo hi = some (.lst (cutG ds lo hi)) := rfl
theorem zeP (ds : List D) (lo hi : Option Int) : dSlT (.tup ds) lo hi = some (.tup (cutG ds lo hi)) := rfl
def slO2 (lo : Option Int) (hi : Option Int) (ρ : Rho) (o : Option D) : Res D := match o with
  | some x => lift (dSlL x lo) hi ρ
  | none => .bad
def slO1 (i : Nat) (lo : Option Int) : Option Int → Rho → Res D := fun hi ρ => slO2 lo hi ρ (rdD i ρ)
def slO0 (i : Nat) (th : XP) : Option Int → Rho → Res D := fun lo ρ => (th ρ).bind (slO1 i lo)
def slO (i : Nat) (tl th : XP) (ρ : Rho) (o : Option D) : Res D := match o with
  | none => .bad
  | some _ => (tl ρ).bind (slO0 i th)
theorem zeQ : xSlO i tl th ρ = slO i tl th ρ (rdD i ρ) := by
  unfold xSlO slO
  cases rdD i ρ <;> rfl
theorem zeR (d : D) : slO i tl th ρ (some d) = (tl ρ).bind (slO0 i th) := rfl
theorem zeS (lo : Option Int) : slO0 i th lo ρ = (th ρ).bind (slO1 i lo) := rfl
theorem zeT (lo hi : Option Int) : slO1 i lo hi ρ = slO2 lo hi ρ (rdD i ρ) := rfl
theorem zeU (lo hi : Option Int) (x : D) : slO2 lo hi ρ (some x) = liftO (dSlL x lo hi) ρ := rfl
end
end G

namespace G
open PySem PySem.Spec PyProof.Rows L2

/-! ### a call that changes an object that was just made, the answer a new object -/
section
variable {X : Cx} {cv : String → Value} {pos : Pos} {W : WX}
theorem callTN_of {ban : Nat} {md : List Bool} {g : DF} {tn : XV} {t : XA} {σ : L2.St} {H : Hp} {Q : VK} (h : lN X.K (EWx cv W) (xCallT g tn t) σ H Q) : tCallS (spB X.K cv true md g) (WE W) (tCons (lN X.K (EWx cv W) tn) (lM X.K (EWx cv W) ban md t)) σ H Q := by
  obtain ⟨F, ρ, r, p⟩ := h
  unfold Pend xCallT at p
  cases e1 : tn ρ with
  | bad => simp only [e1, Res.bind] at p
  | exc c ρ1 => simp only [e1, Res.bind] at p; exact ⟨F, ρ, r, Pend.excE e1 p⟩
  | ok d0 ρ1 =>
    simp only [e1, Res.bind] at p
    refine ⟨F, ρ, r, Pend.okE e1 fun F1 H1 g1 b o h1 h2 h3 h4 h5 => ?_⟩
    cases e2 : t ρ1 with
    | bad => simp only [e2] at p
    | exc c ρ2 => simp only [e2] at p; exact ⟨F1, ρ1, g1.rel, Pend.excE e2 fun F2 H2 g2 => p F2 H2 (g1.trans r g2)⟩
    | ok ds ρ2 =>
      simp only [e2] at p
      refine ⟨F1, ρ1, g1.rel, Pend.okE e2 fun F2 H2 g2 vs ra => ?_⟩
      obtain ⟨k1, k2'⟩ := g2.keep b o h2 h1 h4
      have k2 := k2' h3.nt
      have nb2 : ¬ Own ρ2 σ b := fun z => by
        rcases g2.own b z with z | z
        · exact h4 z
        · rw [h2] at z; cases z
      have nr2 : ∀ (j : Nat) (d : D), ρ2[j]? = some (.rd d) → σ[j]? = some (some (.ref b)) → False := fun j d z1 z2 => by
        obtain ⟨y1, _⟩ := g2.rdb j d z1
        obtain ⟨y2, _⟩ := g1.rdb j d y1
        rcases h5 with z | z
        · exact r.rdis j d b y2 z2 z
        · exact rd_new r g1 z j d y1 z2
      refine ⟨F2, b, o, d0, vs, ds, rfl, g2.rel.ex, k2, k1, h3.mono g2.ex, ra.ral' g2.rel (fun p z => by rw [z]; exact k2) (fun j d p _ hd hp z => by
        subst z
        rcases rdD_of hd with y | y
        · exact nb2 ⟨j, d, y, hp⟩
        · exact nr2 j d y hp), ?_⟩
      have fin : ∀ {F3 H3 o3}, GrB b F2 H2 F3 H3 → F3 b = none → H3 b = some o3 → Go X.K ρ σ F H ρ2 σ F3 H3 := fun {F3 H3 o3} gr hf hh => by
        have gg := g1.trans r g2
        refine ⟨⟨gr.sub, g2.rel.len, fun j s v z1 z2 => ?_, g2.rel.dis, g2.rel.rdis⟩, gg.ex.trans gr.ex, fun a u e1 e2 e3 => ?_, gg.own, gg.low, gg.lowO, gg.rdb⟩
        · have z := g2.rel.at' j s v z1 z2
          cases z with
          | emp => exact .emp
          | adr => exact .adr
          | val rp => exact .val (rp.mono gr.ex)
          | @own p u e y1 y2 y3 =>
            have hne : p ≠ b := by
              rintro rfl
              exact nb2 ⟨j, e, z1, z2⟩
            obtain ⟨m1, m2⟩ := gr.keep p u hne y2
            exact .own (m2 y3.nt y1) m1 (y3.mono gr.ex)
          | rd ra =>
            refine .rd (ra.step gr.ex fun p u hn eq e1 e2 => ?_)
            subst eq
            have hne : p ≠ b := by
              rintro rfl
              exact nr2 j _ z1 z2
            obtain ⟨m1, m2⟩ := gr.keep p u hne e1
            exact ⟨m1, m2 hn e2⟩
        · obtain ⟨m1, m2⟩ := gg.keep a u e1 e2 e3
          have hne : a ≠ b := by
            rintro rfl
            rcases h5 with z | z
            · exact e3 z
            · rw [e1] at z; cases z
          obtain ⟨n1, n2⟩ := gr.keep a u hne m1
          exact ⟨n1, fun n => n2 n (m2 n)⟩
      split <;> rename_i e3 <;> simp only [e3] at p
      · exact fun F3 H3 o3 gr hf hh hr => ⟨fun z => (by cases z), fun _ q o4 hq y1 y2 y3 => p F3 H3 (fin gr hf hh) q o4 y1 y2 y3 (not_own_new g2.rel hq) (own_back r (g1.trans r g2) (.inr hq))⟩
      · exact fun F3 H3 o3 gr hf hh hr => p F3 H3 (fin gr hf hh)
theorem xn_callTmp {ban : Nat} {md : List Bool} {k : Nat} {f : Addr} {fd : FuncData} {ps : List Str} {g : DF} {x : Str} {p : Pos} {e : Expr} {es : List Expr} {tn : XV} {t : XA} (tk : Takes X W) (FN : FnOk X.prog X.w X.K X.mg X.base (L2.CX X.prog X.w) k f fd ps (spB X.K cv true md g)) (hr : Room k X.A) (hg : Gl X x) (hm : X.mg x = some (.ref f)) (hk : PySem.W.keepIn X.K (.ref f) = true) (hb : Binds X.K fd ps [])
    (hy : PE X e (lN X.K (EWx cv W) tn)) (ha : PA X es (lM X.K (EWx cv W) ban md t)) (hdb : (x == ("__debug__" : Str)) = false := by decide) (he : starEach (e :: es) X.env = (false, eval e X.env) :: starEach es X.env := by rfl) (hpl : (backTo pos (starEach es X.env)).any (·.1) = false := by rfl) :
    PE X (.Call (.Name x p) (e :: es) [] pos) (lN X.K (EWx cv W) (xCallT g tn t)) := pe_imp (pe_callS FN hr hg hm hk hb (passAt tk) (pa_cons hy ha he) hdb he hpl) fun σ H Q h => callTN_of h
end
end G

namespace G
open PySem PySem.Spec PyProof.Rows L2

/-! ### sorted(set of int tuples), numbers of any sign -/
section
variable {P : Program} {w : World} {A : Around} {s : Shared} {E : Value → Shared → Prop}
def tupD (q : Addr × List Int) : PyData := .tuple (q.2.map PyData.int)
theorem readsAll_ints {h : Heap} : ∀ {k : List Int} {vs : List Value}, IntsAre vs k → ReadsAll h vs (k.map PyData.int) []
  | _, _, .nil => .nil
  | _, _, .cons n t r => by
    have := ReadsAll.cons (Reads.int (h := h) n t) (readsAll_ints r)
    simpa using this
theorem reads_tup {h : Heap} {q : Addr × List Int} (x : TS.TupInts h (.ref q.1) q.2) : Reads h (.ref q.1) (tupD q) [] := by
  obtain ⟨a, xs, e, ⟨o, ho, hc, n, hd⟩, i⟩ := x
  cases e
  exact .tuple ho hc hd (readsAll_ints i)
theorem refs_row {L : List (Addr × List Int)} : ∀ {vs : List Value}, (∀ v ∈ vs, ∃ q ∈ L, v = Value.ref q.1) → ∃ L1 : List (Addr × List Int), vs = L1.map (fun q => Value.ref q.1) ∧ ∀ q ∈ L1, q ∈ L
  | [], _ => ⟨[], rfl, fun q hq => by cases hq⟩
  | v :: vs, hv => by
    obtain ⟨q, hq, e⟩ := hv v (List.mem_cons_self ..)
    obtain ⟨L1, e1, hs⟩ := refs_row (vs := vs) fun u hu => hv u (List.mem_cons_of_mem _ hu)
    refine ⟨q :: L1, by rw [List.map_cons, e, e1], fun r hr => ?_⟩
    rcases List.mem_cons.mp hr with z | z
    · rw [z]; exact hq
    · exact hs r z
theorem each_refs : ∀ L1 : List (Addr × List Int), PySem.W.EachIs (fun (v : Value) (q : Addr × List Int) => v = .ref q.1) (L1.map fun q => Value.ref q.1) L1
  | [] => .nil
  | q :: L1 => .cons rfl (each_refs L1)
theorem refs_each {L1 : List (Addr × List Int)} {vs : List Value} (h : PySem.W.EachIs (fun (v : Value) (q : Addr × List Int) => v = .ref q.1) vs L1) : vs = L1.map fun q => Value.ref q.1 := by
  induction h with
  | nil => rfl
  | cons e _ ih => rw [List.map_cons, ← ih, e]
theorem each_readsT {h : Heap} {a : Addr} : ∀ {L1 : List (Addr × List Int)}, (∀ q ∈ L1, TS.TupInts h (.ref q.1) q.2) → PySem.W.EachIs (fun (v : Value) (q : Addr × List Int) => ∃ as, Reads h v (tupD q) as ∧ a ∉ as) (L1.map fun q => Value.ref q.1) L1
  | [], _ => .nil
  | q :: L1, hq => .cons ⟨[], reads_tup (hq q (List.mem_cons_self ..)), by simp⟩ (each_readsT fun r hr => hq r (List.mem_cons_of_mem _ hr))
theorem alike_tups {L1 : List (Addr × List Int)} : PySem.W.AllAlike (L1.map tupD) := by
  intro d hd e he
  obtain ⟨q, _, rfl⟩ := List.mem_map.mp hd
  obtain ⟨r, _, rfl⟩ := List.mem_map.mp he
  show PySem.W.alikeAll (q.2.map PyData.int) (r.2.map PyData.int) = true
  exact alike_map (α := Int) q.2 r.2
theorem nodup_of {α β : Type} {f : α → β} {l : List α} (h : (l.map f).Nodup) : l.Nodup := (List.pairwise_map.mp h).imp fun {a b} hne e => hne (congrArg f e)
theorem row_perm {L L1 : List (Addr × List Int)} (nd : (L.map (·.2)).Nodup) (one : ∀ q ∈ L, ∀ r ∈ L, q.1 = r.1 → q = r) (hs : ∀ q ∈ L1, q ∈ L) (pm : (L1.map (fun q => Value.ref q.1)).Perm (L.map fun q => Value.ref q.1)) : L1.Perm L := by
  have nL : L.Nodup := nodup_of nd
  have nref : (L.map fun q => Value.ref q.1).Nodup := by
    refine List.pairwise_map.mpr (List.Pairwise.imp_of_mem (fun {q r} hq hr hne e => ?_) nL)
    injection e with e
    exact hne (one q hq r hr e)
  have n1 : L1.Nodup := nodup_of (pm.nodup_iff.mpr nref)
  refine (List.perm_ext_iff_of_nodup n1 nL).mpr fun q => ⟨hs q, fun hq => ?_⟩
  have hm : Value.ref q.1 ∈ L1.map fun q => Value.ref q.1 := pm.mem_iff.mpr (List.mem_map.mpr ⟨q, hq, rfl⟩)
  obtain ⟨r, hr, e⟩ := List.mem_map.mp hm
  injection e with e
  rw [← one r (hs r hr) q hq e]
  exact hr
theorem depth_ints : ∀ k : List Int, PyData.depthAll (k.map PyData.int) ≤ 0 := fun k => dep_map (α := Int) k
theorem sorted_setD {a : Addr} {L : List (Addr × List Int)} {es : Array (Int × Value)} {ep : Nat} {t : SetTable} {Q : Value → Shared → Prop} (R : SetTR P w s.heap a L es ep t) (hh : A.handled = none) (hne : ∀ p ∈ L, p.2 ≠ []) (hu : A.units + 100 < cLine)
    (hQ : ∀ s' p (c : Nat) (L1 : List (Addr × List Int)), (∀ b o, s.heap.get? b = some o → s'.heap.get? b = some o) → s'.gens = s.gens → s'.os = s.os → s.heap.objs.size ≤ p → L1.Perm L →
      s'.heap.get? p = some (seqObj "list" ((L1.mergeSort (PySem.W.dataLe false tupD)).map fun q => Value.ref q.1).toArray c) → Q (.ref p) s') :
    wpAny (model P w) A (call (.builtin "sorted") [.ref a]) Q E s := by
  obtain ⟨o, ho, hex, hd⟩ := R.ob
  have hfew := R.few
  have hsz := R.size
  refine Calls.call_function_entry PyProof.Rows.kind_sorted PyProof.Rows.plain_sorted PyProof.Rows.entry_sorted (PyProof.Rows.args_sorted1 _) ?_
  unfold Builtin.«sorted»
  refine wpAny_bind (m := checkCount "sorted" 1 1 _) (wpAny_pure ?_)
  refine wpAny_bind (collect_set (A := A.in1) hh ⟨o, ho, hex.1, hd⟩ R.fits (by unfold scanBound; omega) R.tab.ris R.led fun s1 vs k1 hz g1 o1 pm => ?_)
  have hes : es.toList.map (·.2) = L.map fun q => Value.ref q.1 := by
    rw [R.rows]
    unfold rowsOf
    rw [List.map_map] <;> rfl
  rw [hes] at pm
  have one : ∀ q ∈ L, ∀ r ∈ L, q.1 = r.1 → q = r := fun q hq r hr e => by
    have a1 := R.tup q hq
    have a2 := R.tup r hr
    rw [e] at a1
    exact Prod.ext e (a1.inj a2)
  obtain ⟨L1, e1, hs1⟩ := refs_row (L := L) (vs := vs) fun v hv => by
    obtain ⟨q, hq, e⟩ := List.mem_map.mp (pm.mem_iff.mp hv)
    exact ⟨q, hq, e.symm⟩
  subst e1
  have p1 : L1.Perm L := row_perm R.nd one hs1 pm
  have hvl : (L1.map fun q => Value.ref q.1).length < 64 := by rw [List.length_map, p1.length_eq]; exact hfew
  refine wpAny_bind (wpAny_newList ?_ (by rw [sizeLine_eq]; omega))
  have hoL : (s1.heap.push (seqObj "list" (L1.map fun q => Value.ref q.1).toArray 0)).get? s1.heap.objs.size = some (seqObj "list" (L1.map fun q => Value.ref q.1).toArray 0) := Heap.get?_push_size _ rfl
  have tk : ∀ q ∈ L1, TS.TupInts (s1.heap.push (seqObj "list" (L1.map fun q => Value.ref q.1).toArray 0)) (.ref q.1) q.2 := fun q hq => L2.tupInts_of (P := P) (w := w) (isT_keep (R.tup q (hs1 q hq)) fun b u e => Heap.get?_push_of_some _ (k1 b u e))
  refine wpAny_bind (wpAny_holding (PySem.W.list_sort_data (s := { s1 with heap := s1.heap.push (seqObj "list" (L1.map fun q => Value.ref q.1).toArray 0) }) (bs := L1) (enc := tupD) (R := fun (v : Value) (q : Addr × List Int) => v = .ref q.1) hoL (each_refs L1) (each_readsT tk) alike_tups ?_ (by rw [sizeLine_eq]; rw [List.length_map] at hvl; omega) (fun q hq => ?_) fun out hlen hout => ?_))
  · refine .inl fun d hd => ?_
    obtain ⟨q, hq, rfl⟩ := List.mem_map.mp hd
    cases e : q.2 with
    | nil => exact absurd e (hne q (hs1 q hq))
    | cons x r => exact ⟨.int x, r.map PyData.int, by unfold tupD; rw [e]; rfl⟩
  · have := depth_ints q.2
    have h1 : A.in1.units = A.units + 1 := rfl
    show A.in1.units + 1 + (PyData.depthAll (q.2.map PyData.int) + 1) < cLine
    omega
  · have eo := refs_each hout
    subst eo
    obtain ⟨c, hc⟩ := PyProof.Rows.sortedHeap_at (vs := L1.map fun q => Value.ref q.1) (out := ((L1.mergeSort (PySem.W.dataLe false tupD)).map fun q => Value.ref q.1).toArray) hoL
    refine wpAny_pure ⟨_, rfl, hQ _ s1.heap.objs.size c L1 (fun b u e => ?_) g1 o1 hz p1 hc⟩
    have q := k1 b u e
    have hlt := Heap.lt_size q
    show (PyProof.Rows.sortedHeap (s1.heap.push (seqObj "list" (L1.map fun q => Value.ref q.1).toArray 0)) s1.heap.objs.size (L1.map fun q => Value.ref q.1) _).get? b = some u
    rw [PyProof.Rows.sortedHeap_old (Nat.ne_of_lt hlt) (by rw [size_push']; exact Nat.lt_succ_of_lt hlt)]
    exact Heap.get?_push_of_some _ q
end
/-! by values -/
section
variable {X : Cx}
def rSortedTD (K : PySem.W.Frag) (P : Program) (w : World) : List V → Hp → VK → Prop := fun vs H Q => ∃ (a : Addr) (L : List (Addr × List Int)), vs = [V.ref a] ∧ H a = some (SetTO P w a L) ∧ (∀ p ∈ L, SqT K H p.1 (p.2.map V.int)) ∧ (∀ p ∈ L, p.2 ≠ []) ∧
  ∀ (L1 : List (Addr × List Int)) (p : Addr), L1.Perm L → (L.map (·.2)).Nodup → H p = none → Q (.ref p) (upd H p (.lst ((L1.mergeSort (PySem.W.dataLe false tupD)).map fun q => V.ref q.1)))
theorem cr_sortedTD (hc : X.calm = true) (hu : X.A.units + 200 < cLine) : CallR X (.builtin "sorted") (rSortedTD X.K X.prog X.w) := by
  intro pins s σ H vs us Q I r h
  obtain ⟨a, L, rfl, ha, hk, hne, q⟩ := h
  have R0 : SetT0 X.prog X.w s.heap a L := (I.hok a _ ha).1
  obtain ⟨es, ep, t, R⟩ := R0.full fun p hp => I.isT (hk p hp)
  rw [Vals.ref1 r]
  refine sorted_setD R (I.ok.hd hc) hne (by omega) fun s' p c L1 k g o hp pm hg => ?_
  have hfew : L1.length < 64 := by rw [pm.length_eq]; exact R.few
  have hlen : ((L1.mergeSort (PySem.W.dataLe false tupD)).map fun q => V.ref q.1).length ≤ sizeLine := by rw [List.length_map, (List.mergeSort_perm _ _).length_eq, sizeLine_eq]; omega
  have hn : H p = none := I.hok.fresh hp
  have hv : Vals ((L1.mergeSort (PySem.W.dataLe false tupD)).map fun q => V.ref q.1) ((L1.mergeSort (PySem.W.dataLe false tupD)).map fun q => Value.ref q.1) := vals_of_refs _
  have J : Inv X pins σ (upd H p (.lst ((L1.mergeSort (PySem.W.dataLe false tupD)).map fun q => V.ref q.1))) { s with heap := s'.heap, gens := s'.gens, drawn := s'.drawn, toks := s'.toks } :=
    I.call (ch := []) (Un.laid k hp hn) (I.hok.laid k hp ⟨hlen, _, c, hv, hg⟩) (by rw [g]; exact I.bare) (fun _ z => nomatch z)
  have e : s' = { s with heap := s'.heap, gens := s'.gens, drawn := s'.drawn, toks := s'.toks } := by
    cases s'
    cases s
    cases o
    rfl
  rw [e]
  exact ⟨.ref p, _, J, rfl, q L1 p pm R.nd hn⟩
end
def keyOf : D → Option (List Int)
  | .tup ds => tupInts ds
  | _ => none
def keysOf : List D → Option (List (List Int))
  | [] => some []
  | d :: ds => (keyOf d).bind fun k => (keysOf ds).map (k :: ·)
def tupK (k : List Int) : D := .tup (k.map D.int)
def leK (k l : List Int) : Bool := leE (⟨k⟩ : Tup Int) ⟨l⟩
def dd {α : Type} [DecidableEq α] : List α → List α
  | [] => []
  | a :: l => if a ∈ l then dd l else a :: dd l
theorem mem_dd {α : Type} [DecidableEq α] {b : α} : ∀ {l : List α}, b ∈ dd l ↔ b ∈ l
  | [] => Iff.rfl
  | a :: l => by
    unfold dd
    split
    · rename_i h
      rw [mem_dd, List.mem_cons]
      exact ⟨.inr, fun z => z.elim (fun e => e ▸ h) id⟩
    · rw [List.mem_cons, List.mem_cons, mem_dd]
theorem nodup_dd {α : Type} [DecidableEq α] : ∀ l : List α, (dd l).Nodup
  | [] => List.nodup_nil
  | a :: l => by
    unfold dd
    split
    · exact nodup_dd l
    · rename_i h
      exact List.nodup_cons.mpr ⟨fun z => h (mem_dd.mp z), nodup_dd l⟩
def sortK (ks : List (List Int)) : List (List Int) := isortB leK (dd ks)
theorem leK_total : PySem.W.TotalLe leK := ⟨fun a b c => (leE_total (α := Tup Int)).trans (Tup.mk a) (Tup.mk b) (Tup.mk c), fun a b => (leE_total (α := Tup Int)).total (Tup.mk a) (Tup.mk b)⟩
theorem leK_anti (a b : List Int) (h1 : leK a b = true) (h2 : leK b a = true) : a = b := by
  have := leE_anti' (⟨a⟩ : Tup Int) ⟨b⟩ (alike_map (α := Int) a b) h1 h2
  exact congrArg Tup.l this
def dSS (x : D) : Option D := (dItL x).bind fun ds => (keysOf ds).bind fun ks => if ks.length < 64 ∧ (ks.all fun k => !k.isEmpty) = true then some (.lst ((sortK ks).map tupK)) else none
/-- the rows behind the keys -/
theorem rows_of {K : PySem.W.Frag} {F : Hp} : ∀ {xs : List V} {ds : List D} {ks : List (List Int)}, RpAll K F xs ds → keysOf ds = some ks → ∃ L : List (Addr × List Int), xs = L.map (fun p => V.ref p.1) ∧ L.map (·.2) = ks ∧ ∀ p ∈ L, F p.1 = some (.tup (p.2.map V.int))
  | _, _, _, .nil, h => by cases h; exact ⟨[], rfl, rfl, fun p hp => by cases hp⟩
  | _, _, _, .cons (d := d) (ds := ds) r t, h => by
    unfold keysOf at h
    cases q1 : keyOf d with
    | none => rw [q1] at h; cases h
    | some k =>
      cases q2 : keysOf ds with
      | none => rw [q1, q2] at h; cases h
      | some ks =>
        rw [q1, q2] at h
        cases h
        obtain ⟨L, e1, e2, e3⟩ := rows_of t q2
        unfold keyOf at q1
        split at q1
        · cases r with
          | tup hf ra =>
            rename_i a vs
            rw [tupInts_of q1] at ra
            rw [ra.ints] at hf
            refine ⟨(a, k) :: L, by rw [e1]; rfl, by rw [List.map_cons, e2], fun p hp => ?_⟩
            rcases List.mem_cons.mp hp with rfl | hp
            · exact hf
            · exact e3 p hp
        · cases q1
theorem rows_back {K : PySem.W.Frag} {F : Hp} : ∀ {L : List (Addr × List Int)}, (∀ p ∈ L, F p.1 = some (.tup (p.2.map V.int))) → RpAll K F (L.map fun p => V.ref p.1) ((L.map (·.2)).map tupK)
  | [], _ => .nil
  | p :: L, h => .cons (.tup (h p (List.mem_cons_self ..)) (RpAll.of_ints p.2)) (rows_back fun q hq => h q (List.mem_cons_of_mem _ hq))
theorem sort_rows (L : List (Addr × List Int)) : (L.mergeSort (PySem.W.dataLe false tupD)).map (·.2) = isortB leK (L.map (·.2)) := by
  rw [← isortB_eq leK_total, List.map_mergeSort (f := fun q : Addr × List Int => q.2) (r := PySem.W.dataLe false tupD) (s := leK) (l := L) (fun a _ b _ => rfl)]
section
variable {X : Cx} {E : EW} {pos : Pos}
theorem xn_sortedSet {e : Expr} {te : XV} {p p2 pos2 : Pos} (hc : X.calm = true) (hu : X.A.units + 200 < cLine) (hg : Gl X "sorted") (hm : X.mg "sorted" = none) (hg2 : Gl X "set") (hm2 : X.mg "set" = none) (he : PE X e (lE X.K E te))
    (s1 : starEach [e] X.env = (false, eval e X.env) :: starEach [] X.env := by rfl) (s2 : starEach [.Call (.Name "set" p2) [e] [] pos2] X.env = (false, eval (.Call (.Name "set" p2) [e] [] pos2) X.env) :: starEach [] X.env := by rfl)
    (b1 : (backTo pos2 (starEach [] X.env)).any (·.1) = false := by rfl) (b2 : (backTo pos (starEach [] X.env)).any (·.1) = false := by rfl) :
    PE X (.Call (.Name "sorted" p) [.Call (.Name "set" p2) [e] [] pos2] [] pos) (lN X.K E (xOp1 dSS te)) := by
  refine pe_imp (pe_callB (cr_sortedTD hc hu) hg hm bt_sorted (pa_cons (pe_callTy (cr_setOfT hc (by omega)) hg2 hm2 bt_set (pa_cons he pa_nil s1) (he := s1) (hpl := b1)) pa_nil s2) (he := s2) (hpl := b2)) fun σ H Q h => ?_
  obtain ⟨F, ρ, r, p⟩ := h
  refine ⟨F, ρ, r, (Pend.bind r p).mono fun x ρ1 F1 H1 g1 q v rv => ?_⟩
  obtain ⟨d, ed, q2⟩ := q.lift
  have o := outN_of r g1 q2
  unfold dSS at ed
  cases q5 : dItL x with
  | none => rw [q5] at ed; cases ed
  | some ds =>
    rw [q5] at ed
    simp only [Option.bind_some] at ed
    cases q6 : keysOf ds with
    | none => rw [q6] at ed; cases ed
    | some ks =>
      rw [q6] at ed
      simp only [Option.bind_some] at ed
      split at ed
      · rename_i hz
        cases ed
        obtain ⟨l, xs, rfl, hs, rs⟩ := dItL_of q5 rv
        obtain ⟨M, rfl, em, hM⟩ := rows_of rs q6
        have ex := g1.rel.ex
        refine ⟨l, M, rfl, ex.seq hs, fun p hp => SqT.of (ex _ _ (hM p hp)), by rw [← List.length_map (f := (·.2)), em]; exact hz.1, fun a L ha hsub hcov => ?_⟩
        have hL : ∀ p ∈ L, F1 p.1 = some (.tup (p.2.map V.int)) := fun p hp => hM p (hsub p hp)
        have nea : ∀ b u, H1 b = some u → b ≠ a := fun b u h e => by subst e; rw [ha] at h; cases h
        refine ⟨a, L, rfl, upd_same, fun p hp => SqT.of (by rw [upd_ne (nea _ _ (ex _ _ (hL p hp)))]; exact ex _ _ (hL p hp)), fun p hp e => ?_, fun L1 b pm nd hb => ?_⟩
        · have := List.all_eq_true.mp hz.2 p.2 (by rw [← em]; exact List.mem_map.mpr ⟨p, hsub p hp, rfl⟩)
          rw [e] at this
          cases this
        · have hba : b ≠ a := fun e => by subst e; rw [upd_same] at hb; cases hb
          rw [upd_ne hba] at hb
          have hF : F1 b = none := ex.free hb
          have keep : ∀ c u, H1 c = some u → upd (upd H1 a (SetTO X.prog X.w a L)) b (.lst ((L1.mergeSort (PySem.W.dataLe false tupD)).map fun q => V.ref q.1)) c = some u := fun c u hcu => by
            rw [upd_ne (ne_of_none hcu hb), upd_ne (nea c u hcu)]
            exact hcu
          refine o b (.lst ((L1.mergeSort (PySem.W.dataLe false tupD)).map fun q => V.ref q.1)) F1 _ ⟨Same.refl F1, keep, fun c u h => keep c u (ex c u h), fun _ _ _ _ h => h⟩ hb hF upd_same (.lst ?_)
          have e1 : (L1.mergeSort (PySem.W.dataLe false tupD)).map (·.2) = sortK ks := by
            rw [sort_rows]
            unfold sortK
            refine isortB_cong leK_total leK_anti ?_
            refine (pm.map _).trans ((List.perm_ext_iff_of_nodup nd (nodup_dd ks)).mpr fun k => ?_)
            rw [mem_dd, ← em]
            constructor
            · intro hk
              obtain ⟨p, hp, rfl⟩ := List.mem_map.mp hk
              exact List.mem_map.mpr ⟨p, hsub p hp, rfl⟩
            · intro hk
              obtain ⟨p, hp, rfl⟩ := List.mem_map.mp hk
              exact hcov p hp
          rw [← e1]
          exact rows_back fun p hp => hL p (pm.mem_iff.mp ((List.mergeSort_perm _ _).mem_iff.mp hp))
      · cases ed
end
end G

namespace G
open PySem PySem.Spec PyProof.Rows L2

/-! ### set(xs): the shell of the call, over what the filling does -/
section
variable {P : Program} {w : World} {A : Around} {s : Shared} {E : Value → Shared → Prop}
/-- the empty set that set(..) starts from -/
def set0 (w : World) : Obj := { cls := .type "set", dict := none, data := .set #[] 0 (.fresh 0 0 (!w.params.followText "set-order")) }
set_option maxHeartbeats 3200000 in
theorem set_shell {l : Addr} {items : Array Value} (hl : s.heap.IsList l items) {R : Heap → Nat → Prop} {Q : Value → Shared → Prop}
    (hloop : codeAny (model P w) A.in1.in1 (.builtin "set.update.loop" ⟨[.ref s.heap.objs.size, .ref (s.heap.push (set0 w)).objs.size], []⟩) (fun r s' => r = .ok (.ret .none) ∧ ∃ h' tk, s' = { s with heap := h', toks := tk } ∧ R h' tk)
      { s with heap := (s.heap.push (set0 w)).push { cls := .type "list_iterator", data := .fields #[.ref l, .int 0 0] } })
    (h : ∀ h' tk, R h' tk → Q (.ref s.heap.objs.size) { s with heap := h', toks := tk }) :
    wpAny (model P w) A (call (.type "set") [.ref l]) Q E s := by
  obtain ⟨c, tl, hmro⟩ := F.called_set.mro
  have hmade := F.called_set.made
  have hsub := F.called_set.sub
  have h1 := F.called_set.notType
  have h2 := F.called_set.canCreate
  have hct := F.typeCall_set_1 (.ref l)
  refine wpAny_call (codeAny_of_tree ?_)
  show wpAny _ _ (callAny (.type "set") _) _ _ _
  refine wpAny_pure ⟨Code.quiet_builtin _ (by decide +kernel), codeAny_builtin F.entry_type_call ?_⟩
  rw [Around.under_plain (weight_type_call_type "set" [.ref l] []) rfl]
  repeat (any_goals (first | assumption | wp_step))
  refine codeAny_mono (code_set_led1 (.ref l) (E := E) (Q₁ := fun obj s₁ => obj = .ref s.heap.objs.size ∧ s₁ = { s with heap := s.heap.push (set0 w) }) ⟨rfl, rfl⟩) fun r s₁ hr => ?_
  cases r with
  | error e => exact hr
  | ok fl =>
    cases fl with
    | ret obj =>
      obtain ⟨rfl, rfl⟩ := hr
      have hS : (s.heap.push (set0 w)).get? s.heap.objs.size = some (set0 w) := Heap.get?_push_size _ rfl
      have hT : Shared.TypeIs { s with heap := s.heap.push (set0 w) } (.ref s.heap.objs.size) "set" := ⟨_, hS, rfl⟩
      have hli := F.called_set.init.lookup
      have hbi := F.called_set.init.bind (.ref s.heap.objs.size)
      repeat (any_goals (first | assumption | wp_step))
      refine codeAny_mono (codeAny_call_builtin (R := wants (fun r s₂ => r = .none ∧ ∃ h' tk, s₂ = { s with heap := h', toks := tk } ∧ R h' tk) E) F.called_set.init.plain F.entry_set_init (check_set_init_1 hT ?_)) fun r₂ s₂ hr₂ => ?_
      · obtain ⟨ol, hol, hcl, nl, hdl⟩ := hl
        obtain ⟨ocls, odict, odata, oslots⟩ := ol
        simp only at hcl hdl
        subst hcl; subst hdl
        have hol' : (s.heap.push (set0 w)).get? l = some { cls := .type "list", dict := odict, data := .seq items nl, slots := oslots } := Heap.get?_push_of_some _ hol
        have hsls := F.sub_list_set
        have hslf := F.sub_list_frozenset
        have hne : (Value.type "list" == Value.type "dict") = false := by decide
        have hl1 : (s.heap.push (set0 w)).IsList l items := ⟨_, hol', rfl, nl, rfl⟩
        unfold Builtin.«set.__init__» noKeywords Builtin.Frozenset.updateFrom
        generalize hPI : pyIter = PI
        wp_walk
        subst hPI
        refine wpAny_pyIter_list hl1 ?_
        refine wpAny_bind (wpAny_runValue ?_)
        refine codeAny_mono hloop fun r s' hr => ?_
        obtain ⟨rfl, h', tk, rfl, hR⟩ := hr
        exact wpAny_pure (wpAny_pure ⟨rfl, h', tk, rfl, hR⟩)
      · cases r₂ with
        | error e => exact hr₂
        | ok fl₂ =>
          cases fl₂ with
          | ret r =>
            obtain ⟨rfl, h', tk, rfl, hR⟩ := hr₂
            repeat (any_goals (first | assumption | wp_step))
            exact h _ _ hR
          | _ => exact hr₂.elim
    | _ => exact hr.elim
set_option maxHeartbeats 3200000 in
theorem set_shellT {l : Addr} {items : Array Value} (hl : s.heap.IsTuple l items) {R : Heap → Nat → Prop} {Q : Value → Shared → Prop}
    (hloop : codeAny (model P w) A.in1.in1 (.builtin "set.update.loop" ⟨[.ref s.heap.objs.size, .ref (s.heap.push (set0 w)).objs.size], []⟩) (fun r s' => r = .ok (.ret .none) ∧ ∃ h' tk, s' = { s with heap := h', toks := tk } ∧ R h' tk)
      { s with heap := (s.heap.push (set0 w)).push { cls := .type "tuple_iterator", data := .fields #[.ref l, .int 0 0] } })
    (h : ∀ h' tk, R h' tk → Q (.ref s.heap.objs.size) { s with heap := h', toks := tk }) :
    wpAny (model P w) A (call (.type "set") [.ref l]) Q E s := by
  obtain ⟨c, tl, hmro⟩ := F.called_set.mro
  have hmade := F.called_set.made
  have hsub := F.called_set.sub
  have h1 := F.called_set.notType
  have h2 := F.called_set.canCreate
  have hct := F.typeCall_set_1 (.ref l)
  refine wpAny_call (codeAny_of_tree ?_)
  show wpAny _ _ (callAny (.type "set") _) _ _ _
  refine wpAny_pure ⟨Code.quiet_builtin _ (by decide +kernel), codeAny_builtin F.entry_type_call ?_⟩
  rw [Around.under_plain (weight_type_call_type "set" [.ref l] []) rfl]
  repeat (any_goals (first | assumption | wp_step))
  refine codeAny_mono (code_set_led1 (.ref l) (E := E) (Q₁ := fun obj s₁ => obj = .ref s.heap.objs.size ∧ s₁ = { s with heap := s.heap.push (set0 w) }) ⟨rfl, rfl⟩) fun r s₁ hr => ?_
  cases r with
  | error e => exact hr
  | ok fl =>
    cases fl with
    | ret obj =>
      obtain ⟨rfl, rfl⟩ := hr
      have hS : (s.heap.push (set0 w)).get? s.heap.objs.size = some (set0 w) := Heap.get?_push_size _ rfl
      have hT : Shared.TypeIs { s with heap := s.heap.push (set0 w) } (.ref s.heap.objs.size) "set" := ⟨_, hS, rfl⟩
      have hli := F.called_set.init.lookup
      have hbi := F.called_set.init.bind (.ref s.heap.objs.size)
      repeat (any_goals (first | assumption | wp_step))
      refine codeAny_mono (codeAny_call_builtin (R := wants (fun r s₂ => r = .none ∧ ∃ h' tk, s₂ = { s with heap := h', toks := tk } ∧ R h' tk) E) F.called_set.init.plain F.entry_set_init (check_set_init_1 hT ?_)) fun r₂ s₂ hr₂ => ?_
      · obtain ⟨ol, hol, hcl, nl, hdl⟩ := hl
        obtain ⟨ocls, odict, odata, oslots⟩ := ol
        simp only at hcl hdl
        subst hcl; subst hdl
        have hol' : (s.heap.push (set0 w)).get? l = some { cls := .type "tuple", dict := odict, data := .seq items nl, slots := oslots } := Heap.get?_push_of_some _ hol
        have hsls := F.sub_tuple_set
        have hslf := F.sub_tuple_frozenset
        have hne : (Value.type "tuple" == Value.type "dict") = false := by decide
        have hl1 : (s.heap.push (set0 w)).IsTuple l items := ⟨_, hol', rfl, nl, rfl⟩
        unfold Builtin.«set.__init__» noKeywords Builtin.Frozenset.updateFrom
        generalize hPI : pyIter = PI
        wp_walk
        subst hPI
        refine wpAny_pyIter_tuple hl1 ?_
        refine wpAny_bind (wpAny_runValue ?_)
        refine codeAny_mono hloop fun r s' hr => ?_
        obtain ⟨rfl, h', tk, rfl, hR⟩ := hr
        exact wpAny_pure (wpAny_pure ⟨rfl, h', tk, rfl, hR⟩)
      · cases r₂ with
        | error e => exact hr₂
        | ok fl₂ =>
          cases fl₂ with
          | ret r =>
            obtain ⟨rfl, h', tk, rfl, hR⟩ := hr₂
            repeat (any_goals (first | assumption | wp_step))
            exact h _ _ hR
          | _ => exact hr₂.elim
    | _ => exact hr.elim
end
end G

namespace G
open PySem PySem.Spec PyProof.Rows L2

/-! ### set(xs) of a list of ints -/
section
variable {P : Program} {w : World} {A : Around} {s : Shared} {E : Value → Shared → Prop}
/-- set(xs) of ints -/
theorem set_listI {l : Addr} {items : Array Value} (ns : List Int) {Q : Value → Shared → Prop} (hh : A.handled = none) (hl : s.heap.IsList l items) (hit : IntsAre items.toList ns) (hb : ns.length + 1 < scanBound)
    (h : ∀ (h' : Heap) (tk c : Nat), SetR w h' s.heap.objs.size (fun j => decide (j ∈ ns)) c → c ≤ ns.length → (∀ b o, s.heap.get? b = some o → h'.get? b = some o) → Q (.ref s.heap.objs.size) { s with heap := h', toks := tk }) :
    wpAny (model P w) A (call (.type "set") [.ref l]) Q E s := by
  have hisz : items.size = ns.length := by
    have q := IntsAre.length hit
    rw [Array.length_toList] at q
    exact q
  have hlS : l < s.heap.objs.size := by
    obtain ⟨ol, hol, _⟩ := hl
    exact Heap.lt_size hol
  have hz : (s.heap.push (set0 w)).objs.size = s.heap.objs.size + 1 := Heap.size_push ..
  have hS : (s.heap.push (set0 w)).get? s.heap.objs.size = some (set0 w) := Heap.get?_push_size _ rfl
  have hl1 : (s.heap.push (set0 w)).IsList l items := hl.push _
  have hh3 : A.in1.in1.in1.handled = none := by simp [hh]
  refine set_shell (R := fun h' tk => ∃ c, SetR w h' s.heap.objs.size (fun j => decide (j ∈ ns)) c ∧ c ≤ ns.length ∧ ∀ b o, s.heap.get? b = some o → h'.get? b = some o) hl ?_ fun h' tk ⟨c, k1, k2, k3⟩ => h h' tk c k1 k2 k3
  refine set_update_ints ((Walks.list hh3 _ l (by rw [hz]; exact Nat.ne_of_lt (Nat.lt_succ_of_lt hlS)) items).toS) s.heap.objs.size ?_ ns hisz hb (fun i v hv => ?_) (items.size - 0) 0 _ (by omega) (Nat.zero_le _) ⟨⟨_, Heap.get?_push_size _ rfl, rfl, rfl⟩, (hl1.push _)⟩ ⟨0, Nat.le_refl 0, setR_new_at (Heap.get?_push_of_some _ hS)⟩ fun s' c hm hc hS' => ?_
  · rw [hz]
    simp only [List.mem_cons, List.not_mem_nil, or_false, not_or]
    exact ⟨Nat.ne_of_lt (Nat.lt_succ_self _), Nat.ne_of_gt hlS⟩
  · have hi : i < ns.length := by rw [← hisz]; exact (Array.getElem?_eq_some_iff.mp hv).1
    obtain ⟨t, e⟩ := PyProof.Rows.IntsAre.int_at hit i v (by rw [Array.getElem?_toList]; exact hv)
    refine ⟨ns[i], t, List.getElem?_eq_getElem hi, ?_⟩
    rw [e, List.getD_eq_getElem?_getD, List.getElem?_eq_getElem hi] <;> rfl
  · obtain ⟨h', g2, d', tk', os'⟩ := s'
    have eg : g2 = s.gens := hm.gens
    have ed : d' = s.drawn := hm.drawn
    have eo : os' = s.os := hm.os
    subst eg; subst ed; subst eo
    refine ⟨rfl, h', tk', rfl, c, hS', by omega, fun b o e => ?_⟩
    have hb0 : b < s.heap.objs.size := Heap.lt_size e
    refine hm.heap b o ?_ (Heap.get?_push_of_some _ (Heap.get?_push_of_some _ e))
    rw [hz]
    simp only [List.mem_cons, List.not_mem_nil, or_false, not_or]
    exact ⟨Nat.ne_of_lt hb0, Nat.ne_of_lt (Nat.lt_succ_of_lt hb0)⟩
end
end G

namespace G
open PySem PySem.Spec PyProof.Rows L2

/-! ### sorted(set(xs)) of ints -/
section
variable {X : Cx}
def rSetOfI (K : PySem.W.Frag) (w : World) : List V → Hp → VK → Prop := fun xs H Q => ∃ (l : Addr) (ns : List Int), xs = [V.ref l] ∧ SqL K H l (ns.map V.int) ∧ ns.length < 64 ∧
  ∀ a c, H a = none → c ≤ ns.length → Q (.ref a) (upd H a (SetO w a (fun j => decide (j ∈ ns)) c))
theorem cr_setOfI (hc : X.calm = true) : CallR X (.type "set") (rSetOfI X.K X.w) := by
  intro pins s σ H xs us Q I r h
  obtain ⟨l, ns, rfl, hl, hf, q⟩ := h
  rw [Vals.ref1 r]
  obtain ⟨its, rv, pl, hz⟩ := I.list hl
  have hn : H s.heap.objs.size = none := I.hok.fresh (Nat.le_refl _)
  refine set_listI (P := X.prog) (w := X.w) ns (I.ok.hd hc) pl.isList (by simpa using rv.ints) (by unfold scanBound; omega) fun h' tk c R k1 k => ?_
  exact ⟨.ref s.heap.objs.size, upd H s.heap.objs.size (SetO X.w s.heap.objs.size (fun j => decide (j ∈ ns)) c), I.laid (t' := tk) k (Nat.le_refl _) (setO_new R), rfl, q _ c hn k1⟩
end
def leI (a b : Int) : Bool := decide (a ≤ b)
def sortI (ns : List Int) : List Int := isortB leI (dd ns)
theorem leI_total : PySem.W.TotalLe leI := ⟨fun a b c h1 h2 => by
  unfold leI at *
  simp only [decide_eq_true_eq] at *
  omega, fun a b => by
  unfold leI
  simp only [decide_eq_true_eq]
  omega⟩
theorem leI_anti (a b : Int) (h1 : leI a b = true) (h2 : leI b a = true) : a = b := by
  unfold leI at *
  simp only [decide_eq_true_eq] at *
  omega
theorem sortI_unique {ns out : List Int} (h : out.Pairwise (· < ·)) (hm : ∀ k : Int, k ∈ out ↔ k ∈ ns) : out = sortI ns := by
  refine pw_unique leI_anti ?_ (h.imp fun {a b} hab => decide_eq_true (Int.le_of_lt hab)) (isortB_pw leI_total _)
  refine List.Perm.trans ?_ (isortB_perm _).symm
  refine (List.perm_ext_iff_of_nodup (h.imp fun {a b} hab e => by omega) (nodup_dd ns)).mpr fun k => ?_
  rw [hm, mem_dd]
def dSSI (x : D) : Option D := (dItL x).bind fun ds => (tupInts ds).bind fun ns => if ns.length < 64 then some (.lst ((sortI ns).map D.int)) else none
section
variable {X : Cx} {E : EW} {pos : Pos}
theorem xn_sortedSetI {e : Expr} {te : XV} {p p2 pos2 : Pos} (hc : X.calm = true) (hg : Gl X "sorted") (hm : X.mg "sorted" = none) (hg2 : Gl X "set") (hm2 : X.mg "set" = none) (he : PE X e (lE X.K E te))
    (s1 : starEach [e] X.env = (false, eval e X.env) :: starEach [] X.env := by rfl) (s2 : starEach [.Call (.Name "set" p2) [e] [] pos2] X.env = (false, eval (.Call (.Name "set" p2) [e] [] pos2) X.env) :: starEach [] X.env := by rfl)
    (b1 : (backTo pos2 (starEach [] X.env)).any (·.1) = false := by rfl) (b2 : (backTo pos (starEach [] X.env)).any (·.1) = false := by rfl) :
    PE X (.Call (.Name "sorted" p) [.Call (.Name "set" p2) [e] [] pos2] [] pos) (lN X.K E (xOp1 dSSI te)) := by
  refine pe_imp (pe_callB (cr_sortedSet hc) hg hm bt_sorted (pa_cons (pe_callTy (cr_setOfI hc) hg2 hm2 bt_set (pa_cons he pa_nil s1) (he := s1) (hpl := b1)) pa_nil s2) (he := s2) (hpl := b2)) fun σ H Q h => ?_
  obtain ⟨F, ρ, r, p⟩ := h
  refine ⟨F, ρ, r, (Pend.bind r p).mono fun x ρ1 F1 H1 g1 q v rv => ?_⟩
  obtain ⟨d, ed, q2⟩ := q.lift
  have o := outN_of r g1 q2
  unfold dSSI at ed
  cases q5 : dItL x with
  | none => rw [q5] at ed; cases ed
  | some ds =>
    rw [q5] at ed
    simp only [Option.bind_some] at ed
    cases q6 : tupInts ds with
    | none => rw [q6] at ed; cases ed
    | some ns =>
      rw [q6] at ed
      simp only [Option.bind_some] at ed
      split at ed
      · rename_i hz
        cases ed
        obtain ⟨l, xs, rfl, hs, rs⟩ := dItL_of q5 rv
        rw [tupInts_of q6] at rs
        rw [rs.ints] at hs
        have ex := g1.rel.ex
        refine ⟨l, ns, rfl, ex.seq hs, hz, fun a c ha hcn => ?_⟩
        have nea : ∀ b u, H1 b = some u → b ≠ a := fun b u h e => by subst e; rw [ha] at h; cases h
        refine ⟨a, _, c, rfl, upd_same, by omega, fun out b hp hmem hl hb => ?_⟩
        have hba : b ≠ a := fun e => by subst e; rw [upd_same] at hb; cases hb
        rw [upd_ne hba] at hb
        have keep : ∀ c' u, H1 c' = some u → upd (upd H1 a (SetO X.w a (fun j => decide (j ∈ ns)) c)) b (.lst (out.map V.int)) c' = some u := fun c' u hcu => by
          rw [upd_ne (ne_of_none hcu hb), upd_ne (nea c' u hcu)]
          exact hcu
        have eo := sortI_unique hp (ns := ns) fun k => by rw [hmem k, decide_eq_true_eq]
        subst eo
        exact o b (.lst ((sortI ns).map V.int)) F1 _ ⟨Same.refl F1, keep, fun c' u h => keep c' u (ex c' u h), fun _ _ _ _ h => h⟩ hb (ex.free hb) upd_same (.lst (RpAll.of_ints _))
      · cases ed
end
end G

namespace G
open PySem PySem.Spec PyProof.Rows L2

/-! ### x in (a, b, ..), flat things -/
def flatD : D → Bool
  | .non => true
  | .bl _ => true
  | .int _ => true
  | .str _ => true
  | _ => false
def vOf : D → V
  | .bl b => .bl b
  | .int i => .int i
  | .str x => .str x
  | _ => .non
theorem vOf_is {K : PySem.W.Frag} {F : Hp} {v : V} {d : D} (r : Rp K F v d) (h : flatD d = true) : v = vOf d ∧ flatV v = true := by
  cases r with
  | non => exact ⟨rfl, rfl⟩
  | bl _ => exact ⟨rfl, rfl⟩
  | int _ => exact ⟨rfl, rfl⟩
  | str _ => exact ⟨rfl, rfl⟩
  | ty _ => cases h
  | tup _ _ => cases h
  | lst _ _ => cases h
  | fix _ _ => cases h
  | dicK _ _ _ => cases h
  | dicT _ _ _ => cases h
  | dicN _ _ _ _ => cases h
theorem vOf_all {K : PySem.W.Frag} {F : Hp} : ∀ {vs : List V} {ds : List D}, RpAll K F vs ds → ds.all flatD = true → vs = ds.map vOf ∧ vs.all flatV = true
  | _, _, .nil, _ => ⟨rfl, rfl⟩
  | _, _, .cons a b, h => by
    rw [List.all_cons, Bool.and_eq_true] at h
    obtain ⟨h1, h2⟩ := vOf_is a h.1
    obtain ⟨k1, k2⟩ := vOf_all b h.2
    exact ⟨by rw [List.map_cons, ← h1, ← k1], by rw [List.all_cons, h2, k2]; rfl⟩
def dInT (x y : D) : Option D := (dItT y).bind fun ds => if flatD x = true ∧ ds.all flatD = true then some (.bl (inV (vOf x) (ds.map vOf))) else none
theorem imp_inT {K : PySem.W.Frag} : Imp2 K dInT (rIn K false) := fun F H v w x y d Q ex rx ry e o => by
  unfold dInT at e
  cases q : dItT y with
  | none => rw [q] at e; cases e
  | some ds =>
    rw [q] at e
    simp only [Option.bind_some] at e
    split at e
    · rename_i hf
      cases e
      cases ry with
      | tup hh ra =>
        cases q
        obtain ⟨e1, f1⟩ := vOf_is rx hf.1
        obtain ⟨e2, f2⟩ := vOf_all ra hf.2
        subst e1 e2
        exact ⟨_, _, rfl, .inr (SqT.of (ex _ _ hh)), f1, f2, o.here ex (.bl _)⟩
      | non => cases q
      | bl _ => cases q
      | int _ => cases q
      | str _ => cases q
      | ty _ => cases q
      | lst _ _ => cases q
      | fix _ _ => cases q
      | dicK _ _ _ => cases q
      | dicT _ _ _ => cases q
      | dicN _ _ _ _ => cases q
    · cases e
/-- of lists and of tuples -/
def dInA (x y : D) : Option D := match y with
  | .tup _ => dInT x y
  | _ => dIn x y
def rInA (K : PySem.W.Frag) : R2 := fun x y H Q => rInD K x y H Q ∨ rIn K false x y H Q
theorem op_inA {X : Cx} (hu : X.A.units + 65 < cLine) : OpR X (compareOp .In) (rInA X.K) := by
  intro pins s σ H x y v u Q I rx ry h
  rcases h with h | h
  · exact op_inD hu pins s σ H x y v u Q I rx ry h
  · exact op_in_seq pins s σ H x y v u Q I rx ry h
theorem imp_inA {K : PySem.W.Frag} : Imp2 K dInA (rInA K) := fun F H v w x y d Q ex rx ry e o => by
  unfold dInA at e
  split at e
  · exact .inr (imp_inT F H v w x _ d Q ex rx ry e o)
  · exact .inl (imp_in F H v w x y d Q ex rx ry e o)
/-! the plain side -/
section
theorem zeV (x : D) (ds : List D) : dInA x (.tup ds) = dInT x (.tup ds) := rfl
theorem zeW (x : D) (ds : List D) : dInA x (.lst ds) = dIn x (.lst ds) := rfl
end
theorem zeX (n : Int) : ∀ ns : List Int, inV (.int n) (ns.map V.int) = decide (n ∈ ns)
  | [] => rfl
  | m :: ns => by
    show (eqV (.int m) (.int n) || inV (.int n) (ns.map V.int)) = _
    rw [zeX n ns, show eqV (.int m) (.int n) = decide (m = n) from rfl]
    by_cases h : m = n
    · subst h; simp
    · have h2 : ¬ n = m := fun e => h e.symm
      simp [h, h2]
theorem zeY : ∀ ns : List Int, (ns.map D.int).all flatD = true
  | [] => rfl
  | _ :: ns => zeY ns
theorem zeZ : ∀ ns : List Int, (ns.map D.int).map vOf = ns.map V.int
  | [] => rfl
  | n :: ns => by rw [List.map_cons, List.map_cons, zeZ ns]; rfl
theorem zfa (n : Int) (ns : List Int) : dInT (.int n) (.tup (ns.map D.int)) = some (.bl (decide (n ∈ ns))) := by
  unfold dInT dItT
  simp only [Option.bind_some]
  rw [if_pos ⟨rfl, zeY ns⟩, zeZ]
  show some (D.bl (inV (.int n) (ns.map V.int))) = _
  rw [zeX]
end G

namespace G
open PySem PySem.Spec PyProof.Rows L2

/-! ### loops that may end by a return, the plain side of them -/
section
variable {g : XG} {body : XS}
/-- each turn goes on where p holds, else the loop returns v -/
theorem forRun_test {α : Type} {e : α → D} {p : α → Bool} {v : D} (I : Rho → Prop) : ∀ (l : List α) (ρ : Rho), I ρ → (∀ a ∈ l, ∀ ρ, I ρ → ∃ ρ1, g (e a) ρ = some ρ1 ∧ ∃ ρ2, I ρ2 ∧ ((p a = true ∧ (body ρ1 = .nx ρ2 ∨ body ρ1 = .cnt ρ2)) ∨ (p a = false ∧ body ρ1 = .ret v ρ2))) →
    ∃ ρ', I ρ' ∧ ((l.all p = true ∧ forRun g body (l.map e) ρ = .nx ρ') ∨ (l.all p = false ∧ forRun g body (l.map e) ρ = .ret v ρ'))
  | [], ρ, h, _ => ⟨ρ, h, .inl ⟨rfl, rfl⟩⟩
  | a :: l, ρ, h, hs => by
    obtain ⟨ρ1, e1, ρ2, h2, hb⟩ := hs a (List.mem_cons_self ..) ρ h
    rcases hb with ⟨hp, hb⟩ | ⟨hp, hb⟩
    · obtain ⟨ρ', h3, h4⟩ := forRun_test (p := p) (v := v) I l ρ2 h2 fun b hb => hs b (List.mem_cons_of_mem _ hb)
      refine ⟨ρ', h3, ?_⟩
      have e3 : forRun g body ((a :: l).map e) ρ = forRun g body (l.map e) ρ2 := by
        rw [List.map_cons, zcK, e1]
        rcases hb with hb | hb
        · rw [zcL, hb, zcM]
        · rw [zcL, hb, zcN]
      rw [e3, List.all_cons, hp, Bool.true_and]
      exact h4
    · refine ⟨ρ2, h2, .inr ⟨by rw [List.all_cons, hp, Bool.false_and], ?_⟩⟩
      rw [List.map_cons, zcK, e1, zcL, hb, zcP]
/-- the numbers of a range as a list -/
def rng (lo : Int) (n : Nat) : List Int := (List.range n).map fun i => lo + (i : Nat)
theorem rangeD_rng (lo : Int) (n : Nat) : rangeD lo n = (rng lo n).map D.int := by
  unfold rangeD rng
  rw [List.map_map]
  rfl
theorem mem_rng {lo : Int} {n : Nat} {x : Int} : x ∈ rng lo n ↔ lo ≤ x ∧ x < lo + (n : Nat) := by
  unfold rng
  rw [List.mem_map]
  constructor
  · rintro ⟨i, hi, rfl⟩
    have := List.mem_range.mp hi
    omega
  · rintro ⟨h1, h2⟩
    refine ⟨(x - lo).toNat, List.mem_range.mpr (by omega), by omega⟩
theorem nodup_rng (lo : Int) (n : Nat) : (rng lo n).Nodup := by
  unfold rng
  refine List.pairwise_map.mpr (List.nodup_range.imp fun {a b} h e => h (by omega))
theorem rng_len (lo : Int) (n : Nat) : (rng lo n).length = n := by unfold rng; rw [List.length_map, List.length_range]
end
end G

namespace G
open PySem PySem.Spec PyProof.Rows L2

/-! ### comprehensions and loops, told so that rw finds them -/
section
variable {g : XG} {tt : XT} {te : XV} {vs : List Nat} {ρ : Rho}
theorem lcMap {α β : Type} {e1 : α → D} (e2 : β → D) (φ : α → β) {l : List α} (h : ∀ a ∈ l, lcStep g tt te vs (e1 a) ρ = .ok (some (e2 (φ a))) ρ) : lcRun g tt te vs (l.map e1) [] ρ = .ok ((l.map φ).map e2) ρ := lcRun_map φ l [] h
theorem lcFilt {α β : Type} {e1 : α → D} (e2 : β → D) (p : α → Bool) (φ : α → β) {l : List α} (h : ∀ a ∈ l, lcStep g tt te vs (e1 a) ρ = .ok (if p a = true then some (e2 (φ a)) else none) ρ) : lcRun g tt te vs (l.map e1) [] ρ = .ok (((l.filter p).map φ).map e2) ρ := lcRun_filter p φ l [] h
variable {body : XS}
/-- a loop over things of one kind, each turn to its end; I tells the state ahead of each turn -/
theorem for_list {α : Type} {e : α → D} (I : Nat → Rho → Prop) {l : List α} {ρ : Rho} (h0 : I 0 ρ) (hs : ∀ (i : Nat) (a : α) (ρ : Rho), l[i]? = some a → I i ρ → ∃ ρ1, g (e a) ρ = some ρ1 ∧ ∃ ρ2, (body ρ1 = .nx ρ2 ∨ body ρ1 = .cnt ρ2) ∧ I (i + 1) ρ2) : ∃ ρ', forRun g body (l.map e) ρ = .nx ρ' ∧ I l.length ρ' := by
  have := forRun_inv (g := g) (body := body) I (l.map e) 0 ρ h0 (fun i d ρ hd hI => by
    rw [List.getElem?_map] at hd
    cases q : l[i]? with
    | none => rw [q] at hd; cases hd
    | some a =>
      rw [q] at hd
      cases hd
      rw [Nat.zero_add] at hI ⊢
      exact hs i a ρ q hI)
  rw [List.length_map, Nat.zero_add] at this
  exact this
end
/-! ### cells -/
abbrev cells (cs : List (Int × Int)) : D := .lst (cs.map cellP)
theorem in_cells (x y : Int) (cs : List (Int × Int)) : inD (.tup [.int x, .int y]) (.lst (cs.map cellP)) = some (decide ((x, y) ∈ cs)) := inD_enc (α := Int × Int) (by decide) (x, y) cs
theorem in_cellP (p : Int × Int) (cs : List (Int × Int)) : inD (cellP p) (.lst (cs.map cellP)) = some (decide (p ∈ cs)) := inD_enc (α := Int × Int) (by decide) p cs
theorem eq_cellP (p q : Int × Int) : eqD (cellP p) (cellP q) = some (decide (p = q)) := eqD_enc (α := Int × Int) (by decide) p q
theorem sorted_cells (cs : List (Int × Int)) : dSorted [.lst (cs.map cellP)] = some (.lst ((sortE cs).map cellP)) := dSorted_enc (α := Int × Int) (by decide) cs
theorem eq_cells (l m : List (Int × Int)) : eqD (.lst (l.map cellP)) (.lst (m.map cellP)) = some (decide (l = m)) := eqD_enc (α := List (Int × Int)) (by decide) l m
theorem eq_cells_nil (l : List (Int × Int)) : eqD (.lst (l.map cellP)) (.lst []) = some (decide (l = [])) := eq_cells l []
theorem in_pics (cs : List (Int × Int)) (L : List (List (Int × Int))) : inD (.lst (cs.map cellP)) (.lst (L.map cells)) = some (decide (cs ∈ L)) := inD_enc (α := List (Int × Int)) (by decide) cs L
theorem eq_pics (L M : List (List (Int × Int))) : eqD (.lst (L.map cells)) (.lst (M.map cells)) = some (decide (L = M)) := eqD_enc (α := List (List (Int × Int))) (by decide) L M
theorem sorted_ints (ns : List Int) : dSorted [.lst (ns.map D.int)] = some (.lst ((sortE ns).map D.int)) := dSorted_enc (α := Int) (by decide) ns
theorem sz {α : Type} {f : α → D} {l : List α} (h : l.length ≤ 1000) : (l.map f).length ≤ sizeLine := by
  rw [List.length_map]
  exact Nat.le_trans h (by rw [sizeLine_eq]; decide)
theorem szl {α : Type} {f : α → D} {l : List α} (h : l.length ≤ 1000) : (l.map f).length < sizeLine := by
  rw [List.length_map]
  exact Nat.lt_of_le_of_lt h (by rw [sizeLine_eq]; decide)
theorem szn {n : Nat} (h : n ≤ 1000) : n ≤ sizeLine := Nat.le_trans h (by rw [sizeLine_eq]; decide)
theorem isiS_list (ds : List D) : scal dIsi [.lst ds, .ty "list"] = some (.bl true) := rfl
theorem isi_list (ds : List D) : dIsi [.lst ds, .ty "list"] = some (.bl true) := rfl
theorem isi_tup (ds : List D) : dIsi [.tup ds, .ty "tuple"] = some (.bl true) := rfl
theorem isi_int (n : Int) : dIsi [.int n, .ty "int"] = some (.bl true) := rfl
theorem isi_intb (n : Int) : dIsi [.int n, .ty "bool"] = some (.bl false) := rfl
theorem isi_bl (b : Bool) : dIsi [.bl b, .ty "bool"] = some (.bl true) := by cases b <;> rfl
theorem list_list (ds : List D) : dList [.lst ds] = some (.lst ds) := rfl
theorem list_tup (ds : List D) : dList [.tup ds] = some (.lst ds) := rfl
theorem tuple_lst (ds : List D) : dTuple [.lst ds] = some (.tup ds) := rfl
theorem all_bl (bs : List Bool) : dAll [.lst (bs.map D.bl)] = some (.bl (bs.all id)) := by
  unfold dAll dItL
  simp only [Option.bind_some, dBools_bl, Option.map_some]
theorem is_bl (b : Bool) : dIs (.bl b) .non = some (.bl false) := rfl
theorem is_non : dIs .non .non = some (.bl true) := rfl
theorem isn_bl (b : Bool) : dIsNot (.bl b) .non = some (.bl true) := rfl
theorem isn_non : dIsNot .non .non = some (.bl false) := rfl
theorem atI_map {α : Type} (f : α → D) (l : List α) {r : Int} (h0 : 0 ≤ r) (h1 : r < ((l.map f).length : Nat)) : ∃ t ∈ l, atI (l.map f) r = some (f t) := by
  obtain ⟨k, rfl⟩ := Int.eq_ofNat_of_zero_le h0
  rw [List.length_map] at h1
  have hk : k < l.length := by omega
  refine ⟨l[k], List.getElem_mem hk, atI_nat ?_⟩
  rw [List.getElem?_map, List.getElem?_eq_getElem hk]
  rfl
theorem atI_map' {α : Type} (f : α → D) (l : List α) {r : Int} (h0 : 0 ≤ r) (h1 : r < (l.length : Nat)) : ∃ t ∈ l, atI (l.map f) r = some (f t) := atI_map f l h0 (by rw [List.length_map]; exact h1)
def mn (i j : Int) : Int := if j < i then j else i
def mx (i j : Int) : Int := if j > i then j else i
theorem dMin2_ap (i j : Int) : dMin2 [.int i, .int j] = some (.int (mn i j)) := rfl
theorem dMax2_ap (i j : Int) : dMax2 [.int i, .int j] = some (.int (mx i j)) := rfl
/-! ### the neighbours -/
def N4 : List (Int × Int) := [(-1, 0), (0, -1), (0, 1), (1, 0)]
def N6 : List (Int × Int) := [(-1, -1), (-1, 0), (0, -1), (0, 1), (1, 0), (1, 1)]
def N8 : List (Int × Int) := [(-1, -1), (-1, 0), (-1, 1), (0, -1), (0, 1), (1, -1), (1, 0), (1, 1)]
def near : Int → List (Int × Int)
  | 4 => N4
  | 6 => N6
  | _ => N8
theorem near_len (k : Int) : (near k).length ≤ 8 := by
  unfold near
  split <;> decide
/-! ### the turnings -/
def app (t : Q4) (p : Int × Int) : Int × Int := (t.a * p.1 + t.b * p.2, t.c * p.1 + t.d * p.2)
abbrev q4 (t : Q4) : D := .tup [.int t.a, .int t.b, .int t.c, .int t.d]
def Small (t : Q4) : Prop := (-2 < t.a ∧ t.a < 2) ∧ (-2 < t.b ∧ t.b < 2) ∧ (-2 < t.c ∧ t.c < 2) ∧ -2 < t.d ∧ t.d < 2
instance (t : Q4) : Decidable (Small t) := by unfold Small; infer_instance
theorem Small.m {t : Q4} (h : Small t) (z : Int) : CMulA t.a z ∧ CMulA t.b z ∧ CMulA t.c z ∧ CMulA t.d z := by
  obtain ⟨h1, h2, h3, h4⟩ := h
  exact ⟨CMulA.l _ ⟨by omega, by omega⟩, CMulA.l _ ⟨by omega, by omega⟩, CMulA.l _ ⟨by omega, by omega⟩, CMulA.l _ ⟨by omega, by omega⟩⟩
def T4 : List Q4 := [⟨-1, 0, 0, -1⟩, ⟨-1, 0, 0, 1⟩, ⟨0, -1, -1, 0⟩, ⟨0, -1, 1, 0⟩, ⟨0, 1, -1, 0⟩, ⟨0, 1, 1, 0⟩, ⟨1, 0, 0, -1⟩, ⟨1, 0, 0, 1⟩]
def T6 : List Q4 := [⟨-1, 0, -1, 1⟩, ⟨-1, 0, 0, -1⟩, ⟨-1, 1, -1, 0⟩, ⟨-1, 1, 0, 1⟩, ⟨0, -1, -1, 0⟩, ⟨0, -1, 1, -1⟩, ⟨0, 1, -1, 1⟩, ⟨0, 1, 1, 0⟩, ⟨1, -1, 0, -1⟩, ⟨1, -1, 1, 0⟩, ⟨1, 0, 0, 1⟩, ⟨1, 0, 1, -1⟩]
def turns : Int → List Q4
  | 6 => T6
  | _ => T4
def inv (t : Q4) : Q4 := ⟨(t.a * t.d - t.b * t.c) * t.d, -((t.a * t.d - t.b * t.c) * t.b), -((t.a * t.d - t.b * t.c) * t.c), (t.a * t.d - t.b * t.c) * t.a⟩
theorem turns_small {k : Int} {t : Q4} (h : t ∈ turns k) : Small t := by
  unfold turns at h
  split at h
  · exact (show ∀ t ∈ T6, Small t by decide) t h
  · exact (show ∀ t ∈ T4, Small t by decide) t h
theorem turns_inv {k : Int} {t : Q4} (h : t ∈ turns k) : inv t ∈ turns k := by
  unfold turns at h ⊢
  split at h
  · exact (show ∀ t ∈ T6, inv t ∈ T6 by decide) t h
  · exact (show ∀ t ∈ T4, inv t ∈ T4 by decide) t h
theorem turns_len (k : Int) : (turns k).length ≤ 12 ∧ 0 < (turns k).length := by
  unfold turns
  split <;> decide
theorem turns_one (k : Int) : (⟨1, 0, 0, 1⟩ : Q4) ∈ turns k := by
  unfold turns
  split <;> decide
/-- one turning behind another -/
def mulQ (s t : Q4) : Q4 := ⟨s.a * t.a + s.b * t.c, s.a * t.b + s.b * t.d, s.c * t.a + s.d * t.c, s.c * t.b + s.d * t.d⟩
theorem turns_or (k : Int) : turns k = T6 ∨ turns k = T4 := by
  unfold turns
  split
  · exact .inl rfl
  · exact .inr rfl
theorem turns_mul {k : Int} {s t : Q4} (h : s ∈ turns k) (h2 : t ∈ turns k) : mulQ s t ∈ turns k := by
  rcases turns_or k with e | e <;> rw [e] at h h2 ⊢
  · exact (show ∀ s ∈ T6, ∀ t ∈ T6, mulQ s t ∈ T6 by decide) s h t h2
  · exact (show ∀ s ∈ T4, ∀ t ∈ T4, mulQ s t ∈ T4 by decide) s h t h2
theorem app_mul (s t : Q4) (p : Int × Int) : app s (app t p) = app (mulQ s t) p := by
  obtain ⟨x, y⟩ := p
  simp only [app, mulQ, Prod.mk.injEq, Int.add_mul, Int.mul_add, Int.mul_assoc]
  constructor <;> omega
theorem app_inv {k : Int} {t : Q4} (h : t ∈ turns k) (p : Int × Int) : app (inv t) (app t p) = p := by
  have h' : t ∈ T4 ∨ t ∈ T6 := by
    unfold turns at h
    split at h
    · exact .inr h
    · exact .inl h
  obtain ⟨x, y⟩ := p
  rcases h' with h' | h' <;> simp only [T4, T6, List.mem_cons, List.not_mem_nil, or_false] at h'
  · rcases h' with rfl | rfl | rfl | rfl | rfl | rfl | rfl | rfl <;> simp only [app, inv, Prod.mk.injEq] <;> omega
  · rcases h' with rfl | rfl | rfl | rfl | rfl | rfl | rfl | rfl | rfl | rfl | rfl | rfl <;> simp only [app, inv, Prod.mk.injEq] <;> omega
theorem app_one (p : Int × Int) : app ⟨1, 0, 0, 1⟩ p = p := by
  obtain ⟨x, y⟩ := p
  simp [app]
/-- a picture turned -/
def turnP (t : Q4) (cs : List (Int × Int)) : List (Int × Int) := sortE (cs.map (app t))
theorem turnP_mul (s t : Q4) (cs : List (Int × Int)) : turnP s (turnP t cs) = turnP (mulQ s t) cs := by
  unfold turnP
  rw [sortE_cong ((sortE_perm _).map (app s)), List.map_map]
  congr 1
  exact List.map_congr_left fun p _ => app_mul s t p
theorem turnP_inv {k : Int} {t : Q4} (h : t ∈ turns k) (cs : List (Int × Int)) : turnP (inv t) (turnP t cs) = sortE cs := by
  unfold turnP
  rw [sortE_cong ((sortE_perm _).map (app (inv t))), List.map_map]
  congr 1
  rw [show app (inv t) ∘ app t = id from funext fun p => app_inv h p, List.map_id]
theorem turnP_one (cs : List (Int × Int)) : turnP ⟨1, 0, 0, 1⟩ cs = sortE cs := by
  unfold turnP
  rw [show app ⟨1, 0, 0, 1⟩ = id from funext app_one, List.map_id]
theorem turnP_len (t : Q4) (cs : List (Int × Int)) : (turnP t cs).length = cs.length := by unfold turnP; rw [sortE_length, List.length_map]
theorem turnP_sort (t : Q4) (cs : List (Int × Int)) : sortE (turnP t cs) = turnP t cs := sortE_sortE _
theorem turnP_perm {l m : List (Int × Int)} (h : l.Perm m) (t : Q4) : turnP t l = turnP t m := sortE_cong (h.map _)
/-! ### moves -/
def sh (d p : Int × Int) : Int × Int := (p.1 + d.1, p.2 + d.2)
theorem leE_sh (d p q : Int × Int) : leE (sh d p) (sh d q) = leE p q := by
  rw [leE_pair, leE_pair]
  unfold sh
  by_cases h : p.1 < q.1 ∨ p.1 = q.1 ∧ p.2 ≤ q.2
  · rw [decide_eq_true h, decide_eq_true (by simp only; omega)]
  · rw [decide_eq_false h, decide_eq_false (by simp only; omega)]
theorem sortE_sh (d : Int × Int) (cs : List (Int × Int)) : sortE (cs.map (sh d)) = (sortE cs).map (sh d) := isortB_map _ (leE_sh d) cs
theorem sh_sh (d e p : Int × Int) : sh d (sh e p) = sh (e.1 + d.1, e.2 + d.2) p := by
  unfold sh
  simp only [Prod.mk.injEq]
  constructor <;> omega
theorem sh_zero (p : Int × Int) : sh (0, 0) p = p := by
  unfold sh
  simp
theorem app_sh (t : Q4) (d p : Int × Int) : app t (sh d p) = sh (app t d) (app t p) := by
  obtain ⟨x, y⟩ := p
  obtain ⟨u, v⟩ := d
  simp only [app, sh, Prod.mk.injEq, Int.mul_add]
  constructor <;> omega
theorem turnP_sh (t : Q4) (d : Int × Int) (cs : List (Int × Int)) : turnP t (cs.map (sh d)) = (turnP t cs).map (sh (app t d)) := by
  unfold turnP
  rw [← sortE_sh, List.map_map, List.map_map]
  congr 1
  exact List.map_congr_left fun p _ => app_sh t d p
/-! the plain side -/
theorem zfb {a b : List D} (h : a.length + b.length ≤ sizeLine) : dAdd (.lst a) (.lst b) = some (.lst (a ++ b)) := if_pos h
theorem zfc {a b : List D} (h : a.length + b.length ≤ sizeLine) : dAddL (.lst a) (.lst b) = some (.lst (a ++ b)) := if_pos h
theorem sz_1 : 1 ≤ sizeLine := szn (by decide)
theorem sz_2 : 2 ≤ sizeLine := szn (by decide)
theorem sz_3 : 3 ≤ sizeLine := szn (by decide)
theorem sz_4 : 4 ≤ sizeLine := szn (by decide)
theorem sz_0 : 0 ≤ sizeLine := szn (by decide)
theorem zfd : 0 < sizeLine := by rw [sizeLine_eq]; decide
theorem zfe (ds : List D) : scal dIsi [.lst ds, .ty "list"] = some (.bl true) := rfl
theorem zff (ds : List D) : dIsi [.lst ds, .ty "list"] = some (.bl true) := rfl
theorem zfg (ds : List D) : dIsi [.tup ds, .ty "tuple"] = some (.bl true) := rfl
theorem zfh (n : Int) : dIsi [.int n, .ty "int"] = some (.bl true) := rfl
theorem zfi (n : Int) : dIsi [.int n, .ty "bool"] = some (.bl false) := rfl
theorem zfj (b : Bool) : dIsi [.bl b, .ty "bool"] = some (.bl true) := by cases b <;> rfl
theorem zfk (ds : List D) : dList [.lst ds] = some (.lst ds) := rfl
theorem zfl (ds : List D) : dList [.tup ds] = some (.lst ds) := rfl
theorem zfm (ds : List D) : dTuple [.lst ds] = some (.tup ds) := rfl
theorem zfn (b : Bool) : dIs (.bl b) .non = some (.bl false) := rfl
theorem zfo : dIs .non .non = some (.bl true) := rfl
theorem zfp (b : Bool) : dIsNot (.bl b) .non = some (.bl true) := rfl
theorem zfq : dIsNot .non .non = some (.bl false) := rfl
theorem zfr (ds : List D) : dIs (.tup ds) .non = some (.bl false) := rfl
theorem zfs (ds : List D) : dIsNot (.tup ds) .non = some (.bl true) := rfl
theorem zft (ds : List D) : dIs (.lst ds) .non = some (.bl false) := rfl
theorem zfu (ds : List D) : dIsNot (.lst ds) .non = some (.bl true) := rfl
theorem zfv (i j : Int) : dMin2 [.int i, .int j] = some (.int (mn i j)) := rfl
theorem zfw (i j : Int) : dMax2 [.int i, .int j] = some (.int (mx i j)) := rfl
theorem nc_0 : ((0 : Nat) : Int) = 0 := rfl
theorem nc_1 : ((1 : Nat) : Int) = 1 := rfl
theorem nc_2 : ((2 : Nat) : Int) = 2 := rfl
theorem nc_3 : ((3 : Nat) : Int) = 3 := rfl
theorem nc_4 : ((4 : Nat) : Int) = 4 := rfl
theorem nc_5 : ((5 : Nat) : Int) = 5 := rfl
theorem nc_6 : ((6 : Nat) : Int) = 6 := rfl
theorem nc_7 : ((7 : Nat) : Int) = 7 := rfl
theorem nc_8 : ((8 : Nat) : Int) = 8 := rfl
theorem nc_9 : ((9 : Nat) : Int) = 9 := rfl
theorem zfx : ((10 : Nat) : Int) = 10 := rfl
theorem zfy : ((11 : Nat) : Int) = 11 := rfl
theorem zfz : ((12 : Nat) : Int) = 12 := rfl
theorem zfA : ((13 : Nat) : Int) = 13 := rfl
theorem zfB : ((14 : Nat) : Int) = 14 := rfl
theorem zfC : ((15 : Nat) : Int) = 15 := rfl
theorem zfD : ((16 : Nat) : Int) = 16 := rfl
theorem zfE : ((17 : Nat) : Int) = 17 := rfl
theorem zfF : ((18 : Nat) : Int) = 18 := rfl
theorem zfG : ((19 : Nat) : Int) = 19 := rfl
theorem zfH : ((20 : Nat) : Int) = 20 := rfl
end G

set_option maxHeartbeats 4000000
namespace G
open PySem PySem.Spec PyProof.Rows L2
local macro_rules | `(tactic| simp! [$ls,*] $[$loc:location]?) => `(tactic| simp only [zaa, zab, zac, zad, zae, zaf, zag, zah, zai, zaj, zak, zal, zam, zan, zao, zap, zaq, zar, zas, zat, zau, zav, zaw, zax, zay, zaz, zaA, zaB, zaC, zaD, zaE, zaF, zaG, zaH, zaI, zaJ, zaK, zaL, zaM, zaN, zaO, zaP, zaQ, zaR, zaS, zaT, zaU, zaV, zaW, zaX, zaY, zaZ, zba, zbb, zbc, zbd, zbe, zbf, zbg, zbh, zbi, zbj, zbk, zbl, zbm, zbn, zbo, zbp, zbq, zbr, zbs, zbt, zbu, zbv, zbw, zbx, zby, zbz, zbA, zbB, zbC, zbD, zbE, zbF, zbG, zbH, zbI, zbJ, zbK, zbL, zbM, zbN, zbO, zbP, zbQ, zbR, zbS, zbT, zbU, zbV, zbW, zbX, zbY, zbZ, zca, zcb, zcc, zcd, zce, zcf, zcg, zch, zci, zcj, zck, zcl, zcm, zcn, zco, zcp, zcq, zcr, zcs, zct, zcu, zcv, zcw, zcx, zcy, zcz, zcA, zcB, zcC, zcD, zcE, zcF, zcG, zcH, zcI, zcJ, zcK, zcL, zcM, zcN, zcO, zcP, zcQ, zcR, zcS, zcT, zcU, zcV, zcW, zcX, zcY, zcZ, zda, zdb, zdc, zdd, zde, zdf, zdg, zdh, zdi, zdj, zdk, zdl, zdm, zdn, zdo, zdp, zdq, zdr, zds, zdt, zdu, zdv, zdw, zdx, zdy, zdz, zdA, zdB, zdC, zdD, zdE, zdF, zdG, zdH, zdI, zdJ, zdK, zdL, zdM, zdN, zdO, zdP, zdQ, zdR, zdS, zdT, zdU, zdV, G.of_f, G.of_t, zdW, zdX, zdY, zdZ, zea, zeb, zec, zed, zee, zef, zeg, zeh, zei, zej, zek, zel, zem, zen, zeo, zep, zeq, zer, zes, zet, zeu, zev, zew, zex, zey, zez, zeA, zeB, zeC, zeD, zeE, zeF, zeG, zeH, zeI, zeJ, zeK, zeL, zeM, zeN, zeO, zeP, zeQ, zeR, zeS, zeT, zeU, zeV, zeW, zeX, zeY, zeZ, zfa, zfb, zfc, G.sz_1, G.sz_2, G.sz_3, G.sz_4, G.sz_0, zfd, zfe, zff, zfg, zfh, zfi, zfj, zfk, zfl, zfm, zfn, zfo, zfp, zfq, zfr, zfs, zft, zfu, zfv, zfw, G.nc_0, G.nc_1, G.nc_2, G.nc_3, G.nc_4, G.nc_5, G.nc_6, G.nc_7, G.nc_8, G.nc_9, zfx, zfy, zfz, zfA, zfB, zfC, zfD, zfE, zfF, zfG, zfH, List.getElem?_cons_zero, List.getElem?_cons_succ, List.set_cons_zero, List.set_cons_succ, G.atI_0, G.atI_1, G.atI_2, G.atI_3, Option.map_some, Option.bind_some, G.eqD_int, G.eqD_cell, G.eqD_bl, List.length_cons, List.length_nil, List.getD_cons_zero, List.getD_cons_succ, Bool.and_true, Bool.and_self, decide_true, decide_false, Bool.not_true, Bool.not_false, List.append_nil, List.nil_append, List.cons_append, if_true, if_false, Bool.false_eq_true, reduceIte, Int.reduceLT, Int.reduceLE, Int.reduceToNat, Int.reducePow, Int.reduceNeg, Int.reduceAdd, Int.reduceSub, Int.reduceMul, Nat.reduceAdd, Int.reduceEq, List.replicate, Nat.reduceSub, and_self, and_true, true_and, $ls,*] $[$loc]?)

noncomputable def pb_moved : XS := (xSeq (xAsg (xVar 1) (gsTup 2 (gsCons (gSet 2) (gsCons (gSet 3) gsNil))))
    (xRet (xLC (xItO 0) (gsTup 2 (gsCons (gSet 4) (gsCons (gSet 5) gsNil))) xYes (xOpL dTup (xCons (xOp2 dAdd (xVar 4) (xVar 2)) (xCons (xOp2 dAdd (xVar 5) (xVar 3)) xNil))) [4, 5])))
noncomputable def p_moved : DF := runP [true, false] 6 true pb_moved
noncomputable def pb_box_of : XS := (xSeq (xIfS (xTest (xCmpOL dEq 0 (xOpL dLst xNil)))
    (xRet (xC .non))
    xNext)
    (xSeq (xSet 1 (xLC (xItO 0) (gsTup 2 (gsCons (gSet 2) (gsCons (gSet 3) gsNil))) xYes (xVar 2) [2, 3]))
    (xSeq (xSet 4 (xLC (xItO 0) (gsTup 2 (gsCons (gSet 2) (gsCons (gSet 3) gsNil))) xYes (xVar 3) [2, 3]))
    (xRet (xOpL dTup (xCons (xOpL (dBest minDD) (xCons (xVar 1) xNil)) (xCons (xOpL (dBest minDD) (xCons (xVar 4) xNil)) (xCons (xOp2 dAdd (xOp2 dSub (xOpL (dBest maxDD) (xCons (xVar 1) xNil)) (xOpL (dBest minDD) (xCons (xVar 1) xNil))) (xC (.int 1))) (xCons (xOp2 dAdd (xOp2 dSub (xOpL (dBest maxDD) (xCons (xVar 4) xNil)) (xOpL (dBest minDD) (xCons (xVar 4) xNil))) (xC (.int 1))) xNil)))))))))
noncomputable def p_box_of : DF := runP [true] 5 false pb_box_of
noncomputable def pb_at_nought : XS := (xSeq (xSet 1 (xCall p_box_of (xConsO 0 xNil)))
    (xSeq (xIfS (xTest (xOp2 dIs (xVar 1) (xC .non)))
    (xRet (xOpL dLst xNil))
    xNext)
    (xRet (xCall p_moved (xConsO 0 (xCons (xOpL dTup (xCons (xOp2 dSub (xC (.int 0)) (xOp2 dIx (xVar 1) (xC (.int 0)))) (xCons (xOp2 dSub (xC (.int 0)) (xOp2 dIx (xVar 1) (xC (.int 1)))) xNil))) xNil))))))
noncomputable def p_at_nought : DF := runP [true] 2 true pb_at_nought
noncomputable def pb_is_near : XS := (xRet (xOrV (xOp2 dEq (xVar 0) (xC (.int 8))) (xOrV (xOp2 dEq (xVar 1) (xC (.int 0))) (xOrV (xOp2 dEq (xVar 2) (xC (.int 0))) (xAndV (xOp2 dEq (xVar 0) (xC (.int 6))) (xOp2 dEq (xVar 1) (xVar 2)))))))
noncomputable def p_is_near : DF := runP [false, false, false] 3 false pb_is_near
noncomputable def pb_around_1 : XS := (xAppend 1 (xOpL dTup (xCons (xVar 2) (xCons (xVar 3) xNil))))
noncomputable def pb_around_2 : XS := (xFor (xItR2 (xOp1 dNeg (xC (.int 1))) (xC (.int 2))) (gSet 3) pb_around_1)
noncomputable def pb_around : XS := (xSeq (xSetO 1 (xOpL dLst xNil))
    (xSeq (xFor (xItR2 (xOp1 dNeg (xC (.int 1))) (xC (.int 2))) (gSet 2) pb_around_2)
    (xRet (xTake 1))))
noncomputable def p_around : DF := runP [] 4 true pb_around
noncomputable def pb_offsets : XS := (xSeq (xSet 1 (xLC (xIt (xCall p_around xNil)) (gsTup 2 (gsCons (gSet 2) (gsCons (gSet 3) gsNil))) (xTest (xCall p_is_near (xCons (xVar 0) (xCons (xVar 2) (xCons (xVar 3) xNil))))) (xOpL dTup (xCons (xVar 2) (xCons (xVar 3) xNil))) [2, 3]))
    (xRet (xLC (xIt (xVar 1)) (gSet 4) (xTest (xOp2 dNe (xVar 4) (xOpL dTup (xCons (xC (.int 0)) (xCons (xC (.int 0)) xNil))))) (xVar 4) [4])))
noncomputable def p_offsets : DF := runP [false] 5 true pb_offsets
noncomputable def pb_turned : XS := (xSeq (xAsg (xVar 1) (gsTup 4 (gsCons (gSet 2) (gsCons (gSet 3) (gsCons (gSet 4) (gsCons (gSet 5) gsNil))))))
    (xRet (xOpL dSorted (xCons (xLC (xItO 0) (gsTup 2 (gsCons (gSet 6) (gsCons (gSet 7) gsNil))) xYes (xOpL dTup (xCons (xOp2 dAdd (xOp2 dMul (xVar 2) (xVar 6)) (xOp2 dMul (xVar 3) (xVar 7))) (xCons (xOp2 dAdd (xOp2 dMul (xVar 4) (xVar 6)) (xOp2 dMul (xVar 5) (xVar 7))) xNil))) [6, 7]) xNil))))
noncomputable def p_turned : DF := runP [true, false] 8 true pb_turned
noncomputable def pb_turnings_1 : XS := (xIfS (xTest (xOp2 dEq (xCall p_turned (xConsR (xVar 1) (xCons (xOpL dTup (xCons (xVar 3) (xCons (xVar 5) (xCons (xVar 4) (xCons (xVar 6) xNil))))) xNil))) (xVar 1)))
    (xAppend 2 (xOpL dTup (xCons (xVar 3) (xCons (xVar 5) (xCons (xVar 4) (xCons (xVar 6) xNil))))))
    xNext)
noncomputable def pb_turnings_2 : XS := (xFor (xIt (xVar 1)) (gsTup 2 (gsCons (gSet 5) (gsCons (gSet 6) gsNil))) pb_turnings_1)
noncomputable def pb_turnings : XS := (xSeq (xSet 1 (xCall p_offsets (xCons (xVar 0) xNil)))
    (xSeq (xSetO 2 (xOpL dLst xNil))
    (xSeq (xFor (xIt (xVar 1)) (gsTup 2 (gsCons (gSet 3) (gsCons (gSet 4) gsNil))) pb_turnings_2)
    (xRet (xOpL dSorted (xConsO 2 xNil))))))
noncomputable def p_turnings : DF := runP [false] 7 true pb_turnings
noncomputable def pb_form : XS := (xRet (xOpL (dBest minDD) (xCons (xLC (xIt (xCall p_turnings (xCons (xVar 0) xNil))) (gSet 2) xYes (xCall p_at_nought (xConsR (xCall p_turned (xConsO 1 (xCons (xVar 2) xNil))) xNil)) [2]) xNil)))
noncomputable def p_form : DF := runP [false, true] 3 false pb_form
noncomputable def pb_are_alike : XS := (xRet (xOp2 dEq (xCall p_form (xCons (xVar 0) (xConsO 1 xNil))) (xCall p_form (xCons (xVar 0) (xConsO 2 xNil)))))
noncomputable def p_are_alike : DF := runP [false, true, true] 3 false pb_are_alike
/-! ### the least, the greatest of data of one kind -/
section
variable {α : Type} [Enc α]
def minE (x : α) (xs : List α) : α := xs.foldl (fun a y => if leE a y = true then a else y) x
def maxE (x : α) (xs : List α) : α := xs.foldl (fun a y => if leE y a = true then a else y) x
theorem minDD_enc : ∀ (xs : List α) (x : α), minDD (Enc.enc x) (xs.map Enc.enc) = Enc.enc (minE x xs)
  | [], _ => rfl
  | y :: xs, x => by
    show minDD (if PySem.W.dataLt (pyOf (Enc.enc y)) (pyOf (Enc.enc x)) = true then Enc.enc y else Enc.enc x) (xs.map Enc.enc) = Enc.enc (minE (if leE x y = true then x else y) xs)
    rw [← minDD_enc xs, pyOf_enc, pyOf_enc]
    unfold leE
    cases PySem.W.dataLt (Enc.py y) (Enc.py x) <;> rfl
theorem maxDD_enc : ∀ (xs : List α) (x : α), maxDD (Enc.enc x) (xs.map Enc.enc) = Enc.enc (maxE x xs)
  | [], _ => rfl
  | y :: xs, x => by
    show maxDD (if PySem.W.dataLt (pyOf (Enc.enc x)) (pyOf (Enc.enc y)) = true then Enc.enc y else Enc.enc x) (xs.map Enc.enc) = Enc.enc (maxE (if leE y x = true then x else y) xs)
    rw [← maxDD_enc xs, pyOf_enc, pyOf_enc]
    unfold leE
    cases PySem.W.dataLt (Enc.py x) (Enc.py y) <;> rfl
def leastE : List α → Option α
  | [] => none
  | x :: xs => some (minE x xs)
def greatE : List α → Option α
  | [] => none
  | x :: xs => some (maxE x xs)
theorem minE_mem : ∀ (xs : List α) (x : α), minE x xs ∈ x :: xs
  | [], x => List.mem_cons_self ..
  | y :: xs, x => by
    have h := minE_mem xs (if leE x y = true then x else y)
    show minE (if leE x y = true then x else y) xs ∈ _
    rcases List.mem_cons.mp h with h | h
    · rw [h]
      split
      · exact List.mem_cons_self ..
      · exact List.mem_cons_of_mem _ (List.mem_cons_self ..)
    · exact List.mem_cons_of_mem _ (List.mem_cons_of_mem _ h)
theorem maxE_mem : ∀ (xs : List α) (x : α), maxE x xs ∈ x :: xs
  | [], x => List.mem_cons_self ..
  | y :: xs, x => by
    have h := maxE_mem xs (if leE y x = true then x else y)
    show maxE (if leE y x = true then x else y) xs ∈ _
    rcases List.mem_cons.mp h with h | h
    · rw [h]
      split
      · exact List.mem_cons_self ..
      · exact List.mem_cons_of_mem _ (List.mem_cons_self ..)
    · exact List.mem_cons_of_mem _ (List.mem_cons_of_mem _ h)
theorem leE_refl (a : α) : leE a a = true := by
  have := (leE_total (α := α)).total a a
  simpa using this
theorem leE_tr {a b c : α} (h1 : leE a b = true) (h2 : leE b c = true) : leE a c = true := (leE_total (α := α)).trans a b c h1 h2
theorem leE_or (a b : α) : leE a b = true ∨ leE b a = true := by
  have := (leE_total (α := α)).total a b
  simpa using this
theorem minE_le : ∀ (xs : List α) (x : α), ∀ y ∈ x :: xs, leE (minE x xs) y = true
  | [], x, y, h => by
    rw [List.mem_singleton.mp h]
    exact leE_refl x
  | z :: xs, x, y, h => by
    have ih := minE_le xs (if leE x z = true then x else z)
    show leE (minE (if leE x z = true then x else z) xs) y = true
    have h0 := ih _ (List.mem_cons_self ..)
    rcases List.mem_cons.mp h with rfl | h
    · refine leE_tr h0 ?_
      split
      · exact leE_refl _
      · rename_i hn
        exact (leE_or y z).resolve_left hn
    · rcases List.mem_cons.mp h with rfl | h
      · refine leE_tr h0 ?_
        split
        · rename_i hy; exact hy
        · exact leE_refl _
      · exact ih _ (List.mem_cons_of_mem _ h)
theorem maxE_le : ∀ (xs : List α) (x : α), ∀ y ∈ x :: xs, leE y (maxE x xs) = true
  | [], x, y, h => by
    rw [List.mem_singleton.mp h]
    exact leE_refl x
  | z :: xs, x, y, h => by
    have ih := maxE_le xs (if leE z x = true then x else z)
    show leE y (maxE (if leE z x = true then x else z) xs) = true
    have h0 := ih _ (List.mem_cons_self ..)
    rcases List.mem_cons.mp h with rfl | h
    · refine leE_tr ?_ h0
      split
      · exact leE_refl _
      · rename_i hn
        exact (leE_or z y).resolve_left hn
    · rcases List.mem_cons.mp h with rfl | h
      · refine leE_tr ?_ h0
        split
        · rename_i hy; exact hy
        · exact leE_refl _
      · exact ih _ (List.mem_cons_of_mem _ h)
theorem leastE_spec {l : List α} {m : α} (h : leastE l = some m) : m ∈ l ∧ ∀ y ∈ l, leE m y = true := by
  cases l with
  | nil => cases h
  | cons x xs => cases h; exact ⟨minE_mem xs x, minE_le xs x⟩
theorem greatE_spec {l : List α} {m : α} (h : greatE l = some m) : m ∈ l ∧ ∀ y ∈ l, leE y m = true := by
  cases l with
  | nil => cases h
  | cons x xs => cases h; exact ⟨maxE_mem xs x, maxE_le xs x⟩
variable [EncS α]
theorem leastE_of {l : List α} {m : α} (hm : m ∈ l) (hl : ∀ y ∈ l, leE m y = true) : leastE l = some m := by
  cases h : leastE l with
  | none => cases l with
    | nil => cases hm
    | cons _ _ => cases h
  | some n =>
    obtain ⟨h1, h2⟩ := leastE_spec h
    rw [leE_anti n m (h2 m hm) (hl n h1)]
theorem greatE_of {l : List α} {m : α} (hm : m ∈ l) (hl : ∀ y ∈ l, leE y m = true) : greatE l = some m := by
  cases h : greatE l with
  | none => cases l with
    | nil => cases hm
    | cons _ _ => cases h
  | some n =>
    obtain ⟨h1, h2⟩ := greatE_spec h
    rw [leE_anti n m (hl n h1) (h2 m hm)]
theorem leastE_cong {l m : List α} (h : ∀ x, x ∈ l ↔ x ∈ m) : leastE l = leastE m := by
  cases q : leastE m with
  | none => cases m with
    | nil => cases l with
      | nil => rfl
      | cons x xs => exact absurd ((h x).mp (List.mem_cons_self ..)) List.not_mem_nil
    | cons _ _ => cases q
  | some n =>
    obtain ⟨h1, h2⟩ := leastE_spec q
    exact leastE_of ((h n).mpr h1) fun y hy => h2 y ((h y).mp hy)
theorem minOk_enc (h : Enc.dp α ≤ 64) (l : List α) : minOk (l.map Enc.py) = true := by
  unfold minOk
  simp only [Bool.and_eq_true, List.all_eq_true, decide_eq_true_eq]
  refine ⟨⟨⟨fun x hx y hy => ?_, fun x hx => ?_⟩, Nat.le_trans (dep_map l) h⟩, lay_map l⟩
  · obtain ⟨a, _, rfl⟩ := List.mem_map.mp hx
    obtain ⟨b, _, rfl⟩ := List.mem_map.mp hy
    exact EncS.ali a b
  · obtain ⟨a, _, rfl⟩ := List.mem_map.mp hx
    rcases EncS.srt (α := α) with k | k
    · have := k a
      split
      · rename_i e; rw [e] at this; cases this
      · rfl
    · have := k a
      split
      · rename_i e; rw [e] at this; cases this
      · rfl
theorem best_enc (h : Enc.dp α ≤ 64) (l : List α) : dBest minDD [.lst (l.map Enc.enc)] = (leastE l).map Enc.enc := by
  unfold dBest dItL
  cases l with
  | nil => rfl
  | cons x xs =>
    simp only [Option.bind_some, List.map_cons]
    have e := toPys_map (x :: xs)
    rw [List.map_cons] at e
    rw [e]
    have k := minOk_enc h (x :: xs)
    simp only [Option.bind_some]
    rw [if_pos k, minDD_enc]
    rfl
theorem bestX_enc (h : Enc.dp α ≤ 64) (l : List α) : dBest maxDD [.lst (l.map Enc.enc)] = (greatE l).map Enc.enc := by
  unfold dBest dItL
  cases l with
  | nil => rfl
  | cons x xs =>
    simp only [Option.bind_some, List.map_cons]
    have e := toPys_map (x :: xs)
    rw [List.map_cons] at e
    rw [e]
    have k := minOk_enc h (x :: xs)
    simp only [Option.bind_some]
    rw [if_pos k, maxDD_enc]
    rfl
end
theorem min_ints (l : List Int) : dBest minDD [.lst (l.map D.int)] = (leastE l).map D.int := best_enc (α := Int) (by decide) l
theorem max_ints (l : List Int) : dBest maxDD [.lst (l.map D.int)] = (greatE l).map D.int := bestX_enc (α := Int) (by decide) l
theorem min_pics (l : List (List (Int × Int))) : dBest minDD [.lst (l.map cells)] = (leastE l).map cells := best_enc (α := List (Int × Int)) (by decide) l
theorem leastE_add (c : Int) (l : List Int) : leastE (l.map (· + c)) = (leastE l).map (· + c) := by
  cases h : leastE l with
  | none => cases l with
    | nil => rfl
    | cons _ _ => cases h
  | some m =>
    obtain ⟨h1, h2⟩ := leastE_spec h
    refine leastE_of (List.mem_map.mpr ⟨m, h1, rfl⟩) fun y hy => ?_
    obtain ⟨z, hz, rfl⟩ := List.mem_map.mp hy
    have := h2 z hz
    rw [leE_int, decide_eq_true_eq] at this ⊢
    show m + c ≤ z + c
    omega
/-! ### moved, box_of, at_nought -/
/-- a picture moved to least numbers 0 -/
def laid (cs : List (Int × Int)) : List (Int × Int) := match leastE (cs.map (·.1)), leastE (cs.map (·.2)) with
  | some a, some b => cs.map (sh (0 - a, 0 - b))
  | _, _ => []
theorem laid_nil : laid [] = [] := rfl
theorem laid_cons (p : Int × Int) (r : List (Int × Int)) : laid (p :: r) = (p :: r).map (sh (0 - minE p.1 (r.map (·.1)), 0 - minE p.2 (r.map (·.2)))) := rfl
theorem laid_ex (cs : List (Int × Int)) : ∃ d, laid cs = cs.map (sh d) := by
  cases cs with
  | nil => exact ⟨(0, 0), rfl⟩
  | cons p r => exact ⟨_, rfl⟩
theorem laid_sh (d : Int × Int) (cs : List (Int × Int)) : laid (cs.map (sh d)) = laid cs := by
  unfold laid
  have e1 : (cs.map (sh d)).map (·.1) = (cs.map (·.1)).map (· + d.1) := by rw [List.map_map, List.map_map]; rfl
  have e2 : (cs.map (sh d)).map (·.2) = (cs.map (·.2)).map (· + d.2) := by rw [List.map_map, List.map_map]; rfl
  rw [e1, e2, leastE_add, leastE_add]
  cases leastE (cs.map (·.1)) with
  | none => rfl
  | some a => cases leastE (cs.map (·.2)) with
    | none => rfl
    | some b =>
      show (cs.map (sh d)).map (sh (0 - (a + d.1), 0 - (b + d.2))) = cs.map (sh (0 - a, 0 - b))
      rw [List.map_map]
      refine List.map_congr_left fun p _ => ?_
      show sh _ (sh d p) = _
      unfold sh
      simp only [Prod.mk.injEq]
      constructor <;> omega
theorem laid_len (cs : List (Int × Int)) : (laid cs).length = cs.length := by
  obtain ⟨d, e⟩ := laid_ex cs
  rw [e, List.length_map]
theorem laid_laid (cs : List (Int × Int)) : laid (laid cs) = laid cs := by
  obtain ⟨d, e⟩ := laid_ex cs
  rw [e, laid_sh, e]
theorem laid_sort (cs : List (Int × Int)) (h : sortE cs = cs) : sortE (laid cs) = laid cs := by
  obtain ⟨d, e⟩ := laid_ex cs
  rw [e, sortE_sh, h]
theorem moved_is (cs : List (Int × Int)) (d : Int × Int) (hl : cs.length ≤ 1000) : p_moved [cells cs, .tup [.int d.1, .int d.2]] = .ok (cells (cs.map (sh d))) [] := by
  have hz := sz (f := cellP) hl
  unfold p_moved pb_moved
  simp! [hz, cells]
  rw [lcMap cellP (sh d)]
  · simp! [zaa]
  · intro p _
    simp! [sh]
/-- what box_of tells -/
def boxD (cs : List (Int × Int)) : D := match leastE (cs.map (·.1)), leastE (cs.map (·.2)), greatE (cs.map (·.1)), greatE (cs.map (·.2)) with
  | some a, some b, some c, some d => .tup [.int a, .int b, .int (c - a + 1), .int (d - b + 1)]
  | _, _, _, _ => .non
theorem box_is (cs : List (Int × Int)) (hl : cs.length ≤ 1000) : p_box_of [cells cs] = .ok (boxD cs) [] := by
  have hz := sz (f := cellP) hl
  unfold p_box_of pb_box_of
  by_cases h : cs = []
  · subst h
    simp! [eq_cells_nil, cells]
    rfl
  · simp! [eq_cells_nil, cells, h, hz]
    rw [lcMap D.int (·.1)]
    · simp! [hz, hl]
      rw [lcMap D.int (·.2)]
      · obtain ⟨p, r, rfl⟩ := List.exists_cons_of_ne_nil h
        have l1 : leastE ((p :: r).map (·.1)) = some (minE p.1 (r.map (·.1))) := rfl
        have l2 : leastE ((p :: r).map (·.2)) = some (minE p.2 (r.map (·.2))) := rfl
        have l3 : greatE ((p :: r).map (·.1)) = some (maxE p.1 (r.map (·.1))) := rfl
        have l4 : greatE ((p :: r).map (·.2)) = some (maxE p.2 (r.map (·.2))) := rfl
        simp! [min_ints, max_ints, l1, l2, l3, l4]
        rfl
      · intro p _
        simp! [zaa]
    · intro p _
      simp! [zaa]
theorem nought_is (cs : List (Int × Int)) (hl : cs.length ≤ 1000) : p_at_nought [cells cs] = .ok (cells (laid cs)) [] := by
  have e := box_is cs hl
  unfold p_at_nought pb_at_nought
  cases cs with
  | nil =>
    simp! [cells] at e
    simp! [cells, e]
    rfl
  | cons p r =>
    have e' : p_box_of [cells (p :: r)] = .ok (.tup [.int (minE p.1 (r.map (·.1))), .int (minE p.2 (r.map (·.2))), .int (maxE p.1 (r.map (·.1)) - minE p.1 (r.map (·.1)) + 1), .int (maxE p.2 (r.map (·.2)) - minE p.2 (r.map (·.2)) + 1)]) [] := e
    have m := moved_is (p :: r) (0 - minE p.1 (r.map (·.1)), 0 - minE p.2 (r.map (·.2))) hl
    rw [← laid_cons] at m
    simp! [e', m]
/-! ### offsets, turned, turnings, form -/
theorem off4 : p_offsets [.int 4] = .ok (cells N4) [] := by kernel_rfl
theorem off6 : p_offsets [.int 6] = .ok (cells N6) [] := by kernel_rfl
theorem off8 : p_offsets [.int 8] = .ok (cells N8) [] := by kernel_rfl
abbrev Kind (k : Int) : Prop := k = 4 ∨ k = 6 ∨ k = 8
theorem off_is (k : Int) (hk : Kind k) : p_offsets [.int k] = .ok (cells (near k)) [] := by
  rcases hk with rfl | rfl | rfl
  · exact off4
  · exact off6
  · exact off8
theorem turned_is (cs : List (Int × Int)) (t : Q4) (ht : Small t) (hl : cs.length ≤ 1000) : p_turned [cells cs, q4 t] = .ok (cells (turnP t cs)) [] := by
  have hz := sz (f := cellP) hl
  unfold p_turned pb_turned
  simp! [hz, cells, q4]
  rw [lcMap cellP (app t)]
  · simp! [sorted_cells]
    rfl
  · intro p _
    obtain ⟨x, y⟩ := p
    obtain ⟨k1, k2, k3, k4⟩ := ht.m x
    obtain ⟨j1, j2, j3, j4⟩ := ht.m y
    simp! [k1, k3, j2, j4, app]
theorem tur4 : p_turnings [.int 4] = .ok (.lst (T4.map q4)) [] := by kernel_rfl
theorem tur6 : p_turnings [.int 6] = .ok (.lst (T6.map q4)) [] := by kernel_rfl
theorem tur8 : p_turnings [.int 8] = .ok (.lst (T4.map q4)) [] := by kernel_rfl
theorem tur_is (k : Int) (hk : Kind k) : p_turnings [.int k] = .ok (.lst ((turns k).map q4)) [] := by
  rcases hk with rfl | rfl | rfl
  · exact tur4
  · exact tur6
  · exact tur8
/-- the form of a picture -/
def Form (k : Int) (cs : List (Int × Int)) : List (Int × Int) := (leastE ((turns k).map fun t => laid (turnP t cs))).getD []
theorem form_some (k : Int) (cs : List (Int × Int)) : leastE ((turns k).map fun t => laid (turnP t cs)) = some (Form k cs) := by
  unfold Form
  rcases turns_or k with e | e <;> rw [e] <;> rfl
theorem form_is (k : Int) (hk : Kind k) (cs : List (Int × Int)) (hl : cs.length ≤ 1000) : p_form [.int k, cells cs] = .ok (cells (Form k cs)) [] := by
  have e := tur_is k hk
  have hz : ((turns k).map q4).length ≤ sizeLine := sz (by have := turns_len k; omega)
  unfold p_form pb_form
  simp! [e, hz, cells]
  rw [lcMap cells (fun t => laid (turnP t cs))]
  · simp! [min_pics, form_some]
  · intro t ht
    have e1 := turned_is cs t (turns_small ht) hl
    have e2 := nought_is (turnP t cs) (by rw [turnP_len]; exact hl)
    simp! [cells, q4] at e1 e2
    simp! [cells, q4, e1, e2]
theorem form_mem (k : Int) (cs : List (Int × Int)) : ∃ t ∈ turns k, Form k cs = laid (turnP t cs) := by
  obtain ⟨h, _⟩ := leastE_spec (form_some k cs)
  obtain ⟨t, ht, e⟩ := List.mem_map.mp h
  exact ⟨t, ht, e.symm⟩
theorem form_perm (k : Int) {cs ds : List (Int × Int)} (h : cs.Perm ds) : Form k cs = Form k ds := by
  unfold Form
  congr 2
  exact List.map_congr_left fun t _ => by rw [turnP_perm h]
theorem form_turn {k : Int} {t : Q4} (ht : t ∈ turns k) (d : Int × Int) (cs : List (Int × Int)) : Form k ((turnP t cs).map (sh d)) = Form k cs := by
  unfold Form
  congr 1
  refine leastE_cong fun x => ?_
  constructor
  · intro h
    obtain ⟨s, hs, rfl⟩ := List.mem_map.mp h
    refine List.mem_map.mpr ⟨mulQ s t, turns_mul hs ht, ?_⟩
    show _ = laid (turnP s ((turnP t cs).map (sh d)))
    rw [turnP_sh, laid_sh, turnP_mul]
  · intro h
    obtain ⟨u, hu, rfl⟩ := List.mem_map.mp h
    refine List.mem_map.mpr ⟨mulQ u (inv t), turns_mul hu (turns_inv ht), ?_⟩
    show laid (turnP (mulQ u (inv t)) ((turnP t cs).map (sh d))) = _
    rw [turnP_sh, laid_sh, ← turnP_mul, turnP_inv ht, turnP_perm (sortE_perm cs)]
theorem sh_inv (d p : Int × Int) : sh (-d.1, -d.2) (sh d p) = p := by
  unfold sh
  obtain ⟨x, y⟩ := p
  simp only [Prod.mk.injEq]
  constructor <;> omega
theorem alike_iff (k : Int) (cs ds : List (Int × Int)) : Form k cs = Form k ds ↔ ∃ t ∈ turns k, ∃ d, (turnP t cs).map (sh d) = sortE ds := by
  constructor
  · intro h
    obtain ⟨t, ht, e1⟩ := form_mem k cs
    obtain ⟨s, hs, e2⟩ := form_mem k ds
    obtain ⟨d1, f1⟩ := laid_ex (turnP t cs)
    obtain ⟨d2, f2⟩ := laid_ex (turnP s ds)
    have h2 : (turnP t cs).map (sh d1) = (turnP s ds).map (sh d2) := by rw [← f1, ← f2, ← e1, ← e2, h]
    have h3 := congrArg (turnP (inv s)) h2
    rw [turnP_sh, turnP_sh, turnP_mul, turnP_inv hs] at h3
    refine ⟨mulQ (inv s) t, turns_mul (turns_inv hs) ht, (( app (inv s) d1).1 + -(app (inv s) d2).1, (app (inv s) d1).2 + -(app (inv s) d2).2), ?_⟩
    have h4 := congrArg (List.map (sh (-(app (inv s) d2).1, -(app (inv s) d2).2))) h3
    rw [List.map_map, List.map_map] at h4
    rw [show sh (-(app (inv s) d2).1, -(app (inv s) d2).2) ∘ sh (app (inv s) d2) = id from funext fun p => sh_inv _ p, List.map_id] at h4
    rw [← h4]
    refine List.map_congr_left fun p _ => ?_
    show _ = sh _ (sh _ p)
    rw [sh_sh]
  · rintro ⟨t, ht, d, e⟩
    rw [form_perm k (sortE_perm ds).symm, ← e, form_turn ht]
theorem form_len (k : Int) (cs : List (Int × Int)) : (Form k cs).length = cs.length := by
  obtain ⟨t, ht, e⟩ := form_mem k cs
  rw [e, laid_len, turnP_len]
theorem form_form (k : Int) (cs : List (Int × Int)) : Form k (Form k cs) = Form k cs := by
  obtain ⟨t, ht, e⟩ := form_mem k cs
  obtain ⟨d, f⟩ := laid_ex (turnP t cs)
  rw [e, f, form_turn ht, e, f]
theorem form_sort (k : Int) (cs : List (Int × Int)) : sortE (Form k cs) = Form k cs := by
  obtain ⟨t, ht, e⟩ := form_mem k cs
  rw [e, laid_sort _ (turnP_sort t cs)]
theorem alike_is (k : Int) (hk : Kind k) (cs ds : List (Int × Int)) (hl : cs.length ≤ 1000) (hm : ds.length ≤ 1000) : p_are_alike [.int k, cells cs, cells ds] = .ok (.bl (decide (Form k cs = Form k ds))) [] := by
  have e1 := form_is k hk cs hl
  have e2 := form_is k hk ds hm
  unfold p_are_alike pb_are_alike
  simp! [cells] at e1 e2
  simp! [cells, e1, e2, eq_cells]
end G

set_option maxHeartbeats 4000000
namespace G
open PySem PySem.Spec PyProof.Rows L2
local macro_rules | `(tactic| simp! [$ls,*] $[$loc:location]?) => `(tactic| simp only [zaa, zab, zac, zad, zae, zaf, zag, zah, zai, zaj, zak, zal, zam, zan, zao, zap, zaq, zar, zas, zat, zau, zav, zaw, zax, zay, zaz, zaA, zaB, zaC, zaD, zaE, zaF, zaG, zaH, zaI, zaJ, zaK, zaL, zaM, zaN, zaO, zaP, zaQ, zaR, zaS, zaT, zaU, zaV, zaW, zaX, zaY, zaZ, zba, zbb, zbc, zbd, zbe, zbf, zbg, zbh, zbi, zbj, zbk, zbl, zbm, zbn, zbo, zbp, zbq, zbr, zbs, zbt, zbu, zbv, zbw, zbx, zby, zbz, zbA, zbB, zbC, zbD, zbE, zbF, zbG, zbH, zbI, zbJ, zbK, zbL, zbM, zbN, zbO, zbP, zbQ, zbR, zbS, zbT, zbU, zbV, zbW, zbX, zbY, zbZ, zca, zcb, zcc, zcd, zce, zcf, zcg, zch, zci, zcj, zck, zcl, zcm, zcn, zco, zcp, zcq, zcr, zcs, zct, zcu, zcv, zcw, zcx, zcy, zcz, zcA, zcB, zcC, zcD, zcE, zcF, zcG, zcH, zcI, zcJ, zcK, zcL, zcM, zcN, zcO, zcP, zcQ, zcR, zcS, zcT, zcU, zcV, zcW, zcX, zcY, zcZ, zda, zdb, zdc, zdd, zde, zdf, zdg, zdh, zdi, zdj, zdk, zdl, zdm, zdn, zdo, zdp, zdq, zdr, zds, zdt, zdu, zdv, zdw, zdx, zdy, zdz, zdA, zdB, zdC, zdD, zdE, zdF, zdG, zdH, zdI, zdJ, zdK, zdL, zdM, zdN, zdO, zdP, zdQ, zdR, zdS, zdT, zdU, zdV, G.of_f, G.of_t, zdW, zdX, zdY, zdZ, zea, zeb, zec, zed, zee, zef, zeg, zeh, zei, zej, zek, zel, zem, zen, zeo, zep, zeq, zer, zes, zet, zeu, zev, zew, zex, zey, zez, zeA, zeB, zeC, zeD, zeE, zeF, zeG, zeH, zeI, zeJ, zeK, zeL, zeM, zeN, zeO, zeP, zeQ, zeR, zeS, zeT, zeU, zeV, zeW, zeX, zeY, zeZ, zfa, zfb, zfc, G.sz_1, G.sz_2, G.sz_3, G.sz_4, G.sz_0, zfd, zfe, zff, zfg, zfh, zfi, zfj, zfk, zfl, zfm, zfn, zfo, zfp, zfq, zfr, zfs, zft, zfu, zfv, zfw, G.nc_0, G.nc_1, G.nc_2, G.nc_3, G.nc_4, G.nc_5, G.nc_6, G.nc_7, G.nc_8, G.nc_9, zfx, zfy, zfz, zfA, zfB, zfC, zfD, zfE, zfF, zfG, zfH, List.getElem?_cons_zero, List.getElem?_cons_succ, List.set_cons_zero, List.set_cons_succ, G.atI_0, G.atI_1, G.atI_2, G.atI_3, Option.map_some, Option.bind_some, G.eqD_int, G.eqD_cell, G.eqD_bl, List.length_cons, List.length_nil, List.getD_cons_zero, List.getD_cons_succ, Bool.and_true, Bool.and_self, decide_true, decide_false, Bool.not_true, Bool.not_false, List.append_nil, List.nil_append, List.cons_append, if_true, if_false, Bool.false_eq_true, reduceIte, Int.reduceLT, Int.reduceLE, Int.reduceToNat, Int.reducePow, Int.reduceNeg, Int.reduceAdd, Int.reduceSub, Int.reduceMul, Nat.reduceAdd, Int.reduceEq, List.replicate, Nat.reduceSub, and_self, and_true, true_and, $ls,*] $[$loc]?)

/-! ### is, is not beside None, True, False -/
def rIsC : R2 := fun x y H Q => (y = .non ∨ ∃ b, y = .bl b) ∧ Q (.bl (decide (x = y))) H
def rNotC : R2 := fun x y H Q => (y = .non ∨ ∃ b, y = .bl b) ∧ Q (.bl (!decide (x = y))) H
theorem plain_c {x y : V} {v u : Value} (rx : RelV x v) (ry : RelV y u) (h : y = .non ∨ ∃ b, y = .bl b) : plainIs v u = true ∧ (v = u ↔ x = y) := by
  rcases h with rfl | ⟨b, rfl⟩
  · cases (show u = Value.none from ry)
    cases x <;> (first | (obtain ⟨t, rfl⟩ := rx) | (cases (show v = _ from rx))) <;> exact ⟨rfl, by simp⟩
  · cases (show u = Value.bool b from ry)
    cases x <;> (first | (obtain ⟨t, rfl⟩ := rx) | (cases (show v = _ from rx))) <;> exact ⟨rfl, by simp⟩
theorem op_isC {X : Cx} : OpR X (compareOp .Is) rIsC := by
  intro pins s σ H x y v u Q I rx ry h
  obtain ⟨hy, q⟩ := h
  obtain ⟨h1, h2⟩ := plain_c rx ry hy
  refine wpAny_is_plain h1 ⟨.bl (decide (x = y)), H, I, ?_, q⟩
  show Value.bool (v == u) = Value.bool (decide (x = y))
  by_cases e : x = y
  · rw [decide_eq_true e, beq_iff_eq.mpr (h2.mpr e)]
  · rw [decide_eq_false e, beq_eq_false_iff_ne.mpr fun z => e (h2.mp z)]
theorem op_notC {X : Cx} : OpR X (compareOp .IsNot) rNotC := by
  intro pins s σ H x y v u Q I rx ry h
  obtain ⟨hy, q⟩ := h
  obtain ⟨h1, h2⟩ := plain_c rx ry hy
  refine wpAny_isNot_plain h1 ⟨.bl (!decide (x = y)), H, I, ?_, q⟩
  show Value.bool (!(v == u)) = Value.bool (!decide (x = y))
  by_cases e : x = y
  · rw [decide_eq_true e, beq_iff_eq.mpr (h2.mpr e)]
  · rw [decide_eq_false e, beq_eq_false_iff_ne.mpr fun z => e (h2.mp z)]
def isBlD (b : Bool) : D → Bool
  | .bl c => c == b
  | _ => false
def isC (x : D) : D → Option Bool
  | .non => some (isNon x)
  | .bl b => some (isBlD b x)
  | _ => none
def dIsC (x y : D) : Option D := (isC x y).map .bl
def dNotC (x y : D) : Option D := (isC x y).map fun b => .bl (!b)
theorem isC_of {K : PySem.W.Frag} {F : Hp} {v w : V} {x y : D} {b : Bool} (rv : Rp K F v x) (rw' : Rp K F w y) (h : isC x y = some b) : (w = .non ∨ ∃ b, w = .bl b) ∧ b = decide (v = w) := by
  unfold isC at h
  split at h
  · cases h; cases rw'
    exact ⟨.inl rfl, isNon_of rv⟩
  · rename_i c
    cases h; cases rw'
    refine ⟨.inr ⟨_, rfl⟩, ?_⟩
    cases rv <;> simp [isBlD]
    rename_i d
    by_cases e : d = c
    · subst e; simp
    · rw [decide_eq_false e]
      simpa using e
  · cases h
theorem imp_isC {K : PySem.W.Frag} : Imp2 K dIsC rIsC := fun F H v w x y d Q ex rv rw' e o => by
  unfold dIsC at e
  cases q : isC x y with
  | none => rw [q] at e; cases e
  | some b =>
    rw [q] at e; cases e
    obtain ⟨h1, h2⟩ := isC_of rv rw' q
    refine ⟨h1, ?_⟩
    rw [← h2]
    exact o.here ex (.bl _)
theorem imp_notC {K : PySem.W.Frag} : Imp2 K dNotC rNotC := fun F H v w x y d Q ex rv rw' e o => by
  unfold dNotC at e
  cases q : isC x y with
  | none => rw [q] at e; cases e
  | some b =>
    rw [q] at e; cases e
    obtain ⟨h1, h2⟩ := isC_of rv rw' q
    refine ⟨h1, ?_⟩
    rw [← h2]
    exact o.here ex (.bl _)
/-! ### numbers of the laws -/
noncomputable def bNum12 : XS := (xSeq (xSet 1 (xCallB fDraw 0 (xCons (xC (.int 12)) xNil)))
    (xSeq (xIfS (xTest (xOp2 dLt (xVar 1) (xC (.int 9))))
    (xRet (xOp2 dSub (xCallB fDraw 0 (xCons (xC (.int 9)) xNil)) (xC (.int 4))))
    xNext)
    (xSeq (xIfS (xTest (xOp2 dEq (xVar 1) (xC (.int 9))))
    (xRet (xOp2 dSub (xCallB fDraw 0 (xCons (xOp2 dPow (xC (.int 10)) (xC (.int 9))) xNil)) (xOp2 dMul (xC (.int 5)) (xOp2 dPow (xC (.int 10)) (xC (.int 8))))))
    xNext)
    (xSeq (xSet 2 (xOp2 dSub (xOp2 dIx (xOpL dLst (xCons (xOp2 dPow (xC (.int 10)) (xC (.int 40))) (xCons (xOp2 dSub (xOp2 dPow (xC (.int 10)) (xC (.int 60))) (xC (.int 1))) xNil))) (xOp2 dSub (xVar 1) (xC (.int 10)))) (xCallB fDraw 0 (xCons (xC (.int 3)) xNil))))
    (xRet (xOp2 dMul (xVar 2) (xOp2 dSub (xC (.int 1)) (xOp2 dMul (xC (.int 2)) (xCallB fDraw 0 (xCons (xC (.int 2)) xNil))))))))))
noncomputable def fNum12 : DF := runB [] 3 false bNum12
theorem num12_ex {n : Nat} {p : D} (h : PenOk n p) (hn : n + 20 < 2 ^ 60) : ∃ (x : Int) (p' : D), fNum12 [p] = .ok (.int x) [p'] ∧ PenOk (n + 3) p' := by
  unfold fNum12 bNum12
  obtain ⟨x1, p1, e1, a1, b1, h1⟩ := draw_ex h (by omega) (m := 12) (by decide) (by decide)
  by_cases hx : x1 < 9
  · obtain ⟨x2, p2, e2, _, _, h2⟩ := draw_ex h1 (by omega) (m := 9) (by decide) (by decide)
    simp! [e1, e2, hx]
    exact ⟨_, _, rfl, h2.mono (by omega)⟩
  · by_cases hy : x1 = 9
    · subst hy
      have c1 : CPow 10 9 := cpow10 ⟨by decide, by decide⟩
      have c2 : CPow 10 8 := cpow10 ⟨by decide, by decide⟩
      have m1 : CMulA 5 100000000 := CMulA.l _ ⟨by decide, by decide⟩
      obtain ⟨x2, p2, e2, _, _, h2⟩ := draw_ex h1 (by omega) (m := 1000000000) (by decide) (by decide)
      simp! [e1, e2, c1, c2, m1]
      exact ⟨_, _, rfl, h2.mono (by omega)⟩
    · have c1 : CPow 10 40 := cpow10 ⟨by decide, by decide⟩
      have c2 : CPow 10 60 := cpow10 ⟨by decide, by decide⟩
      obtain ⟨x2, p2, e2, _, _, h2⟩ := draw_ex h1 (by omega) (m := 3) (by decide) (by decide)
      obtain ⟨x3, p3, e3, a3, b3, h3⟩ := draw_ex h2 (by omega) (m := 2) (by decide) (by decide)
      have m1 : CMulA 2 x3 := CMulA.l _ ⟨by decide, by decide⟩
      have m2 : ∀ z : Int, CMulA z (1 - 2 * x3) := fun z => CMulA.r _ ⟨by omega, by omega⟩
      rcases (show x1 = 10 ∨ x1 = 11 by omega) with rfl | rfl
      · simp! [e1, e2, e3, c1, c2, m1, m2]
        exact ⟨_, _, rfl, h3.mono (by omega)⟩
      · simp! [e1, e2, e3, c1, c2, m1, m2]
        exact ⟨_, _, rfl, h3.mono (by omega)⟩

/-! ### slices -/
theorem cutG_map {α β : Type} (f : α → β) (l : List α) (lo hi : Option Int) : cutG (l.map f) lo hi = (cutG l lo hi).map f := by
  unfold cutG
  rw [List.length_map, List.map_take, List.map_drop]
theorem cutG_to {α : Type} (l : List α) (n : Nat) : cutG l none (some (n : Int)) = l.take n := by
  unfold cutG
  rw [HT.sIx_none, HT.sIx_nat, List.drop_zero, Nat.sub_zero]
  by_cases h : n ≤ l.length
  · rw [Nat.min_eq_left h]
  · rw [Nat.min_eq_right (by omega), List.take_of_length_le (Nat.le_refl _), List.take_of_length_le (by omega)]
theorem cutG_from {α : Type} (l : List α) (n : Nat) : cutG l (some (n : Int)) none = l.drop n := by
  unfold cutG
  rw [HT.sIx_none, HT.sIx_nat]
  by_cases h : n ≤ l.length
  · rw [Nat.min_eq_left h, List.take_of_length_le (by rw [List.length_drop]; exact Nat.le_refl _)]
  · rw [Nat.min_eq_right (by omega), List.drop_of_length_le (by omega), List.drop_of_length_le (by omega), List.take_nil]
/-! ### the turnings as the laws find them -/
def LT4 : List Q4 := [⟨-1, 0, 0, -1⟩, ⟨-1, 0, 0, 1⟩, ⟨0, -1, -1, 0⟩, ⟨0, 1, -1, 0⟩, ⟨0, -1, 1, 0⟩, ⟨0, 1, 1, 0⟩, ⟨1, 0, 0, -1⟩, ⟨1, 0, 0, 1⟩]
def LT6 : List Q4 := [⟨-1, 0, -1, 1⟩, ⟨-1, 1, -1, 0⟩, ⟨-1, 0, 0, -1⟩, ⟨-1, 1, 0, 1⟩, ⟨0, -1, -1, 0⟩, ⟨0, 1, -1, 1⟩, ⟨0, -1, 1, -1⟩, ⟨0, 1, 1, 0⟩, ⟨1, -1, 0, -1⟩, ⟨1, 0, 0, 1⟩, ⟨1, -1, 1, 0⟩, ⟨1, 0, 1, -1⟩]
def lturns : Int → List Q4
  | 6 => LT6
  | _ => LT4
theorem lturns_in (k : Int) (t : Q4) : t ∈ lturns k ↔ t ∈ turns k := by
  have h : (lturns k = LT6 ∧ turns k = T6) ∨ (lturns k = LT4 ∧ turns k = T4) := by
    unfold lturns turns
    split
    · exact .inl ⟨rfl, rfl⟩
    · rename_i h
      refine .inr ⟨rfl, ?_⟩
      first
        | rfl
        | (split
           · exact (h rfl).elim
           · rfl)
  rcases h with ⟨e1, e2⟩ | ⟨e1, e2⟩ <;> rw [e1, e2]
  · exact ⟨(show ∀ t ∈ LT6, t ∈ T6 by decide) t, (show ∀ t ∈ T6, t ∈ LT6 by decide) t⟩
  · exact ⟨(show ∀ t ∈ LT4, t ∈ T4 by decide) t, (show ∀ t ∈ T4, t ∈ LT4 by decide) t⟩
theorem lturns_len (k : Int) : (lturns k).length ≤ 12 := by
  unfold lturns
  split <;> decide
theorem sort_sub {l m : List (Int × Int)} (h : l.Sublist m) (hm : sortE m = m) : sortE l = l := by
  have p := sortE_pw m
  rw [hm] at p
  exact sortE_of_pw (p.sublist h)
/-- a picture moved so that its first cell is q -/
def shifted (l : List (Int × Int)) (q : Int × Int) : List (Int × Int) := match l with
  | [] => []
  | p :: _ => l.map (sh (q.1 - p.1, q.2 - p.2))
theorem shifted_iff (l : List (Int × Int)) (q : Int × Int) (r : List (Int × Int)) (hl : l ≠ []) : shifted l q = q :: r ↔ ∃ d, l.map (sh d) = q :: r := by
  cases l with
  | nil => exact absurd rfl hl
  | cons p s =>
    constructor
    · exact fun h => ⟨_, h⟩
    · rintro ⟨d, h⟩
      have e : sh d p = q := by
        rw [List.map_cons] at h
        exact (List.cons.inj h).1
      rw [← h]
      show (p :: s).map (sh (q.1 - p.1, q.2 - p.2)) = _
      have : (q.1 - p.1, q.2 - p.2) = d := by
        obtain ⟨a, b⟩ := d
        subst e
        show (p.1 + a - p.1, p.2 + b - p.2) = (a, b)
        simp only [Prod.mk.injEq]
        constructor <;> omega
      rw [this]
/-! the plain side -/
theorem zfI (b c : Bool) : dIsC (.bl b) (.bl c) = some (.bl (b == c)) := rfl
theorem zfJ (b c : Bool) : dNotC (.bl b) (.bl c) = some (.bl (!(b == c))) := rfl
theorem zfK : (true == true) = true := rfl
theorem zfL : (false == false) = true := rfl
theorem zfM : (true == false) = false := rfl
theorem zfN : (false == true) = false := rfl
end G

set_option maxHeartbeats 4000000
namespace G
open PySem PySem.Spec PyProof.Rows L2

/-! ### slots that hold no object of their own -/
section
variable {K : PySem.W.Frag} {F H F1 H1 : Hp} {ρ ρ1 : Rho} {σ σ1 : L2.St}
theorem Go.setSlot {i : Nat} {s : Slot} {o : Option V} (h0 : i ≠ 0) (hs : ∀ d, s ≠ .own d) (hr : ∀ d, s ≠ .rd d) (r : Rel K F H ρ σ) (rv : SRel K F H s o) : Go K ρ σ F H (ρ.set i s) (σ.set i o) F H where
  rel := by
    refine ⟨r.ex, by rw [List.length_set, List.length_set]; exact r.len, fun j s' o' h1 h2 => ?_, fun j k d1 d2 p h1 h2 h3 h4 => ?_, fun j d1 p h1 h2 h3 => ?_⟩
    · rcases get_set h1 with ⟨e, rfl⟩ | ⟨hj, h1⟩ <;> rcases get_set h2 with ⟨e2, rfl⟩ | ⟨hj2, h2⟩
      · exact rv
      · exact absurd e hj2
      · exact absurd e2 hj
      · exact r.at' j s' o' h1 h2
    · rcases get_set h1 with ⟨_, q⟩ | ⟨hj, h1⟩
      · exact absurd q.symm (hs d1)
      · rcases get_set h2 with ⟨_, q⟩ | ⟨hk, h2⟩
        · exact absurd q.symm (hs d2)
        · rw [List.getElem?_set_ne hj] at h3
          rw [List.getElem?_set_ne hk] at h4
          exact r.dis j k d1 d2 p h1 h2 h3 h4
    · rcases get_set h1 with ⟨_, q⟩ | ⟨hj, h1⟩
      · exact absurd q.symm (hr d1)
      · rw [List.getElem?_set_ne hj] at h2
        exact r.rdis j d1 p h1 h2 (own_set_val hs h3)
  ex := Same.refl F
  keep := fun _ _ h1 h2 _ => ⟨h1, fun _ => h2⟩
  own := fun p h => .inl (own_set_val hs h)
  low := List.getElem?_set_ne h0
  lowO := fun d h => ⟨d, by rw [List.getElem?_set_ne h0]; exact h⟩
  rdb := fun j e h => by
    rcases get_set h with ⟨_, q⟩ | ⟨hj, h⟩
    · exact absurd q.symm (hr e)
    · exact ⟨h, List.getElem?_set_ne hj⟩
end
/-! ### raise -/
/-- what a class of the program that is raised must say -/
structure ExcT (K : PySem.W.Frag) (C : Addr) : Prop where
  ex : PySem.W.excIn K C [.type "ValueError", .type "Exception", .type "BaseException", .type "object"] "ValueError.__new__" = true
  kp : PySem.W.keepIn K (.ref C) = true
  sb : PySem.W.subIn K (.ref C) (.type "BaseException") = some true
  ty : PySem.W.typeIn K (.ref C) = some (.type "type")
section
variable {X : Cx} {E : EW} {fr : Bool} {cv : String → Value} {W : WX}
def xRaise (c : String) : XS := fun ρ => .exc c ρ
theorem xs_raise {x m : Str} {c : String} {C : Addr} {j : Nat} {p p2 pos pos2 : Pos} (hc : X.calm = true) (tk : Takes X W) (T : ExcT X.K C) (gC : X.mg x = some (.ref C)) (hg : Gl X x) (hcv : cv c = .ref C) (hdb : (x == ("__debug__" : Str)) = false := by decide) :
    PS X (.Raise (some (.Call (.Name x p) [.Constant (.str m) j p2] [] pos)) none pos2) (lS X.K (EWx cv W) fr (xRaise c)) :=
  ps_imp (ps_raise hc tk (pmk_own PySem.F.excBase_ValueError T.ex gC T.kp (raises_own T.sb T.ty) hg hdb)) fun C σ H h => by
    obtain ⟨F, ρ, r, p⟩ := h
    unfold PendS xRaise at p
    rw [← hcv]
    exact p σ F H (Go.refl r)
/-! ### try: body, except X as e: suite -/
def clr (i : Nat) : Fl → Fl
  | .nx ρ => match ρ[i]? with
    | some (.adr _) => .nx (ρ.set i .emp)
    | _ => .bad
  | .brk ρ => match ρ[i]? with
    | some (.adr _) => .brk (ρ.set i .emp)
    | _ => .bad
  | .cnt ρ => match ρ[i]? with
    | some (.adr _) => .cnt (ρ.set i .emp)
    | _ => .bad
  | .ret d ρ => match ρ[i]? with
    | some (.adr _) => .ret d (ρ.set i .emp)
    | _ => .bad
  | _ => .bad
/-- what comes of a suite, wherever the exception stands -/
noncomputable def unif (i : Nat) (f : Addr → Fl) : Fl := @dite _ (∃ r, ∀ a, clr i (f a) = r) (Classical.propDecidable _) (fun h => Classical.choose h) fun _ => .bad
theorem unif_of {i : Nat} {f : Addr → Fl} {r : Fl} (h : ∀ a, clr i (f a) = r) : unif i f = r := by
  unfold unif
  have hx : ∃ r, ∀ a, clr i (f a) = r := ⟨r, h⟩
  rw [dif_pos hx]
  exact (Classical.choose_spec hx 0).symm.trans (h 0)
theorem unif_spec {i : Nat} {f : Addr → Fl} (h : unif i f ≠ .bad) (a : Addr) : clr i (f a) = unif i f := by
  unfold unif at h ⊢
  by_cases hx : ∃ r, ∀ a, clr i (f a) = r
  · rw [dif_pos hx]
    exact Classical.choose_spec hx a
  · rw [dif_neg hx] at h
    exact absurd rfl h
noncomputable def tryk (i : Nat) (cs : List String) (hit : String → Bool) (ts : String → Addr → XS) : Fl → Fl
  | .exc c ρ => if cs.contains c = true then (if hit c = true then unif i fun a => ts c a (ρ.set i (.adr a)) else .exc c ρ) else .bad
  | r => r
noncomputable def xTry (i : Nat) (cs : List String) (hit : String → Bool) (tb : XS) (ts : String → Addr → XS) : XS := fun ρ => tryk i cs hit ts (tb ρ)
theorem adr_clr {i : Nat} {ρ : Rho} {c : Rho → Fl} {b : Fl} (h : (match ρ[i]? with | some (.adr _) => c (ρ.set i .emp) | _ => .bad) = b) (hb : b ≠ .bad) : b = c (ρ.set i .emp) := by
  split at h
  · exact h.symm
  · exact absurd h.symm hb
theorem xs_try {n : Str} {x : Str} {c : Value} {i : Nat} {body suite : List Stmt} {b₀ : Stmt} {np pos pos' : Pos} {Wout : WX} {tb : XS} {ts : String → Addr → XS} {cs : List String} {hit : String → Bool} (h0 : i ≠ 0)
    (hs : X.stack = X.env :: X.outer) (hf : X.env.frame = some X.env.locals) (hN : X.N.Nodup) (hi : X.N[i]? = some n) (hln : X.env.kindOf n = some .local) (hc : Names X x c) (tk : Takes X Wout)
    (hx : ∀ k ∈ cs, PySem.W.exmOne X.K (cv k) c = some (hit k))
    (hb : ∀ (W : WX) (pn : List (Addr × Obj)) (xe : Value → Shared → Prop), Takes (X.tr pn xe) W → PassesOwn (model X.prog X.w) X.A X.env xe → PSs (X.tr pn xe) body (lS X.K (EWx cv W) fr tb))
    (hsu : ∀ k ∈ cs, hit k = true → ∀ (a : Addr) (oe : Obj) (pn : List (Addr × Obj)), Zc (cv k) none oe → (∃ vs, oe.data = .fields vs) → PSs (X.suite a ((a, oe) :: pn)) (b₀ :: suite) (lS X.K E0 fr (ts k a))) :
    PS X (.Try body [.ExceptHandler (some (.Name x np)) (some n) (b₀ :: suite) pos'] [] [] pos) (lS X.K (EWx cv Wout) fr (xTry i cs hit tb ts)) := by
  refine ps_imp (ps_try_as (i := i) (c := c) (tb := fun W => lS X.K (EWx cv W) fr tb) (ts := fun a cls d C σ H => ∃ k ∈ cs, hit k = true ∧ cls = cv k ∧ d = none ∧ lS X.K E0 fr (ts k a) C σ H) hs hf hN hi hln hc tk hb ?_) ?_
  · intro a oe cls d pn hz hv
    refine ⟨fun pins s σ H C I h => ?_⟩
    obtain ⟨k, hk, hh, rfl, rfl, h⟩ := h
    exact (hsu k hk hh a oe pn hz hv).run pins s σ H C I h
  · intro C σ H h
    obtain ⟨F, ρ, r, p⟩ := h
    refine ⟨F, ρ, r, ?_⟩
    unfold PendS xTry at p
    unfold PendS
    cases e : tb ρ with
    | nx _ => simp only [e, tryk] at p ⊢; exact p
    | ret _ _ => simp only [e, tryk] at p ⊢; exact p
    | brk _ => simp only [e, tryk] at p ⊢; exact p
    | cnt _ => simp only [e, tryk] at p ⊢; exact p
    | bad => simp only [e, tryk] at p
    | exc k ρ1 =>
      simp only [e, tryk] at p ⊢
      by_cases hk : cs.contains k = true
      · rw [if_pos hk] at p
        have hm : k ∈ cs := by simpa using hk
        intro σ' F' H' g
        refine ⟨hit k, hx k hm, fun hh a na => ?_, fun hh => ?_⟩
        · rw [if_pos hh] at p
          have hne : (unif i fun a => ts k a (ρ1.set i (.adr a))) ≠ .bad := fun z => by rw [z] at p; exact p
          have hu := unif_spec hne a
          generalize (unif i fun a => ts k a (ρ1.set i (.adr a))) = R at p hne hu
          refine ⟨k, hm, hh, rfl, rfl, ?_⟩
          have g1 := Go.setSlot (i := i) (s := .adr a) (o := some (.ref a)) h0 (fun _ z => by cases z) (fun _ z => by cases z) g.rel .adr
          refine ⟨F', _, g1.rel, ?_⟩
          have g01 := g.trans r g1
          have back : ∀ {ρ2 : Rho} {σ2 : L2.St} {F2 H2 : Hp}, Go X.K (ρ1.set i (.adr a)) (σ'.set i (some (.ref a))) F' H' ρ2 σ2 F2 H2 → Go X.K ρ σ F H (ρ2.set i .emp) (σ2.set i none) F2 H2 := fun {ρ2 σ2 F2 H2} g2 =>
            (g01.trans r g2).trans r (Go.setSlot (i := i) (s := .emp) (o := none) h0 (fun _ z => by cases z) (fun _ z => by cases z) g2.rel .emp)
          unfold PendS
          cases e2 : ts k a (ρ1.set i (.adr a)) with
          | nx ρ2 =>
            rw [e2] at hu
            have := adr_clr (c := .nx) hu hne
            subst this
            exact fun σ2 F2 H2 g2 => p _ F2 H2 (back g2)
          | brk ρ2 =>
            rw [e2] at hu
            have := adr_clr (c := .brk) hu hne
            subst this
            exact fun σ2 F2 H2 g2 => p _ F2 H2 (back g2)
          | cnt ρ2 =>
            rw [e2] at hu
            have := adr_clr (c := .cnt) hu hne
            subst this
            exact fun σ2 F2 H2 g2 => p _ F2 H2 (back g2)
          | ret d ρ2 =>
            rw [e2] at hu
            have := adr_clr (c := .ret d) hu hne
            subst this
            refine ⟨fun ef v σ2 F2 H2 g2 rv => p.1 ef v _ F2 H2 (back g2) rv, fun ef q o σ2 F2 H2 g2 k1 k2 k3 k4 k5 => p.2 ef q o _ F2 H2 (back g2) k1 k2 k3 (fun z => k4 (own_set_val (fun _ y => by cases y) z)) (own_back r g01 k5)⟩
          | exc _ _ => rw [e2] at hu; exact (hne hu.symm).elim
          | bad => rw [e2] at hu; exact (hne hu.symm).elim
        · have hf : ¬ hit k = true := fun z => by rw [hh] at z; cases z
          rw [if_neg hf] at p
          exact p σ' F' H' g
      · rw [if_neg hk] at p
        exact p.elim
/-! ### isinstance of the exception that a suite holds -/
def xIsE (a : Addr) (i : Nat) (b : Bool) : XV := fun ρ => match ρ[i]? with
  | some (.adr a') => if a' = a then .ok (.bl b) ρ else .bad
  | _ => .bad
theorem isE_of {K : PySem.W.Frag} {a : Addr} {i : Nat} {b : Bool} {σ : L2.St} {H : Hp} {Q : VK} (h : lE K E (xIsE a i b) σ H Q) : ∃ F, Same F H ∧ σ[i]? = some (some (.ref a)) ∧ ∀ F' H', Gr F H F' H' → Q (.bl b) H' := by
  obtain ⟨F, ρ, r, p⟩ := h
  unfold Pend xIsE at p
  split at p
  · rename_i d ρ' e
    split at e
    · rename_i a' ea
      split at e
      · rename_i he
        cases e
        subst he
        have hi : i < ρ.length := by
          cases Nat.lt_or_ge i ρ.length with
          | inl z => exact z
          | inr z => rw [List.getElem?_eq_none z] at ea; cases ea
        have hs : i < σ.length := r.len ▸ hi
        have z := r.at' i _ _ ea (List.getElem?_eq_getElem hs)
        refine ⟨F, r.ex, ?_, fun F' H' g => p F' H' (g.go r) _ (.bl b)⟩
        rw [List.getElem?_eq_getElem hs]
        generalize σ[i] = o at z
        cases z
        rfl
      · cases e
    · cases e
  · rename_i e
    split at e
    · split at e <;> cases e
    · cases e
  · exact p.elim
/-- isinstance(e, (c, d, ..)) -/
def rIsET (K : PySem.W.Frag) (D a : Addr) : List V → Hp → VK → Prop := fun xs H Q => ∃ (tp : Addr) (cs : List V) (cvs : List Value) (b : Bool), xs = [.ref a, .ref tp] ∧ H tp = some (.tup cs) ∧ (∀ us, Vals cs us → us = cvs) ∧ PySem.W.kitAny K (.ref D) cvs = some b ∧ Q (.bl b) H
theorem call_isET {a D : Addr} {oe : Obj} {pn : List (Addr × Obj)} (C : ExcC X.K D) (hz : Zc (.ref D) none oe) (hf : ∃ vs, oe.data = .fields vs) : CallR (X.suite a ((a, oe) :: pn)) (.builtin "isinstance") (rIsET X.K D a) := by
  intro pins s σ H xs us Q I r h
  obtain ⟨tp, cs, cvs, b, rfl, ht, hcv, e, q⟩ := h
  obtain ⟨u1, rest, rfl, r1, r2⟩ : ∃ u1 rest, us = u1 :: rest ∧ RelV (.ref a) u1 ∧ Vals [.ref tp] rest := by
    cases r with
    | cons rx rr => exact ⟨_, _, rfl, rx, rr⟩
  obtain ⟨u2, rfl, r3⟩ := r2.one
  cases (show u1 = Value.ref a from r1)
  cases (show u2 = Value.ref tp from r3)
  obtain ⟨hget, _⟩ := I.pin (a, oe) (List.mem_append.mpr (.inl List.mem_cons_self))
  have J : PySem.W.InstAt s.heap a oe D none := by
    obtain ⟨vs, hv⟩ := hf
    obtain ⟨c1, d1, dat, sl⟩ := oe
    obtain ⟨z1, z2⟩ := hz
    simp only at z1 z2 hv
    subst z1 z2 hv
    exact ⟨hget, rfl, rfl, trivial⟩
  obtain ⟨_, its, rv, o, ho, hcl, m, hd⟩ := I.hok tp _ ht
  obtain ⟨oc, od, odat, osl⟩ := o
  simp only at hcl hd
  subst hcl hd
  have ei := hcv its rv
  subst ei
  refine PySem.W.kia_tup (dd := od) (n := m) (sl := osl) (PySem.W.handS_kitx_exc C.hg C.hk C.hs C.hd C.ha C.hn C.ht C.hm) I.kIn J ho e (fun z => nomatch z) fun tk => ?_
  exact ⟨.bl b, H, I.kept (t' := tk) fun _ _ z => z, rfl, q⟩
/-- the names of classes, one behind another -/
inductive ClsNs (X : Cx) : List Expr → List V → List Value → Prop
  | nil : ClsNs X [] [] []
  | ref {x : Str} {p : Pos} {C : Addr} {es : List Expr} {cs : List V} {us : List Value} : Gl X x → X.mg x = some (.ref C) → (x == ("__debug__" : Str)) = false → ClsNs X es cs us → ClsNs X (.Name x p :: es) (.ref C :: cs) (.ref C :: us)
theorem clsNs_vals {es : List Expr} {cs : List V} {us : List Value} (h : ClsNs X es cs us) : ∀ ws, Vals cs ws → ws = us := by
  induction h with
  | nil => intro ws r; cases r; rfl
  | ref _ _ _ _ ih =>
    intro ws r
    cases r with
    | cons r1 r2 =>
      cases (show _ = Value.ref _ from r1)
      rw [ih _ r2]
/-- a row of known values -/
def tKnown (vs : List V) : TA := fun σ H Q => Q vs H
theorem pa_cls {es : List Expr} {cs : List V} {us : List Value} (h : ClsNs X es cs us) (hst : ∀ (x : Str) (p : Pos) (rest : List Expr), starEach (.Name x p :: rest) X.env = (false, eval (.Name x p) X.env) :: starEach rest X.env) : PA X es (tKnown cs) := by
  induction h with
  | nil => exact pa_imp pa_nil fun σ H Q h => h
  | @ref x p C es cs us hg hm hd _ ih =>
    exact pa_imp (pa_cons (pe_glob (v := .ref C) hg hm rfl hd) ih (hst x p es)) fun σ H Q h => h
theorem xe_isE {a D : Addr} {oe : Obj} {pn : List (Addr × Obj)} {i : Nat} {n x : Str} {cv1 : Addr} {b : Bool} {p p1 p2 pos : Pos} (C : ExcC X.K D) (hz : Zc (.ref D) none oe) (hf : ∃ vs, oe.data = .fields vs) (hg : Gl X "isinstance") (hm : X.mg "isinstance" = none)
    (he : PE (X.suite a ((a, oe) :: pn)) (.Name n p1) (tVar i)) (hgx : Gl X x) (hmx : X.mg x = some (.ref cv1)) (hk : PySem.W.kitOne X.K (.ref D) (.ref cv1) = some b) (hdx : (x == ("__debug__" : Str)) = false := by decide)
    (s1 : starEach [.Name n p1, .Name x p2] (X.suite a ((a, oe) :: pn)).env = (false, eval (.Name n p1) (X.suite a ((a, oe) :: pn)).env) :: starEach [.Name x p2] (X.suite a ((a, oe) :: pn)).env := by rfl)
    (s2 : starEach [.Name x p2] (X.suite a ((a, oe) :: pn)).env = (false, eval (.Name x p2) (X.suite a ((a, oe) :: pn)).env) :: starEach [] (X.suite a ((a, oe) :: pn)).env := by rfl)
    (hpl : (backTo pos (starEach [.Name x p2] (X.suite a ((a, oe) :: pn)).env)).any (·.1) = false := by rfl) :
    PE (X.suite a ((a, oe) :: pn)) (.Call (.Name "isinstance" p) [.Name n p1, .Name x p2] [] pos) (lE X.K E (xIsE a i b)) := by
  refine pe_imp (pe_callB (X := X.suite a ((a, oe) :: pn)) (call_isE C hz hf) hg hm bt_isinstance (pa_cons he (pa_cons (pe_glob (X := X.suite a ((a, oe) :: pn)) (v := .ref cv1) hgx hmx rfl hdx) pa_nil s2) s1) (he := s1) (hpl := hpl)) fun σ H Q h => ?_
  obtain ⟨F, ex, hi, q⟩ := isE_of h
  exact ⟨_, hi, .ref cv1, .ref cv1, b, rfl, fun u r => r, hk, q F H (Gr.refl ex)⟩
theorem xe_isEB {a D : Addr} {oe : Obj} {pn : List (Addr × Obj)} {i : Nat} {n x : Str} {T : String} {b : Bool} {p p1 p2 pos : Pos} (C : ExcC X.K D) (hz : Zc (.ref D) none oe) (hf : ∃ vs, oe.data = .fields vs) (hg : Gl X "isinstance") (hm : X.mg "isinstance" = none)
    (he : PE (X.suite a ((a, oe) :: pn)) (.Name n p1) (tVar i)) (hx : PE (X.suite a ((a, oe) :: pn)) (.Name x p2) (tC (.ty T))) (hk : PySem.W.kitOne X.K (.ref D) (.type T) = some b)
    (s1 : starEach [.Name n p1, .Name x p2] (X.suite a ((a, oe) :: pn)).env = (false, eval (.Name n p1) (X.suite a ((a, oe) :: pn)).env) :: starEach [.Name x p2] (X.suite a ((a, oe) :: pn)).env := by rfl)
    (s2 : starEach [.Name x p2] (X.suite a ((a, oe) :: pn)).env = (false, eval (.Name x p2) (X.suite a ((a, oe) :: pn)).env) :: starEach [] (X.suite a ((a, oe) :: pn)).env := by rfl)
    (hpl : (backTo pos (starEach [.Name x p2] (X.suite a ((a, oe) :: pn)).env)).any (·.1) = false := by rfl) :
    PE (X.suite a ((a, oe) :: pn)) (.Call (.Name "isinstance" p) [.Name n p1, .Name x p2] [] pos) (lE X.K E (xIsE a i b)) := by
  refine pe_imp (pe_callB (X := X.suite a ((a, oe) :: pn)) (call_isE C hz hf) hg hm bt_isinstance (pa_cons he (pa_cons hx pa_nil s2) s1) (he := s1) (hpl := hpl)) fun σ H Q h => ?_
  obtain ⟨F, ex, hi, q⟩ := isE_of h
  exact ⟨_, hi, .ty T, .type T, b, rfl, fun u r => r, hk, q F H (Gr.refl ex)⟩
theorem xe_isET {a D : Addr} {oe : Obj} {pn : List (Addr × Obj)} {i kk : Nat} {n : Str} {es : List Expr} {cs : List V} {us : List Value} {b : Bool} {p p1 p2 pos : Pos} (C : ExcC X.K D) (hz : Zc (.ref D) none oe) (hf : ∃ vs, oe.data = .fields vs) (hg : Gl X "isinstance") (hm : X.mg "isinstance" = none)
    (he : PE (X.suite a ((a, oe) :: pn)) (.Name n p1) (tVar i)) (hc : ClsNs (X.suite a ((a, oe) :: pn)) es cs us) (hk : PySem.W.kitAny X.K (.ref D) us = some b) (hlen : cs.length ≤ sizeLine)
    (hst : ∀ (x : Str) (p : Pos) (rest : List Expr), starEach (.Name x p :: rest) (X.suite a ((a, oe) :: pn)).env = (false, eval (.Name x p) (X.suite a ((a, oe) :: pn)).env) :: starEach rest (X.suite a ((a, oe) :: pn)).env := by intro _ _ _; rfl)
    (s1 : starEach [.Name n p1, .Tuple es kk p2] (X.suite a ((a, oe) :: pn)).env = (false, eval (.Name n p1) (X.suite a ((a, oe) :: pn)).env) :: starEach [.Tuple es kk p2] (X.suite a ((a, oe) :: pn)).env := by rfl)
    (s2 : starEach [.Tuple es kk p2] (X.suite a ((a, oe) :: pn)).env = (false, eval (.Tuple es kk p2) (X.suite a ((a, oe) :: pn)).env) :: starEach [] (X.suite a ((a, oe) :: pn)).env := by rfl)
    (hpl : (backTo pos (starEach [.Tuple es kk p2] (X.suite a ((a, oe) :: pn)).env)).any (·.1) = false := by rfl) :
    PE (X.suite a ((a, oe) :: pn)) (.Call (.Name "isinstance" p) [.Name n p1, .Tuple es kk p2] [] pos) (lE X.K E (xIsE a i b)) := by
  refine pe_imp (pe_callB (X := X.suite a ((a, oe) :: pn)) (call_isET C hz hf) hg hm bt_isinstance (pa_cons he (pa_cons (pe_tup (pa_cls hc hst)) pa_nil s2) s1) (he := s1) (hpl := hpl)) fun σ H Q h => ?_
  obtain ⟨F, ex, hi, q⟩ := isE_of h
  exact ⟨_, hi, hlen, fun tp ht => ⟨tp, cs, us, b, rfl, upd_same, clsNs_vals hc, hk, q F _ (Gr.newO ex ht)⟩⟩
end
/-! ### what the classes say -/
/-- what a class of the program that is named must say -/
structure ClsT (K : PySem.W.Frag) (C : Addr) : Prop where
  cl : PySem.W.isClsIn K C = true
  ty : PySem.W.typeIn K (.ref C) = some (.type "type")
  sf : PySem.W.subIn K (.ref C) (.ref C) = some true
section
variable {K : PySem.W.Frag} {D C : Addr} {b b' : Bool}
theorem kit_ref (c : ClsT K C) (h : PySem.W.subIn K (.ref D) (.ref C) = some b) : PySem.W.kitOne K (.ref D) (.ref C) = some b := by
  unfold PySem.W.kitOne
  by_cases e : D = C
  · subst e
    rw [c.sf] at h
    rw [if_pos (by simp)]
    exact h
  · rw [if_neg (by simpa using e)]
    unfold PySem.W.kitCls
    have h2 : ((PySem.W.clsIn K C).isSome && PySem.W.typeIn K (.ref C) == some (.type "type")) = true := by
      have : (PySem.W.clsIn K C).isSome = true := c.cl
      rw [this, c.ty]
      rfl
    simp only
    rw [if_pos h2]
    exact h
theorem kit_tyE {T : String} (hm : PySem.W.kitMeta T = true) (h : PySem.W.subIn K (.ref D) (.type T) = some b) : PySem.W.kitOne K (.ref D) (.type T) = some b := by
  unfold PySem.W.kitOne
  rw [if_neg (by simp)]
  unfold PySem.W.kitCls
  simp only
  rw [if_pos hm]
  exact h
theorem kit_nil {t : Value} : PySem.W.kitAny K t [] = some false := rfl
theorem kit_cons {t c : Value} {r : List Value} (h : PySem.W.kitOne K t c = some b) (h2 : PySem.W.kitAny K t r = some b') : PySem.W.kitAny K t (c :: r) = some (b || b') := by
  unfold PySem.W.kitAny
  rw [h]
  cases b
  · exact h2
  · rfl
theorem kit_to {x : Option Bool} (h : b = b') (e : x = some b) : x = some b' := h ▸ e
theorem exm_of {cls : Value} (c : ClsT K C) (h1 : PySem.W.subIn K (.ref C) (.type "BaseException") = some true) (h : PySem.W.subIn K cls (.ref C) = some b) : PySem.W.exmOne K cls (.ref C) = some b := by
  have e1 : (PySem.W.subIn K (.ref C) (.type "BaseException") == some true) = true := by rw [h1]; rfl
  have h2 : ((PySem.W.clsIn K C).isSome && PySem.W.typeIn K (.ref C) == some (.type "type")) = true := by
    have : (PySem.W.clsIn K C).isSome = true := c.cl
    rw [this, c.ty]
    rfl
  unfold PySem.W.exmOne
  rw [if_pos e1]
  unfold PySem.W.kitCls
  simp only
  rw [if_pos h2]
  exact h
end
/-- whether an exception of the class k is one of these -/
def isX (k : String) (l : List String) : Bool := l.any fun c => c == k || c == "CellError" || c == "ValueError"
theorem bt_ValueError : bootBuiltins "ValueError" = some (.type "ValueError") := by decide +kernel
theorem meta_ValueError : PySem.W.kitMeta "ValueError" = true := by decide +kernel
/-! ### a law's end, whatever the classes are -/
def spA (K : PySem.W.Frag) (g : DF) : Sp := fun vs H Q E => ∀ cv : String → Value, spP K cv false [false] g vs H Q E
theorem fnOk_A {P : Program} {w : World} {K : PySem.W.Frag} {mg : Str → Option Value} {base : Heap} {CX : CXT} {k : Nat} {f : Addr} {fd : FuncData} {ps : List Str} {cv : String → Value} {g : DF} (h : FnOk P w K mg base CX k f fd ps (spP K cv false [false] g)) : FnOk P w K mg base CX k f fd ps (spA K g) :=
  ⟨fun vs H Q E z => h.len vs H Q E (z cv), fun A outer s H args us vs Q E r e b rv z => h.run A outer s H args us vs Q E r e b rv (z cv)⟩
theorem law_spA {K : PySem.W.Frag} {g : DF} {H : Hp} {a : Addr} {ns : List Int} {E : XK} (hS : SqL K H a (ns.map V.int)) (h : g [.fix (ns.map D.int)] = .ok (.bl true) []) : spA K g [.ref a] H (fun v _ => v = .bl true) E := fun _ => law_sp hS h
section
variable {X : Cx} {E : EW} {pos : Pos}
/-- a number that the module holds -/
theorem xe_num {x : Str} {n : Int} (hg : Gl X x) (hm : ∃ t, X.mg x = some (.int n t)) (hd : (x == ("__debug__" : Str)) = false := by decide) : PE X (.Name x pos) (lE X.K E (xC (.int n))) := by
  obtain ⟨t, hm⟩ := hm
  exact xe_const (pe_glob (v := .int n) hg hm ⟨t, rfl⟩ hd) fun _ => .int n
end
/-! the plain side -/
section
variable (ρ : Rho) (i : Nat)
theorem zfO (c : String) : xRaise c ρ = .exc c ρ := rfl
theorem zfP (cs : List String) (hit : String → Bool) (tb : XS) (ts : String → Addr → XS) : xTry i cs hit tb ts ρ = tryk i cs hit ts (tb ρ) := rfl
theorem zfQ (cs : List String) (hit : String → Bool) (ts : String → Addr → XS) : tryk i cs hit ts (.nx ρ) = .nx ρ := rfl
theorem zfR (cs : List String) (hit : String → Bool) (ts : String → Addr → XS) (d : D) : tryk i cs hit ts (.ret d ρ) = .ret d ρ := rfl
def isEO (a : Addr) (b : Bool) (ρ : Rho) (o : Option Slot) : Res D := match o with
  | some (.adr a') => if a' = a then .ok (.bl b) ρ else .bad
  | _ => .bad
theorem zfS (a : Addr) (b : Bool) : xIsE a i b ρ = isEO a b ρ ρ[i]? := by unfold xIsE isEO; rfl
theorem zfT (a : Addr) (b : Bool) : isEO a b ρ (some (.adr a)) = .ok (.bl b) ρ := if_pos rfl
end
end G

set_option maxHeartbeats 4000000
namespace G
open PySem PySem.Spec PyProof.Rows L2

/-! ### set(xs) of a tuple of ints; how many it holds -/
section
variable {P : Program} {w : World} {A : Around} {s : Shared} {E : Value → Shared → Prop}
theorem set_tupI {l : Addr} {items : Array Value} (ns : List Int) {Q : Value → Shared → Prop} (hh : A.handled = none) (hl : s.heap.IsTuple l items) (hit : IntsAre items.toList ns) (hb : ns.length + 1 < scanBound)
    (h : ∀ (h' : Heap) (tk c : Nat), SetR w h' s.heap.objs.size (fun j => decide (j ∈ ns)) c → c ≤ ns.length → (∀ b o, s.heap.get? b = some o → h'.get? b = some o) → Q (.ref s.heap.objs.size) { s with heap := h', toks := tk }) :
    wpAny (model P w) A (call (.type "set") [.ref l]) Q E s := by
  have hisz : items.size = ns.length := by
    have q := IntsAre.length hit
    rwa [Array.length_toList] at q
  have hlS : l < s.heap.objs.size := by
    obtain ⟨ol, hol, _⟩ := hl
    exact Heap.lt_size hol
  have hz : (s.heap.push (set0 w)).objs.size = s.heap.objs.size + 1 := Heap.size_push ..
  have hS : (s.heap.push (set0 w)).get? s.heap.objs.size = some (set0 w) := Heap.get?_push_size _ rfl
  have hh3 : A.in1.in1.in1.handled = none := by simp [hh]
  have hl1 : (s.heap.push (set0 w)).IsTuple l items := by
    obtain ⟨ol, hol, q⟩ := hl
    exact ⟨ol, Heap.get?_push_of_some _ hol, q⟩
  have hl2 : ((s.heap.push (set0 w)).push { cls := .type "tuple_iterator", data := .fields #[.ref l, .int 0 0] }).IsTuple l items := by
    obtain ⟨ol, hol, q⟩ := hl1
    exact ⟨ol, Heap.get?_push_of_some _ hol, q⟩
  refine set_shellT (R := fun h' tk => ∃ c, SetR w h' s.heap.objs.size (fun j => decide (j ∈ ns)) c ∧ c ≤ ns.length ∧ ∀ b o, s.heap.get? b = some o → h'.get? b = some o) hl ?_ fun h' tk ⟨c, k1, k2, k3⟩ => h h' tk c k1 k2 k3
  have nodd : s.heap.objs.size ∉ [(s.heap.push (set0 w)).objs.size, l] := by
    rw [hz]
    simp only [List.mem_cons, List.not_mem_nil, or_false, not_or]
    exact ⟨Nat.ne_of_lt (Nat.lt_succ_self _), Nat.ne_of_gt hlS⟩
  refine set_update_ints ((Walks.tuple hh3 _ l (by rw [hz]; exact Nat.ne_of_lt (Nat.lt_succ_of_lt hlS)) items).toS) s.heap.objs.size nodd ns hisz hb (fun i v hv => ?_) (items.size - 0) 0 _ (by omega) (Nat.zero_le _) ⟨⟨_, Heap.get?_push_size _ rfl, rfl, rfl⟩, hl2⟩ ⟨0, Nat.le_refl 0, setR_new_at (Heap.get?_push_of_some _ hS)⟩ fun s' c hm hc hS' => ?_
  · have hi : i < ns.length := by rw [← hisz]; exact (Array.getElem?_eq_some_iff.mp hv).1
    obtain ⟨t, e⟩ := PyProof.Rows.IntsAre.int_at hit i v (by rw [Array.getElem?_toList]; exact hv)
    refine ⟨ns[i], t, List.getElem?_eq_getElem hi, ?_⟩
    rw [e, List.getD_eq_getElem?_getD, List.getElem?_eq_getElem hi] <;> rfl
  · obtain ⟨h', g2, d', tk', os'⟩ := s'
    have eg : g2 = s.gens := hm.gens
    have ed : d' = s.drawn := hm.drawn
    have eo : os' = s.os := hm.os
    subst eg ed eo
    refine ⟨rfl, h', tk', rfl, c, hS', by omega, fun b o e => hm.heap b o ?_ (Heap.get?_push_of_some _ (Heap.get?_push_of_some _ e))⟩
    have hb0 : b < s.heap.objs.size := Heap.lt_size e
    rw [hz]
    simp only [List.mem_cons, List.not_mem_nil, or_false, not_or]
    exact ⟨Nat.ne_of_lt hb0, Nat.ne_of_lt (Nat.lt_succ_of_lt hb0)⟩
theorem setR_card {h : Heap} {a : Addr} {ns : List Int} {c : Nat} (R : SetR w h a (fun j => decide (j ∈ ns)) c) : c = (dd ns).length := by
  obtain ⟨o, es, ep, t, _, _, _, _, nd, mem, _, _, hn, _⟩ := R
  rw [← hn, ← Array.length_toList, ← List.length_map (f := L2.keyOf)]
  refine List.Perm.length_eq ((List.perm_ext_iff_of_nodup nd (nodup_dd ns)).mpr fun k => ?_)
  rw [mem_dd, ← mem k]
  simp
end
section
variable {X : Cx} {E : EW} {pos : Pos}
def rSetI2 (K : PySem.W.Frag) (w : World) : List V → Hp → VK → Prop := fun xs H Q => ∃ (l : Addr) (ns : List Int), xs = [V.ref l] ∧ (SqL K H l (ns.map V.int) ∨ SqT K H l (ns.map V.int)) ∧ ns.length < 64 ∧ ∀ a, H a = none → Q (.ref a) (upd H a (SetO w a (fun j => decide (j ∈ ns)) (dd ns).length))
theorem cr_setI2 (hc : X.calm = true) : CallR X (.type "set") (rSetI2 X.K X.w) := by
  intro pins s σ H xs us Q I r h
  obtain ⟨l, ns, rfl, hl, hf, q⟩ := h
  rw [Vals.ref1 r]
  have hn : H s.heap.objs.size = none := I.hok.fresh (Nat.le_refl _)
  have fin : ∀ (h' : Heap) (tk c : Nat), SetR X.w h' s.heap.objs.size (fun j => decide (j ∈ ns)) c → c ≤ ns.length → (∀ b o, s.heap.get? b = some o → h'.get? b = some o) → EP X pins σ Q (.ref s.heap.objs.size) { s with heap := h', toks := tk } := fun h' tk c R _ k => by
    have e := setR_card R
    subst e
    exact ⟨.ref s.heap.objs.size, upd H s.heap.objs.size (SetO X.w s.heap.objs.size (fun j => decide (j ∈ ns)) (dd ns).length), I.laid (t' := tk) k (Nat.le_refl _) (setO_new R), rfl, q _ hn⟩
  rcases hl with hl | hl
  · obtain ⟨its, rv, pl, hz⟩ := I.list hl
    exact set_listI (P := X.prog) (w := X.w) ns (I.ok.hd hc) pl.isList (by simpa using rv.ints) (by unfold scanBound; omega) fin
  · obtain ⟨its, rv, ⟨o, h1, h2, m, h3⟩, hz⟩ := I.tuple hl
    exact set_tupI (P := X.prog) (w := X.w) ns (I.ok.hd hc) (items := its.toArray) ⟨o, h1, h2, m, h3⟩ (by simpa using rv.ints) (by unfold scanBound; omega) fin
end
/-! len(set(xs)) -/
section
variable {X : Cx} {E : EW} {pos : Pos}
def rLenSet (w : World) : List V → Hp → VK → Prop := fun xs H Q => ∃ (a : Addr) (S : Int → Bool) (n : Nat), xs = [V.ref a] ∧ H a = some (SetO w a S n) ∧ n < 64 ∧ Q (.int (n : Nat)) H
theorem cr_lenSet : CallR X (.builtin "len") (rLenSet X.w) := by
  intro pins s σ H xs us Q I r h
  obtain ⟨a, S, n, rfl, ha, hn, q⟩ := h
  rw [Vals.ref1 r]
  obtain ⟨⟨o, es, ep, t, ho, hex, hd, _, _, _, _, hf, he, _⟩, _⟩ := (show ObjOk X.prog X.w H s.heap a (SetO X.w a S n) from I.hok a _ ha)
  refine call_len_set ho hex hd hf (by rw [he]; omega) ⟨.int (n : Nat), H, I.tok _, ⟨_, by rw [he]⟩, q⟩
def dItS : D → Option (List D)
  | .lst ds => some ds
  | .tup ds => some ds
  | _ => none
def dLenSet (x : D) : Option D := (dItS x).bind fun ds => (tupInts ds).bind fun ns => if ns.length < 64 then some (.int ((dd ns).length : Nat)) else none
theorem dItS_of {K : PySem.W.Frag} {F : Hp} {v : V} {x : D} {ds : List D} (h : dItS x = some ds) (r : Rp K F v x) : ∃ a xs, v = .ref a ∧ (F a = some (.lst xs) ∨ F a = some (.tup xs)) ∧ RpAll K F xs ds := by
  unfold dItS at h
  split at h
  · cases h; cases r with | lst h1 h2 => exact ⟨_, _, rfl, .inl h1, h2⟩
  · cases h; cases r with | tup h1 h2 => exact ⟨_, _, rfl, .inr h1, h2⟩
  · cases h
theorem dd_le {α : Type} [DecidableEq α] : ∀ l : List α, (dd l).length ≤ l.length
  | [] => Nat.le_refl _
  | a :: l => by
    have := dd_le l
    unfold dd
    split <;> simp only [List.length_cons] <;> omega
theorem xe_lenSet {e : Expr} {te : XV} {p p2 pos2 : Pos} (hc : X.calm = true) (hg : Gl X "len") (hm : X.mg "len" = none) (hg2 : Gl X "set") (hm2 : X.mg "set" = none) (he : PE X e (lE X.K E te))
    (s1 : starEach [e] X.env = (false, eval e X.env) :: starEach [] X.env := by rfl) (s2 : starEach [.Call (.Name "set" p2) [e] [] pos2] X.env = (false, eval (.Call (.Name "set" p2) [e] [] pos2) X.env) :: starEach [] X.env := by rfl)
    (b1 : (backTo pos2 (starEach [] X.env)).any (·.1) = false := by rfl) (b2 : (backTo pos (starEach [] X.env)).any (·.1) = false := by rfl) :
    PE X (.Call (.Name "len" p) [.Call (.Name "set" p2) [e] [] pos2] [] pos) (lE X.K E (xOp1 dLenSet te)) := by
  refine pe_imp (pe_callB cr_lenSet hg hm bt_len (pa_cons (pe_callTy (cr_setI2 hc) hg2 hm2 bt_set (pa_cons he pa_nil s1) (he := s1) (hpl := b1)) pa_nil s2) (he := s2) (hpl := b2)) fun σ H Q h => ?_
  obtain ⟨F, ρ, r, p⟩ := h
  refine ⟨F, ρ, r, (Pend.bind r p).mono fun x ρ1 F1 H1 g1 q v rv => ?_⟩
  obtain ⟨d, ed, q2⟩ := q.lift
  have o := outV_of g1.rel q2
  unfold dLenSet at ed
  cases q5 : dItS x with
  | none => rw [q5] at ed; cases ed
  | some ds =>
    rw [q5] at ed
    simp only [Option.bind_some] at ed
    cases q6 : tupInts ds with
    | none => rw [q6] at ed; cases ed
    | some ns =>
      rw [q6] at ed
      simp only [Option.bind_some] at ed
      split at ed
      · rename_i hz
        cases ed
        obtain ⟨l, xs, rfl, hs, rs⟩ := dItS_of q5 rv
        have e1 := tupInts_of q6
        subst e1
        have e2 := rs.ints
        subst e2
        have ex := g1.rel.ex
        refine ⟨l, ns, rfl, ?_, hz, fun a ha => ⟨a, _, _, rfl, upd_same, Nat.lt_of_le_of_lt (dd_le ns) hz, ?_⟩⟩
        · rcases hs with hs | hs
          · exact .inl (SqL.of (ex _ _ hs))
          · exact .inr (SqT.of (ex _ _ hs))
        · exact o _ F1 _ (Gr.newO ex ha) (.int _)
      · cases ed
/-! ### xs[::-1] -/
def dRev (x : D) : Option D := (dItL x).map fun ds => .lst ds.reverse
theorem xn_rev {e : Expr} {te : XV} {k : Nat} {p1 p2 p3 : Pos} (he : PE X e (lE X.K E te)) : PE X (.Subscript e (.Slice none none (some (.UnaryOp .USub (.Constant (.int 1) k p1) p2)) p3) pos) (lN X.K E (xOp1 dRev te)) := by
  refine pe_imp (pe_revL he) fun σ H Q h => ?_
  obtain ⟨F, ρ, r, p⟩ := h
  refine ⟨F, ρ, r, (Pend.bind r p).mono fun x ρ1 F1 H1 g1 q v rv => ?_⟩
  obtain ⟨d, ed, q2⟩ := q.lift
  have o := outN_of r g1 q2
  unfold dRev at ed
  cases q5 : dItL x with
  | none => rw [q5] at ed; cases ed
  | some ds =>
    rw [q5] at ed
    cases ed
    obtain ⟨l, xs, rfl, hs, rs⟩ := dItL_of q5 rv
    exact ⟨l, xs, rfl, g1.rel.ex.seq hs, fun p hp => o.new g1.rel.ex hp (.lst rs.reverse)⟩
/-! ### list(range(..)), tuple(range(..)) -/
def dLRg1 (x : D) : Option D := match x with
  | .int n => if 0 ≤ n ∧ n ≤ 16777216 then some (.lst (rangeD 0 n.toNat)) else none
  | _ => none
def dLRg2 (x y : D) : Option D := match x, y with
  | .int a, .int b => if 0 ≤ a ∧ a ≤ 16777216 ∧ 0 ≤ b ∧ b ≤ 16777216 then some (.lst (rangeD a (b - a).toNat)) else none
  | _, _ => none
theorem rg_all {K : PySem.W.Frag} {F : Hp} (a b : Int) : RpAll K F (rgV a b) (rangeD a (b - a).toNat) := by
  have : rgV a b = ((List.range (b - a).toNat).map fun i => a + ((i : Nat) : Int)).map V.int := by unfold rgV; rw [List.map_map]; rfl
  rw [this, show rangeD a (b - a).toNat = ((List.range (b - a).toNat).map fun i => a + ((i : Nat) : Int)).map D.int by unfold rangeD; rw [List.map_map]; rfl]
  exact RpAll.of_ints _
theorem xn_listR1 {e : Expr} {te : XV} {p p2 pos2 : Pos} (hc : X.calm = true) (hg : Gl X "list") (hm : X.mg "list" = none) (hg2 : Gl X "range") (hm2 : X.mg "range" = none) (he : PE X e (lE X.K E te))
    (s1 : starEach [e] X.env = (false, eval e X.env) :: starEach [] X.env := by rfl) (s2 : starEach [.Call (.Name "range" p2) [e] [] pos2] X.env = (false, eval (.Call (.Name "range" p2) [e] [] pos2) X.env) :: starEach [] X.env := by rfl) :
    PE X (.Call (.Name "list" p) [.Call (.Name "range" p2) [e] [] pos2] [] pos) (lN X.K E (xOp1 dLRg1 te)) := by
  refine pe_imp (pe_listRg hc hg hm (prg_1 hg2 hm2 he s1) s2) fun σ H Q h => ?_
  obtain ⟨F, ρ, r, p⟩ := h
  refine ⟨F, ρ, r, (Pend.bind r p).mono fun x ρ1 F1 H1 g1 q v rv => ?_⟩
  obtain ⟨d, ed, q2⟩ := q.lift
  have o := outN_of r g1 q2
  unfold dLRg1 at ed
  split at ed
  · rename_i n
    split at ed
    · rename_i hz
      cases ed
      cases rv
      refine ⟨n, rfl, RgOk.of_le (by decide) hz.2 (by decide) hz.1, fun q hq => o.new g1.rel.ex hq (.lst ?_)⟩
      have := rg_all (K := X.K) (F := F1) 0 n
      rwa [Int.sub_zero] at this
    · cases ed
  · cases ed
end
/-! ### isinstance(x, (T, U, ..)) -/
def tysOf : List D → Option (List String)
  | [] => some []
  | .ty n :: cs => if tyKnown n = true then (tysOf cs).map (n :: ·) else none
  | _ => none
def dIsiT : List D → Option D
  | [x, .tup cs] => (tysOf cs).bind fun ns => (tyName x).map fun a => .bl (ns.any (isTy a))
  | _ => none
theorem tys_all {K : PySem.W.Frag} {F : Hp} {a : String} (ha : a ∈ ["NoneType", "bool", "int", "str", "tuple", "list", "dict"]) : ∀ {cs : List D} {ns : List String} {vs : List V}, tysOf cs = some ns → RpAll K F vs cs → Paired ClsV vs (ns.map Value.type) ∧ PySem.W.kitAny K (.type a) (ns.map Value.type) = some (ns.any (isTy a))
  | [], _, _, h, r => by cases h; cases r; exact ⟨.nil, rfl⟩
  | .ty n :: cs, ns, vs, h, r => by
    unfold tysOf at h
    split at h
    · rename_i hk
      cases q : tysOf cs with
      | none => rw [q] at h; cases h
      | some ms =>
        rw [q] at h
        cases h
        cases r with
        | cons r1 r2 =>
          cases r1
          obtain ⟨h1, h2⟩ := tys_all ha q r2
          exact ⟨.cons (.ty n) h1, G.kit_cons (L2.kit_ty (kit_known a ha n (tyKnown_mem hk))) h2⟩
    · cases h
  | .non :: _, _, _, h, _ => by cases h
  | .bl _ :: _, _, _, h, _ => by cases h
  | .int _ :: _, _, _, h, _ => by cases h
  | .str _ :: _, _, _, h, _ => by cases h
  | .tup _ :: _, _, _, h, _ => by cases h
  | .lst _ :: _, _, _, h, _ => by cases h
  | .fix _ :: _, _, _, h, _ => by cases h
  | .dicK _ _ :: _, _, _, h, _ => by cases h
  | .dicT _ _ :: _, _, _, h, _ => by cases h
theorem imp_isiT {K : PySem.W.Frag} : ImpL K dIsiT (rIsiT K) := fun F H vs ds d Q ex ra e o => by
  unfold dIsiT at e
  split at e
  · rename_i x cs
    cases q : tysOf cs with
    | none => rw [q] at e; cases e
    | some ns =>
      rw [q] at e
      simp only [Option.bind_some] at e
      cases q2 : tyName x with
      | none => rw [q2] at e; cases e
      | some a =>
        rw [q2] at e
        cases e
        cases ra with
        | cons r1 r2 =>
          cases r2 with
          | cons r2 r3 =>
            cases r3
            cases r2 with
            | tup h1 h2 =>
              obtain ⟨ty, ha⟩ := tyName_of ex r1 q2
              obtain ⟨k1, k2⟩ := tys_all ha q h2
              exact ⟨_, _, _, _, _, _, rfl, ex _ _ h1, k1, ty, k2, o.here ex (.bl _)⟩
  · cases e
/-! the plain side -/
theorem zfU (x : D) (ds : List D) (ns : List Int) (h : dItS x = some ds) (h2 : tupInts ds = some ns) (h3 : ns.length < 64) : dLenSet x = some (.int ((dd ns).length : Nat)) := by
  unfold dLenSet
  rw [h]
  simp only [Option.bind_some]
  rw [h2]
  simp only [Option.bind_some]
  rw [if_pos h3]
theorem zfV (ds : List D) : dRev (.lst ds) = some (.lst ds.reverse) := rfl
theorem zfW (ds : List D) : dIsiT [.lst ds, .tup [.ty "list", .ty "tuple"]] = some (.bl true) := rfl
theorem zfX (ds : List D) : dIsiT [.tup ds, .tup [.ty "list", .ty "tuple"]] = some (.bl true) := rfl
theorem zfY (n : Int) : dIsiT [.int n, .tup [.ty "list", .ty "tuple"]] = some (.bl false) := rfl
theorem zfZ (n : Str) : dIsiT [.str n, .tup [.ty "list", .ty "tuple"]] = some (.bl false) := rfl
theorem zga (n : Bool) : dIsiT [.bl n, .tup [.ty "list", .ty "tuple"]] = some (.bl false) := rfl
theorem zgb : dIsiT [.non, .tup [.ty "list", .ty "tuple"]] = some (.bl false) := rfl
end G

set_option maxHeartbeats 4000000
namespace G
open PySem PySem.Spec PyProof.Rows L2

/-! ### sorted(t) of a tuple -/
def rSortTup (K : PySem.W.Frag) : List V → Hp → VK → Prop := fun vs H Q => ∃ (a : Addr) (xs : List V) (ds : List PyData) (bs : List (V × D)), vs = [V.ref a] ∧ SqT K H a xs ∧ DpAll K H xs ds ∧ sortOk ds = true ∧ bs.map (·.1) = xs ∧ bs.map (fun b => pyOf b.2) = ds ∧
  ∀ p, H p = none → Q (.ref p) (upd H p (.lst ((bs.mergeSort (PySem.W.dataLe false fun b => pyOf b.2)).map (·.1))))
theorem cr_sortedTup {X : Cx} (hu : X.A.units + 200 < cLine) : CallR X (.builtin "sorted") (rSortTup X.K) := by
  intro pins s σ H vs us Q I r h
  obtain ⟨a, xs, ds, bs, rfl, hs, hd, hok, e1, e2, q⟩ := h
  obtain ⟨its, rv, ⟨o, ho, hc, n, hdat⟩, hz⟩ := I.tuple hs
  rw [Vals.ref1 r]
  have hz' : its.length ≤ sizeLine := by rw [← rv.length]; exact hz
  refine PySem.Calls.call_function_entry kind_sorted plain_sorted entry_sorted (args_sorted1 _) ?_
  unfold Builtin.«sorted»
  refine wpAny_bind (m := checkCount "sorted" 1 1 _) (wpAny_pure ?_)
  refine wpAny_bind (wpAny_collect_seq (T := "tuple") a (.inr rfl) ho hc hdat (fun h1 k1 => ?_) (by simpa using hz'))
  rw [show its.toArray.toList = its from rfl]
  have I1 : Inv X pins σ H { s with heap := h1 } := I.kept (t' := s.toks) k1
  obtain ⟨as, hr⟩ := Dp.readsAll I1 ds xs its hd rv
  obtain ⟨j1, j2, j3⟩ := sortOk_of hok
  have hoL : (h1.push (seqObj "list" its.toArray 0)).get? h1.objs.size = some (seqObj "list" its.toArray 0) := Heap.get?_push_size _ rfl
  have old : ∀ b u, h1.get? b = some u → (PySem.W.sortingHeap (h1.push (seqObj "list" its.toArray 0)) h1.objs.size its).get? b = some u := fun b u e => PySem.W.sortingHeap_old (Nat.ne_of_lt (Heap.lt_size e)) (Heap.get?_push_of_some _ e)
  have hr2 := readsAll_keeps old hr
  have S := PySem.W.SortsAt.data (prog := X.prog) (w := X.w) (A := X.A.in1.in1) (s := { s with heap := PySem.W.sortingHeap (h1.push (seqObj "list" its.toArray 0)) h1.objs.size its }) (each_reads hr2) j1 j2 (fun d hm => by
    have := j3 d hm
    show X.A.units + 1 + 1 + d.depth < cLine
    omega)
  have ko : PySem.W.KeyedOut false (bs.map fun b => pyOf b.2) its (PySem.W.sortVals (PySem.W.dataKind (PySem.W.sortingHeap (h1.push (seqObj "list" its.toArray 0)) h1.objs.size its) ds) false its its) := by
    rw [e2]
    exact ⟨_, its, j1, rfl, each_reads hr2⟩
  have ev := PySem.W.keyedOut_each (fun b : V × D => pyOf b.2) ko (each_of_vals e1 rv)
  have vv := vals_of_each ev
  obtain ⟨ep, he'⟩ := sortedHeap_at (out := (PySem.W.sortVals (PySem.W.dataKind (PySem.W.sortingHeap (h1.push (seqObj "list" its.toArray 0)) h1.objs.size its) ds) false its its).toArray) hoL
  have hlen : ((bs.mergeSort (PySem.W.dataLe false fun b => pyOf b.2)).map (·.1)).length ≤ sizeLine := by
    rw [List.length_map, (List.mergeSort_perm _ _).length_eq]
    have : bs.length = xs.length := by rw [← e1, List.length_map]
    omega
  refine wpAny_bind (wpAny_newList ?_ hz')
  refine wpAny_bind (wpAny_holding (wpAny_call_entry slot_list_sort ⟨_, hoL, rfl⟩ entry_list_sort (PySem.W.list_sort_vals (s := { s with heap := h1.push (seqObj "list" its.toArray 0) }) hoL S hz' ⟨_, rfl, ?_⟩) (args_list_sort _)))
  refine wpAny_pure ⟨_, rfl, ?_⟩
  have hn : H h1.objs.size = none := I1.hok.fresh (Nat.le_refl _)
  have kk : ∀ b u, h1.get? b = some u → (sortedHeap (h1.push (seqObj "list" its.toArray 0)) h1.objs.size its (PySem.W.sortVals (PySem.W.dataKind (PySem.W.sortingHeap (h1.push (seqObj "list" its.toArray 0)) h1.objs.size its) ds) false its its).toArray).get? b = some u := fun b u e => by
    rw [sortedHeap_old (Nat.ne_of_lt (Heap.lt_size e)) (Nat.lt_of_lt_of_le (Heap.lt_size e) (by rw [Heap.size_push]; exact Nat.le_succ _))]
    exact Heap.get?_push_of_some _ e
  exact ⟨.ref _, upd H h1.objs.size (.lst ((bs.mergeSort (PySem.W.dataLe false fun b => pyOf b.2)).map (·.1))), I1.laid (t' := s.toks) kk (Nat.le_refl _) ⟨hlen, _, ep, vv, he'⟩, rfl, q _ hn⟩
def rSortA (K : PySem.W.Frag) : List V → Hp → VK → Prop := fun vs H Q => rSortD K vs H Q ∨ rSortTup K vs H Q
theorem cr_sortedA {X : Cx} (hu : X.A.units + 200 < cLine) : CallR X (.builtin "sorted") (rSortA X.K) := (cr_sortedD hu).or (cr_sortedTup hu)
def dSortedA : List D → Option D
  | [.tup ds] => dSorted [.lst ds]
  | x => dSorted x
theorem imp_sortedA {K : PySem.W.Frag} : ImpLN K dSortedA (rSortA K) := fun F H vs ds d Q ex ra e o => by
  unfold dSortedA at e
  split at e
  · rename_i ys
    right
    unfold dSorted dItL at e
    simp only [Option.bind_some] at e
    cases q2 : toPys ys with
    | none => rw [q2] at e; cases e
    | some xs =>
      rw [q2] at e
      simp only [Option.bind_some] at e
      split at e
      · rename_i hok
        cases e
        cases ra with
        | cons r1 r2 =>
          cases r2
          cases r1 with
          | @tup a ws _ hs rs =>
            have hl := rs.length
            refine ⟨a, ws, xs, ws.zip ys, rfl, SqT.of (ex _ _ hs), dpAll_same ex (rp_dps _ _ _ rs q2), hok, zip_fst hl, ?_, fun p hp => o.new ex hp (.lst (sort_zip rs))⟩
            have e3 := congrArg (List.map pyOf) (zip_snd hl)
            rw [List.map_map, toPys_pyOf q2] at e3
            exact e3
      · cases e
  · exact .inl (imp_sorted F H vs ds d Q ex ra e o)
/-! ### x not in (a, b, ..) -/
def dNotInA (x y : D) : Option D := match dInA x y with
  | some (.bl b) => some (.bl (!b))
  | _ => none
def rNotInA (K : PySem.W.Frag) : R2 := fun x y H Q => rNotInD K x y H Q ∨ rIn K true x y H Q
theorem op_notInA {X : Cx} (hu : X.A.units + 65 < cLine) : OpR X (compareOp .NotIn) (rNotInA X.K) := (op_notInD hu).or op_notIn_seq
end G

set_option maxHeartbeats 4000000
namespace G
open PySem PySem.Spec PyProof.Rows L2

/-! ### dicts -/
def kOf : D → Option Key
  | .int i => some (.inl i)
  | .str x => some (.inr x)
  | _ => none
def kTs : List D → Option (List Key)
  | [] => some []
  | d :: ds => (kOf d).bind fun k => (kTs ds).map (k :: ·)
def kTof : D → Option (List Key)
  | .tup ds => kTs ds
  | _ => none
def dKey : Key → D
  | .inl i => .int i
  | .inr x => .str x
def lk {κ : Type} [DecidableEq κ] (es : List (κ × D)) (k : κ) : Option D := (es.find? fun e => decide (e.1 = k)).map (·.2)
def pt {κ : Type} [DecidableEq κ] (es : List (κ × D)) (k : κ) (d : D) : List (κ × D) :=
  if (es.any fun e => decide (e.1 = k)) = true then es.map (fun e => if e.1 = k then (e.1, d) else e) else es ++ [(k, d)]
section
variable {K : PySem.W.Frag} {F F' H H' : Hp}
theorem kOf_rp {v : V} {x : D} {k : Key} (r : Rp K F v x) (h : kOf x = some k) : v = kV k := by
  cases r <;> first | (cases h; rfl) | cases h
theorem kTs_rp : ∀ {vs : List V} {ds : List D} {ks : List Key}, RpAll K F vs ds → kTs ds = some ks → vs = ks.map kV
  | _, _, ks, .nil, h => by cases h; rfl
  | _, _, ks, .cons (d := d) (ds := ds) a b, h => by
    unfold kTs at h
    cases q : kOf d with
    | none => rw [q] at h; cases h
    | some k =>
      rw [q] at h
      simp only [Option.bind_some] at h
      cases q2 : kTs ds with
      | none => rw [q2] at h; cases h
      | some ks' =>
        rw [q2] at h
        cases h
        rw [kOf_rp a q, kTs_rp b q2]
        rfl
theorem kTof_rp {v : V} {x : D} {k : List Key} (r : Rp K F v x) (h : kTof x = some k) : ∃ b, v = .ref b ∧ F b = some (.tup (k.map kV)) := by
  cases r <;> first | (cases h; done) | skip
  rename_i a xs ds hf ra
  have := kTs_rp ra h
  subst this
  exact ⟨_, rfl, hf⟩
/-- entries that stand for entries -/
inductive RpE {κ : Type} (K : PySem.W.Frag) (F : Hp) : List (κ × V) → List (κ × D) → Prop
  | nil : RpE K F [] []
  | cons {k : κ} {v : V} {d : D} {kvs : List (κ × V)} {es : List (κ × D)} : Rp K F v d → RpE K F kvs es → RpE K F ((k, v) :: kvs) ((k, d) :: es)
theorem RpE.of {κ : Type} : ∀ {kvs : List (κ × V)} {es : List (κ × D)}, kvs.map (·.1) = es.map (·.1) → RpAll K F (kvs.map (·.2)) (es.map (·.2)) → RpE K F kvs es
  | [], [], _, _ => .nil
  | [], _ :: _, h, _ => by cases h
  | _ :: _, [], h, _ => by cases h
  | (k, v) :: kvs, (k', d) :: es, h, r => by
    cases r with
    | cons r1 r2 =>
      rw [List.map_cons, List.map_cons] at h
      obtain ⟨e1, e2⟩ := List.cons.inj h
      have e1' : k = k' := e1
      subst e1'
      exact .cons r1 (RpE.of e2 r2)
theorem RpE.keys {κ : Type} {kvs : List (κ × V)} {es : List (κ × D)} (h : RpE K F kvs es) : kvs.map (·.1) = es.map (·.1) := by
  induction h with
  | nil => rfl
  | cons _ _ ih => rw [List.map_cons, List.map_cons, ih]
theorem RpE.vals {κ : Type} {kvs : List (κ × V)} {es : List (κ × D)} (h : RpE K F kvs es) : RpAll K F (kvs.map (·.2)) (es.map (·.2)) := by
  induction h with
  | nil => exact .nil
  | cons r _ ih => exact .cons r ih
theorem RpE.len {κ : Type} {kvs : List (κ × V)} {es : List (κ × D)} (h : RpE K F kvs es) : kvs.length = es.length := by
  have := congrArg List.length h.keys
  rwa [List.length_map, List.length_map] at this
theorem RpE.append {κ : Type} {kvs kvs' : List (κ × V)} {es es' : List (κ × D)} (h : RpE K F kvs es) (h' : RpE K F kvs' es') : RpE K F (kvs ++ kvs') (es ++ es') := by
  induction h with
  | nil => exact h'
  | cons r _ ih => exact .cons r ih
def RO (K : PySem.W.Frag) (F : Hp) : Option V → Option D → Prop
  | some v, some d => Rp K F v d
  | none, none => True
  | _, _ => False
section
variable {κ : Type} [DecidableEq κ]
theorem RpE.lk {kvs : List (κ × V)} {es : List (κ × D)} (h : RpE K F kvs es) (k : κ) : RO K F (valV kvs k) (G.lk es k) := by
  induction h with
  | nil => exact True.intro
  | @cons j v d kvs es r _ ih =>
    by_cases e : j = k
    · rw [valV_pos (p := (j, v)) e]
      unfold G.lk
      rw [List.find?_cons_of_pos (by simpa using e)]
      exact r
    · rw [valV_neg (p := (j, v)) e]
      unfold G.lk
      rw [List.find?_cons_of_neg (by simpa using e)]
      exact ih
theorem RpE.any {kvs : List (κ × V)} {es : List (κ × D)} (h : RpE K F kvs es) (k : κ) : (kvs.any fun e => decide (e.1 = k)) = es.any fun e => decide (e.1 = k) := by
  induction h with
  | nil => rfl
  | cons r _ ih => rw [List.any_cons, List.any_cons, ih]
theorem RpE.repl {kvs : List (κ × V)} {es : List (κ × D)} (h : RpE K F kvs es) (k : κ) {v : V} {d : D} (r : Rp K F v d) : RpE K F (kvs.map fun kv => if kv.1 = k then (kv.1, v) else kv) (es.map fun e => if e.1 = k then (e.1, d) else e) := by
  induction h with
  | nil => exact .nil
  | @cons j v0 d0 kvs es r0 _ ih =>
    rw [List.map_cons, List.map_cons]
    by_cases e : j = k
    · rw [if_pos e, if_pos e]; exact .cons r ih
    · rw [if_neg e, if_neg e]; exact .cons r0 ih
theorem RpE.pt {kvs : List (κ × V)} {es : List (κ × D)} (h : RpE K F kvs es) (k : κ) {v : V} {d : D} (r : Rp K F v d) : RpE K F (putK kvs k v) (G.pt es k d) := by
  unfold putK G.pt
  rw [h.any k]
  split
  · exact h.repl k r
  · exact h.append (.cons r .nil)
end
theorem RpE.mono {κ : Type} {kvs : List (κ × V)} {es : List (κ × D)} (e : Same F F') (h : RpE K F kvs es) : RpE K F' kvs es := by
  induction h with
  | nil => exact .nil
  | cons r _ ih => exact .cons (r.mono e) ih
/-! what is read of a dict -/
def isDic : D → Bool
  | .dicT _ _ => true
  | .dicK _ _ => true
  | _ => false
def dGetO (x k : D) : Option (Option D) := match x with
  | .dicT _ es => (kTof k).map (lk es)
  | .dicK _ es => (kOf k).map (lk es)
  | _ => none
theorem rd_frz {z : Bool} {o : Obj} {a : Addr} {u : HO} (h : H a = some (frzIf z o u)) : Rd H a u := by
  cases z
  · exact .inl h
  · exact .inr ⟨o, h⟩
theorem dic_ra {v : V} {x : D} (e : Same F H) (r : Ra K F H v x) (h : isDic x = true) : ∃ a, v = .ref a ∧ IsD H a ∧
    ((∃ z kvs es, x = .dicT z es ∧ Rd H a (.dT kvs) ∧ RpE K F kvs es) ∨ ∃ z kvs es, x = .dicK z es ∧ Rd H a (.dK kvs) ∧ RpE K F kvs es) := by
  cases r with
  | val rp _ =>
    cases rp with
    | dicK hf hk hr =>
      have := rd_frz (e _ _ hf)
      exact ⟨_, rfl, .inl ⟨_, this⟩, .inr ⟨_, _, _, rfl, this, RpE.of hk hr⟩⟩
    | dicT hf hk hr =>
      have := rd_frz (e _ _ hf)
      exact ⟨_, rfl, .inr ⟨_, this⟩, .inl ⟨_, _, _, rfl, this, RpE.of hk hr⟩⟩
    | non => cases h
    | bl _ => cases h
    | int _ => cases h
    | str _ => cases h
    | ty _ => cases h
    | tup _ _ => cases h
    | lst _ _ => cases h
    | fix _ _ => cases h
    | dicN _ _ _ _ => cases h
  | own h1 h2 ro =>
    cases ro with
    | lst _ => cases h
    | dicK hk hr =>
      have := rd_frz h2
      exact ⟨_, rfl, .inl ⟨_, this⟩, .inr ⟨_, _, _, rfl, this, RpE.of hk hr⟩⟩
    | dicT hk hr =>
      have := rd_frz h2
      exact ⟨_, rfl, .inr ⟨_, this⟩, .inl ⟨_, _, _, rfl, this, RpE.of hk hr⟩⟩
    | dicN _ _ _ => cases h
theorem dget_ra {a : Addr} {w : V} {x k : D} {r : Option D} (e : Same F H) (rx : Ra K F H (.ref a) x) (rw' : Rp K F w k) (h : dGetO x k = some r) : ∃ o, DGet H a w o ∧ RO K F o r := by
  unfold dGetO at h
  split at h
  · rename_i z es
    cases q : kTof k with
    | none => rw [q] at h; cases h
    | some ks =>
      rw [q] at h
      cases h
      obtain ⟨b, rfl, hb⟩ := kTof_rp rw' q
      obtain ⟨a', ea, _, hh⟩ := dic_ra e rx rfl
      cases ea
      rcases hh with ⟨z', kvs, es', ex, hr, he⟩ | ⟨z', kvs, es', ex, hr, he⟩
      · cases ex
        exact ⟨_, .inr ⟨kvs, ks, b, hr, rfl, e _ _ hb, rfl⟩, he.lk ks⟩
      · cases ex
  · rename_i z es
    cases q : kOf k with
    | none => rw [q] at h; cases h
    | some ks =>
      rw [q] at h
      cases h
      have := kOf_rp rw' q
      subst this
      obtain ⟨a', ea, _, hh⟩ := dic_ra e rx rfl
      cases ea
      rcases hh with ⟨z', kvs, es', ex, hr, he⟩ | ⟨z', kvs, es', ex, hr, he⟩
      · cases ex
      · cases ex
        exact ⟨_, .inl ⟨kvs, ks, hr, rfl, rfl⟩, he.lk ks⟩
  · cases h
theorem ra_of_rp {v : V} {x : D} (r : Rp K F v x) (h : isDic x = true) : Ra K F H v x := .val r (by cases x <;> first | rfl | cases h)
theorem RO.getD {o : Option V} {r : Option D} {v : V} {d : D} (h : RO K F o r) (rv : Rp K F v d) : Rp K F (o.getD v) (r.getD d) := by
  cases o <;> cases r <;> first | exact h | exact rv | exact h.elim
end
section
variable {X : Cx} {E : EW} {fr : Bool} {pos : Pos}
/-! {} -/
theorem xn_dnewT : PE X (.Dict [] [] pos) (lN X.K E (xC (.dicT false []))) := pe_imp pe_dnewT fun σ H Q h => by
  obtain ⟨F, ρ, r, p⟩ := h
  unfold Pend xC at p
  intro q hq
  exact p F _ ((Gr.newO r.ex hq).go r) q (.dT []) (r.ex.free hq) upd_same (Ro.dicT (z := false) (o := { cls := .none, data := .fields #[] }) rfl .nil) (not_own_new r hq) (.inr hq)
theorem xn_dnewK : PE X (.Dict [] [] pos) (lN X.K E (xC (.dicK false []))) := pe_imp pe_dnewK fun σ H Q h => by
  obtain ⟨F, ρ, r, p⟩ := h
  unfold Pend xC at p
  intro q hq
  exact p F _ ((Gr.newO r.ex hq).go r) q (.dK []) (r.ex.free hq) upd_same (Ro.dicK (z := false) (o := { cls := .none, data := .fields #[] }) rfl .nil) (not_own_new r hq) (.inr hq)
/-! d.get(k, x) -/
/-- with the dict that can be read at slot i -/
def withD {α : Type} (i : Nat) (f : D → Rho → Res α) : Rho → Res α := fun ρ => match rdD i ρ with
  | some x => if isDic x = true then f x ρ else .bad
  | none => .bad
theorem Pend.withD {α : Type} {K : PySem.W.Frag} {σ : L2.St} {F H : Hp} {ρ : Rho} {i : Nat} {f : D → Rho → Res α} {Q : α → Rho → Hp → Hp → Prop} (h : Pend K E (withD i f) ρ σ F H Q) : ∃ x, rdD i ρ = some x ∧ isDic x = true ∧ Pend K E (f x) ρ σ F H Q := by
  unfold Pend G.withD at h
  cases e : rdD i ρ with
  | none => simp only [e] at h
  | some x =>
    simp only [e] at h
    by_cases hd : isDic x = true
    · simp only [if_pos hd] at h
      exact ⟨x, rfl, hd, h⟩
    · simp only [if_neg hd] at h
def getk3 (k x : D) : D → Rho → Res D := fun y ρ => match dGetO y k with
  | some r => .ok (r.getD x) ρ
  | none => .bad
def getk2 (i : Nat) (k : D) : D → Rho → Res D := fun x => withD i (getk3 k x)
def getk1 (i : Nat) (tx : XV) : D → Rho → Res D := fun k ρ => (tx ρ).bind (getk2 i k)
def getk0 (i : Nat) (tk tx : XV) : D → Rho → Res D := fun _ ρ => (tk ρ).bind (getk1 i tx)
def xDGet2 (i : Nat) (tk tx : XV) : XV := withD i (getk0 i tk tx)
theorem Pend.getk3 {K : PySem.W.Frag} {σ : L2.St} {F H : Hp} {ρ : Rho} {k x y : D} {Q : D → Rho → Hp → Hp → Prop} (h : Pend K E (getk3 k x y) ρ σ F H Q) : ∃ r, dGetO y k = some r ∧ ∀ F' H', Go K ρ σ F H ρ σ F' H' → Q (r.getD x) ρ F' H' := by
  unfold Pend G.getk3 at h
  cases e : dGetO y k with
  | none => simp only [e] at h
  | some r => simp only [e] at h; exact ⟨r, rfl, h⟩
theorem xe_dget2 {i : Nat} {x : Str} {k e : Expr} {tk te : XV} {xp apos cpos : Pos} (hu : X.A.units + 1 < cLine) (ho : PE X (.Name x xp) (tVar i)) (hk : PE X k (lE X.K E tk)) (he : PE X e (lE X.K E te)) (m : M2 X (.Name x xp) "get" apos k e cpos := by exact ⟨rfl, rfl, rfl, rfl⟩) :
    PE X (.Call (.Attribute (.Name x xp) "get" apos) [k, e] [] cpos) (lE X.K E (xDGet2 i tk te)) := pe_imp (pe_dget2 hu ho hk he m) fun σ H Q h => by
  obtain ⟨F, ρ, r, p⟩ := h
  obtain ⟨y0, e0, hd, p⟩ := Pend.withD p
  obtain ⟨v0, s0, ra0⟩ := r.rd e0
  obtain ⟨a, ev, isd, _⟩ := dic_ra r.ex ra0 hd
  subst ev
  refine ⟨.ref a, s0, a, rfl, isd, F, ρ, r, (Pend.bind r p).mono fun kd ρ1 F1 H1 g1 q w rw1 => ?_⟩
  refine ⟨F1, ρ1, g1.rel, (Pend.bind g1.rel q).mono fun xd ρ2 F2 H2 g2 q v rv => ?_⟩
  obtain ⟨y, e2, hd2, q⟩ := Pend.withD q
  obtain ⟨rr, e3, q⟩ := Pend.getk3 q
  obtain ⟨v2, s2, ra2⟩ := g2.rel.rd e2
  rw [s0] at s2
  cases s2
  obtain ⟨o, dg, ro⟩ := dget_ra g2.rel.ex ra2 (rw1.mono g2.ex) e3
  exact ⟨o, dg, q F2 H2 (Go.refl g2.rel) _ (ro.getD rv)⟩
/-! of a dict that is a value -/
def getv2 (y k : D) : D → Rho → Res D := fun x ρ => getk3 k x y ρ
def getv1 (tx : XV) (y : D) : D → Rho → Res D := fun k ρ => (tx ρ).bind (getv2 y k)
def getv0 (tk tx : XV) : D → Rho → Res D := fun y ρ => if isDic y = true then (tk ρ).bind (getv1 tx y) else .bad
def xDGetV (te tk tx : XV) : XV := fun ρ => (te ρ).bind (getv0 tk tx)
theorem xe_dgetV {d k e : Expr} {td tk te : XV} {apos cpos : Pos} (hu : X.A.units + 1 < cLine) (ho : PE X d (lE X.K E td)) (hk : PE X k (lE X.K E tk)) (he : PE X e (lE X.K E te)) (m : M2 X d "get" apos k e cpos := by exact ⟨rfl, rfl, rfl, rfl⟩) :
    PE X (.Call (.Attribute d "get" apos) [k, e] [] cpos) (lE X.K E (xDGetV td tk te)) := pe_imp (pe_dget2 hu ho hk he m) fun σ H Q h => by
  obtain ⟨F, ρ, r, p⟩ := h
  refine ⟨F, ρ, r, (Pend.bind r p).mono fun y ρ0 F0 H0 g0 q v ry => ?_⟩
  by_cases hd : isDic y = true
  · have q : Pend X.K E (fun ρ => (tk ρ).bind (getv1 te y)) ρ0 σ F0 H0 (fun d x F' H' => ∀ (v : V), Rp X.K F' v d → Q v H') := by
      unfold Pend getv0 at q
      simp only [if_pos hd] at q
      exact q
    obtain ⟨a, ev, isd, _⟩ := dic_ra g0.rel.ex (ra_of_rp (H := H0) ry hd) hd
    subst ev
    refine ⟨a, rfl, isd, F0, ρ0, g0.rel, (Pend.bind g0.rel q).mono fun kd ρ1 F1 H1 g1 q w rw1 => ?_⟩
    refine ⟨F1, ρ1, g1.rel, (Pend.bind g1.rel q).mono fun xd ρ2 F2 H2 g2 q v2 rv => ?_⟩
    obtain ⟨rr, e3, q⟩ := Pend.getk3 q
    obtain ⟨o, dg, ro⟩ := dget_ra g2.rel.ex (ra_of_rp (H := H2) ((ry.mono g1.ex).mono g2.ex) hd) (rw1.mono g2.ex) e3
    exact ⟨o, dg, q F2 H2 (Go.refl g2.rel) _ (ro.getD rv)⟩
  · unfold Pend getv0 at q
    simp only [if_neg hd] at q
/-! d[k], a value -/
def dIxD (x k : D) : Option D := (dGetO x k).bind id
def ixv1 (y : D) : D → Rho → Res D := fun k ρ => lift (dIxD y) k ρ
def ixv0 (tk : XV) : D → Rho → Res D := fun y ρ => if isDic y = true then (tk ρ).bind (ixv1 y) else .bad
def xDIxV (te tk : XV) : XV := fun ρ => (te ρ).bind (ixv0 tk)
theorem xe_dixV {d k : Expr} {td tk : XV} (hu : X.A.units + 1 < cLine) (ho : PE X d (lE X.K E td)) (hk : PE X k (lE X.K E tk)) (hs : NoSl k := by intro _ _; rfl) :
    PE X (.Subscript d k pos) (lE X.K E (xDIxV td tk)) := pe_imp (pe_dget hu ho hk hs) fun σ H Q h => by
  obtain ⟨F, ρ, r, p⟩ := h
  refine ⟨F, ρ, r, (Pend.bind r p).mono fun y ρ0 F0 H0 g0 q v ry => ?_⟩
  by_cases hd : isDic y = true
  · have q : Pend X.K E (fun ρ => (tk ρ).bind (ixv1 y)) ρ0 σ F0 H0 (fun d x F' H' => ∀ (v : V), Rp X.K F' v d → Q v H') := by
      unfold Pend ixv0 at q
      simp only [if_pos hd] at q
      exact q
    obtain ⟨a, ev, isd, _⟩ := dic_ra g0.rel.ex (ra_of_rp (H := H0) ry hd) hd
    subst ev
    refine ⟨F0, ρ0, g0.rel, (Pend.bind g0.rel q).mono fun kd ρ1 F1 H1 g1 q w rw1 => ?_⟩
    obtain ⟨x, ex, q⟩ := Pend.lift (f := dIxD y) (x := kd) q
    unfold dIxD at ex
    cases e3 : dGetO y kd with
    | none => rw [e3] at ex; cases ex
    | some rr =>
      rw [e3] at ex
      simp only [Option.bind_some, id] at ex
      obtain ⟨o, dg, ro⟩ := dget_ra g1.rel.ex (ra_of_rp (H := H1) (ry.mono g1.ex) hd) rw1 e3
      subst ex
      cases o with
      | none => exact ro.elim
      | some v2 => exact ⟨a, v2, rfl, dg, q F1 H1 (Go.refl g1.rel) v2 ro⟩
  · unfold Pend ixv0 at q
    simp only [if_neg hd] at q
/-! d[k] of a dict that can be read at slot i -/
def dixk2 (i : Nat) (k : D) : D → Rho → Res D := fun y ρ => lift (dIxD y) k ρ
def dixk1 (i : Nat) : D → Rho → Res D := fun k => withD i (dixk2 i k)
def dixk0 (i : Nat) (tk : XV) : D → Rho → Res D := fun _ ρ => (tk ρ).bind (dixk1 i)
def xDIx (i : Nat) (tk : XV) : XV := withD i (dixk0 i tk)
theorem xe_dix {i : Nat} {x : Str} {k : Expr} {tk : XV} {xp : Pos} (hu : X.A.units + 1 < cLine) (ho : PE X (.Name x xp) (tVar i)) (hk : PE X k (lE X.K E tk)) (hs : NoSl k := by intro _ _; rfl) :
    PE X (.Subscript (.Name x xp) k pos) (lE X.K E (xDIx i tk)) := pe_imp (pe_dget hu ho hk hs) fun σ H Q h => by
  obtain ⟨F, ρ, r, p⟩ := h
  obtain ⟨y0, e0, hd, p⟩ := Pend.withD p
  obtain ⟨v0, s0, ra0⟩ := r.rd e0
  obtain ⟨a, ev, isd, _⟩ := dic_ra r.ex ra0 hd
  subst ev
  refine ⟨.ref a, s0, F, ρ, r, (Pend.bind r p).mono fun kd ρ1 F1 H1 g1 q w rw1 => ?_⟩
  obtain ⟨y, e2, hd2, q⟩ := Pend.withD q
  obtain ⟨v2, s2, ra2⟩ := g1.rel.rd e2
  rw [s0] at s2
  cases s2
  obtain ⟨xx, ex, q⟩ := Pend.lift (f := dIxD y) (x := kd) q
  unfold dIxD at ex
  cases e3 : dGetO y kd with
  | none => rw [e3] at ex; cases ex
  | some rr =>
    rw [e3] at ex
    simp only [Option.bind_some, id] at ex
    obtain ⟨o, dg, ro⟩ := dget_ra g1.rel.ex ra2 rw1 e3
    subst ex
    cases o with
    | none => exact ro.elim
    | some v3 => exact ⟨a, v3, rfl, dg, q F1 H1 (Go.refl g1.rel) v3 ro⟩
/-! k in d, whatever is asked -/
def inX (x y : D) : Option Bool := match y with
  | .dicT z es => (dGetO (.dicT z es) x).map (·.isSome)
  | .dicK z es => (dGetO (.dicK z es) x).map (·.isSome)
  | .tup ds => match dInT x (.tup ds) with
    | some (.bl b) => some b
    | _ => none
  | y => inD x y
def dInX (x y : D) : Option D := (inX x y).map .bl
def dNotInX (x y : D) : Option D := (inX x y).map fun b => .bl (!b)
def rInX (K : PySem.W.Frag) : R2 := fun x y H Q => rInA K x y H Q ∨ ∃ a o, y = .ref a ∧ DGet H a x o ∧ Q (.bl o.isSome) H
def rNotInX (K : PySem.W.Frag) : R2 := fun x y H Q => rNotInA K x y H Q ∨ ∃ a o, y = .ref a ∧ DGet H a x o ∧ Q (.bl (!o.isSome)) H
theorem op_inX (hu : X.A.units + 65 < cLine) : OpR X (compareOp .In) (rInX X.K) := by
  intro pins s σ H x y v u Q I rx ry h
  rcases h with h | ⟨a, o, rfl, g, q⟩
  · exact op_inA hu pins s σ H x y v u Q I rx ry h
  · cases (show u = Value.ref a from ry)
    exact d_in (by omega) I g rx fun s3 I3 => ⟨.bl o.isSome, H, I3, rfl, q⟩
theorem op_notInX (hu : X.A.units + 65 < cLine) : OpR X (compareOp .NotIn) (rNotInX X.K) := by
  intro pins s σ H x y v u Q I rx ry h
  rcases h with h | ⟨a, o, rfl, g, q⟩
  · exact op_notInA hu pins s σ H x y v u Q I rx ry h
  · cases (show u = Value.ref a from ry)
    exact d_notIn (by omega) I g rx fun s3 I3 => ⟨.bl (!o.isSome), H, I3, rfl, q⟩
theorem RO.some_eq {K : PySem.W.Frag} {F : Hp} {o : Option V} {r : Option D} (h : RO K F o r) : o.isSome = r.isSome := by
  cases o <;> cases r <;> first | rfl | exact h.elim
theorem inX_cases {K : PySem.W.Frag} {F H : Hp} {v w : V} {x y : D} {b : Bool} (ex : Same F H) (rv : Rp K F v x) (rw' : Rp K F w y) (h : inX x y = some b) :
    (∃ a o, w = .ref a ∧ DGet H a v o ∧ b = o.isSome) ∨ (∃ ds, y = .tup ds ∧ dInT x (.tup ds) = some (.bl b)) ∨ inD x y = some b := by
  have dic : ∀ {y : D}, isDic y = true → Rp K F w y → (dGetO y x).map (·.isSome) = some b → ∃ a o, w = .ref a ∧ DGet H a v o ∧ b = o.isSome := fun {y} hd ry h => by
    cases q : dGetO y x with
    | none => rw [q] at h; cases h
    | some r =>
      rw [q] at h
      cases h
      obtain ⟨a, rfl, _, _⟩ := dic_ra ex (ra_of_rp (H := H) ry hd) hd
      obtain ⟨o, dg, ro⟩ := dget_ra ex (ra_of_rp (H := H) ry hd) rv q
      exact ⟨a, o, rfl, dg, ro.some_eq.symm⟩
  unfold inX at h
  split at h
  · exact .inl (dic rfl rw' h)
  · exact .inl (dic rfl rw' h)
  · split at h
    · rename_i e
      cases h
      exact .inr (.inl ⟨_, rfl, e⟩)
    · cases h
  · exact .inr (.inr h)
theorem imp_inX {K : PySem.W.Frag} : Imp2 K dInX (rInX K) := fun F H v w x y d Q ex rv rw' e o => by
  unfold dInX at e
  cases q : inX x y with
  | none => rw [q] at e; cases e
  | some b =>
    rw [q] at e
    cases e
    rcases inX_cases ex rv rw' q with ⟨a, ov, rfl, g, eb⟩ | ⟨ds, rfl, h⟩ | h
    · exact .inr ⟨a, ov, rfl, g, by rw [← eb]; exact o.here ex (.bl _)⟩
    · exact .inl (.inr (imp_inT F H v w x (.tup ds) (.bl b) Q ex rv rw' h o))
    · exact .inl (.inl (imp_in F H v w x y (.bl b) Q ex rv rw' (by unfold dIn; rw [h]; rfl) o))
theorem imp_notInX {K : PySem.W.Frag} : Imp2 K dNotInX (rNotInX K) := fun F H v w x y d Q ex rv rw' e o => by
  unfold dNotInX at e
  cases q : inX x y with
  | none => rw [q] at e; cases e
  | some b =>
    rw [q] at e
    cases e
    rcases inX_cases ex rv rw' q with ⟨a, ov, rfl, g, eb⟩ | ⟨ds, rfl, h⟩ | h
    · exact .inr ⟨a, ov, rfl, g, by rw [← eb]; exact o.here ex (.bl _)⟩
    · refine .inl (.inr ?_)
      unfold dInT dItT at h
      simp only [Option.bind_some] at h
      split at h
      · rename_i hf
        injection h with h
        injection h with h
        cases rw' with
        | tup hh ra =>
          obtain ⟨e1, f1⟩ := vOf_is rv hf.1
          obtain ⟨e2, f2⟩ := vOf_all ra hf.2
          subst e1 e2
          exact ⟨_, _, rfl, .inr (SqT.of (ex _ _ hh)), f1, f2, by rw [if_pos rfl, h]; exact o.here ex (.bl _)⟩
      · cases h
    · exact .inl (.inl (imp_notIn F H v w x y (.bl (!b)) Q ex rv rw' (by unfold dNotIn; rw [h]; rfl) o))
/-! d[k] = x -/
def dPutD (y k d : D) : Option D := match y with
  | .dicT false es => (kTof k).bind fun ks => if es.length < sizeLine then some (.dicT false (pt es ks d)) else none
  | .dicK false es => (kOf k).bind fun ks => if es.length < sizeLine then some (.dicK false (pt es ks d)) else none
  | _ => none
def putO (i : Nat) (ρ : Rho) (o : Option D) : Fl := match o with
  | some y => .nx (ρ.set i (.own y))
  | none => .bad
def putS (i : Nat) (k d : D) (ρ : Rho) (o : Option D) : Fl := match o with
  | some y => putO i ρ (dPutD y k d)
  | none => .bad
def putk2 (i : Nat) (d : D) : D → Rho → Fl := fun k ρ => putS i k d ρ (ownD i ρ)
def putk1 (i : Nat) (tk : XV) : D → Rho → Fl := fun d ρ => match ownD i ρ with
  | some y => if isDic y = true then (tk ρ).fl (putk2 i d) else .bad
  | none => .bad
def xDPut (i : Nat) (tk tv : XV) : XS := fun ρ => (tv ρ).fl (putk1 i tk)
theorem xs_dput {i : Nat} {x : Str} {k e : Expr} {tk te : XV} {xp sp : Pos} (hu : X.A.units + 1 < cLine) (ho : PE X (.Name x xp) (tVar i)) (hk : PE X k (lE X.K E tk)) (he : PE X e (lE X.K E te))
    (hs : swapsWith e (some (.Subscript (.Name x xp) k sp)) pos.line X.env = pure false := by rfl) : PS X (.Assign [.Subscript (.Name x xp) k sp] e pos) (lS X.K E fr (xDPut i tk te)) := ps_imp (ps_dput hu ho hk he hs) fun C σ H h => by
  obtain ⟨F, ρ, r, p⟩ := h
  refine ⟨F, ρ, r, (PendS.fl r p).mono fun d ρ1 F1 H1 g1 q v rv => ?_⟩
  unfold putk1 at q
  cases e0 : ownD i ρ1 with
  | none => unfold PendS at q; simp only [e0] at q
  | some y0 =>
    by_cases hd : isDic y0 = true
    · have q : PendS X.K E fr (fun ρ => (tk ρ).fl (putk2 i d)) ρ1 σ F1 H1 C := by
        unfold PendS at q ⊢
        simp only [e0, if_pos hd] at q
        exact q
      obtain ⟨a, o0, s0, f0, h0, ro0⟩ := g1.rel.own (ownD_of e0)
      refine ⟨.ref a, s0, F1, ρ1, g1.rel, (PendS.fl g1.rel q).mono fun kd ρ2 F2 H2 g2 q w rw1 => ?_⟩
      unfold PendS putk2 at q
      cases e1 : ownD i ρ2 with
      | none => simp only [e1, putS] at q
      | some y =>
        simp only [e1, putS] at q
        cases e2 : dPutD y kd d with
        | none => simp only [e2, putO] at q
        | some y' =>
          simp only [e2, putO] at q
          obtain ⟨b, o1, s1, f1, h1, ro1⟩ := g2.rel.own (ownD_of e1)
          rw [s0] at s1
          cases s1
          have rv2 := rv.mono g2.ex
          unfold dPutD at e2
          split at e2
          · rename_i es
            cases q1 : kTof kd with
            | none => rw [q1] at e2; cases e2
            | some ks =>
              rw [q1] at e2
              simp only [Option.bind_some] at e2
              split at e2
              · rename_i hz
                cases e2
                obtain ⟨b2, rfl, hb⟩ := kTof_rp rw1 q1
                cases ro1 with
                | @dicT _ _ kvs _ hk2 hr2 =>
                  have re := RpE.of hk2 hr2
                  have rp := re.pt ks rv2
                  refine ⟨a, _, rfl, DPut.t h1 (g2.rel.ex _ _ hb) (by rw [re.len]; exact hz), q σ F2 _ (Go.mut g2.rel (ownD_of e1) s0 f1 h1 (Ro.dicT (z := false) (o := { cls := .none, data := .fields #[] }) rp.keys rp.vals))⟩
              · cases e2
          · rename_i es
            cases q1 : kOf kd with
            | none => rw [q1] at e2; cases e2
            | some ks =>
              rw [q1] at e2
              simp only [Option.bind_some] at e2
              split at e2
              · rename_i hz
                cases e2
                have := kOf_rp rw1 q1
                subst this
                cases ro1 with
                | @dicK _ _ kvs _ hk2 hr2 =>
                  have re := RpE.of hk2 hr2
                  have rp := re.pt ks rv2
                  refine ⟨a, _, rfl, DPut.k h1 (by rw [re.len]; exact hz), q σ F2 _ (Go.mut g2.rel (ownD_of e1) s0 f1 h1 (Ro.dicK (z := false) (o := { cls := .none, data := .fields #[] }) rp.keys rp.vals))⟩
              · cases e2
          · cases e2
    · unfold PendS at q
      simp only [e0, if_neg hd] at q
end
end G

set_option maxHeartbeats 4000000
namespace G
open PySem PySem.Spec PyProof.Rows L2

/-! ### list(d) -/
def dKeysL : D → Option D
  | .dicT _ es => some (.lst (es.map fun e => .tup (e.1.map dKey)))
  | .dicK false es => some (.lst (es.map fun e => dKey e.1))
  | _ => none
theorem rp_key {K : PySem.W.Frag} {F : Hp} (k : Key) : Rp K F (kV k) (dKey k) := by
  cases k
  · exact .int _
  · exact .str _
theorem rp_keys {K : PySem.W.Frag} {F : Hp} : ∀ ks : List Key, RpAll K F (ks.map kV) (ks.map dKey)
  | [] => .nil
  | k :: ks => .cons (rp_key k) (rp_keys ks)
/-- the tuples that are keys become known -/
theorem keys_known {K : PySem.W.Frag} {F H : Hp} {kvs : List (List Key × V)} {es : List (List Key × D)} {bs : List Addr} (ex : Same F H) (hk : kvs.map (·.1) = es.map (·.1)) (ik : IsKeys H kvs bs) :
    ∃ F', Same F F' ∧ Same F' H ∧ (∀ a o, NTup o → H a = some o → F a = none → F' a = none) ∧ RpAll K F' (bs.map V.ref) (es.map fun e => .tup (e.1.map dKey)) := by
  induction ik generalizing es with
  | nil =>
    cases es with
    | nil => exact ⟨F, Same.refl F, ex, fun _ _ _ _ h => h, .nil⟩
    | cons _ _ => cases hk
  | @cons p b kvs bs hb _ ih =>
    cases es with
    | nil => cases hk
    | cons e es =>
      rw [List.map_cons, List.map_cons] at hk
      obtain ⟨e1, e2⟩ := List.cons.inj hk
      obtain ⟨F', f1, f2, f3, f4⟩ := ih e2
      have s1 : Same F' (upd F' b (.tup (p.1.map kV))) := fun c u h => by
        by_cases hc : c = b
        · subst hc
          rw [upd_same]
          have := f2 c u h
          rw [hb] at this
          exact this
        · rw [upd_ne hc]; exact h
      refine ⟨upd F' b (.tup (p.1.map kV)), f1.trans s1, fun c u h => ?_, fun c u n h1 h2 => ?_, ?_⟩
      · by_cases hc : c = b
        · subst hc; rw [upd_same] at h; rw [hb]; exact h
        · rw [upd_ne hc] at h; exact f2 c u h
      · by_cases hc : c = b
        · subst hc
          rw [hb] at h1
          cases h1
          exact absurd rfl (n _)
        · rw [upd_ne hc]; exact f3 c u n h1 h2
      · refine .cons ?_ (f4.mono s1)
        have e1' : p.1 = e.1 := e1
        show Rp K _ (V.ref b) (.tup (e.1.map dKey))
        rw [← e1']
        exact .tup upd_same (rp_keys p.1)
def rListDA (K : PySem.W.Frag) : List V → Hp → VK → Prop := fun xs H Q => (∃ d kvs, xs = [V.ref d] ∧ Rd H d (.dT kvs) ∧ ∀ p bs, H p = none → IsKeys H kvs bs → Q (.ref p) (upd H p (.lst (bs.map V.ref)))) ∨ rListD xs H Q
theorem cr_listDA {X : Cx} (hc : X.calm = true) : CallR X (.type "list") (rListDA X.K) := (call_list_dT hc).or (call_list_dK hc)
theorem ra_frz {K : PySem.W.Frag} {F H : Hp} {a : Addr} {es : List (Key × D)} (e : Same F H) (r : Ra K F H (.ref a) (.dicK false es)) : ∃ kvs, H a = some (.dK kvs) ∧ RpE K F kvs es := by
  cases r with
  | val rp _ => cases rp with | dicK hf hk hr => exact ⟨_, e _ _ hf, RpE.of hk hr⟩
  | own h1 h2 ro => cases ro with | dicK hk hr => exact ⟨_, h2, RpE.of hk hr⟩
section
variable {X : Cx} {E : EW} {fr : Bool} {pos : Pos}
theorem keysL_of {K : PySem.W.Frag} {F H : Hp} {σ : L2.St} {ρ0 ρ : Rho} {F0 H0 : Hp} {x d : D} {v : V} {Q : VK} (r0 : Rel K F0 H0 ρ0 σ) (g0 : Go K ρ0 σ F0 H0 ρ σ F H) (ra : Ra K F H v x) (hd : isDic x = true) (e : dKeysL x = some d)
    (q : ∀ F' H', Go K ρ σ F H ρ σ F' H' → ∀ p o, F' p = none → H' p = some o → Ro K F' p o d → ¬ Own ρ σ p → (Own ρ0 σ p ∨ H0 p = none) → Q (.ref p) H') : rListDA K [v] H Q := by
  have ex := g0.rel.ex
  obtain ⟨a, rfl, _, hh⟩ := dic_ra ex ra hd
  have o := outN_of r0 g0 q
  unfold dKeysL at e
  split at e
  · rename_i z es
    cases e
    rcases hh with ⟨z', kvs, es', exx, hr, he⟩ | ⟨z', kvs, es', exx, hr, he⟩
    · cases exx
      refine .inl ⟨a, kvs, rfl, hr, fun p bs hp ik => ?_⟩
      obtain ⟨F', f1, f2, f3, f4⟩ := keys_known (K := K) ex he.keys ik
      have f2' : Same F' (upd H p (.lst (bs.map V.ref))) := fun c u h => by rw [upd_ne (ne_of_none (f2 c u h) hp)]; exact f2 c u h
      exact o p (.lst (bs.map V.ref)) F' _ ⟨f1, fun c u h => by rw [upd_ne (ne_of_none h hp)]; exact h, f2', f3⟩ hp (f2.free hp) upd_same (.lst f4)
    · cases exx
  · rename_i es
    cases e
    obtain ⟨kvs, hk, he⟩ := ra_frz ex ra
    refine .inr ⟨a, kvs, rfl, hk, fun p hp => o.new ex hp (.lst ?_)⟩
    have : kvs.map (fun kv => kV kv.1) = (kvs.map (·.1)).map kV := by rw [List.map_map]; rfl
    rw [this, he.keys, List.map_map, show es.map (fun e => dKey e.1) = (es.map (·.1)).map dKey by rw [List.map_map]; rfl, ← List.map_map]
    exact rp_keys _
  · cases e
/-- of a dict that can be read at slot i -/
def keysk : D → Rho → Res D := fun y ρ => lift dKeysL y ρ
def xKeysD (i : Nat) : XV := withD i keysk
theorem xn_listD {i : Nat} {x : Str} {p xp : Pos} (hc : X.calm = true) (hg : Gl X "list") (hm : X.mg "list" = none) (ho : PE X (.Name x xp) (tVar i))
    (s1 : starEach [.Name x xp] X.env = (false, eval (.Name x xp) X.env) :: starEach [] X.env := by rfl) (b2 : (backTo pos (starEach [] X.env)).any (·.1) = false := by rfl) :
    PE X (.Call (.Name "list" p) [.Name x xp] [] pos) (lN X.K E (xKeysD i)) := pe_imp (pe_callTy (cr_listDA hc) hg hm bt_list (pa_cons ho pa_nil s1) (he := s1) (hpl := b2)) fun σ H Q h => by
  obtain ⟨F, ρ, r, p⟩ := h
  obtain ⟨y, e0, hd, p⟩ := Pend.withD p
  obtain ⟨v, s0, ra⟩ := r.rd e0
  obtain ⟨d, ed, q⟩ := Pend.lift (f := dKeysL) (x := y) p
  exact ⟨v, s0, keysL_of r (Go.refl r) ra hd ed q⟩
def keysv : D → Rho → Res D := fun y ρ => if isDic y = true then lift dKeysL y ρ else .bad
def xKeysV (te : XV) : XV := fun ρ => (te ρ).bind keysv
theorem xn_listDV {e : Expr} {te : XV} {p : Pos} (hc : X.calm = true) (hg : Gl X "list") (hm : X.mg "list" = none) (ho : PE X e (lE X.K E te))
    (s1 : starEach [e] X.env = (false, eval e X.env) :: starEach [] X.env := by rfl) (b2 : (backTo pos (starEach [] X.env)).any (·.1) = false := by rfl) :
    PE X (.Call (.Name "list" p) [e] [] pos) (lN X.K E (xKeysV te)) := pe_imp (pe_callTy (cr_listDA hc) hg hm bt_list (pa_cons ho pa_nil s1) (he := s1) (hpl := b2)) fun σ H Q h => by
  obtain ⟨F, ρ, r, p⟩ := h
  refine ⟨F, ρ, r, (Pend.bind r p).mono fun y ρ1 F1 H1 g1 q v rv => ?_⟩
  by_cases hd : isDic y = true
  · have q : Pend X.K E (fun ρ => lift dKeysL y ρ) ρ1 σ F1 H1 (fun d ρ' F' H' => ∀ p o, F' p = none → H' p = some o → Ro X.K F' p o d → ¬ Own ρ' σ p → (Own ρ σ p ∨ H p = none) → Q (.ref p) H') := by
      unfold Pend keysv at q
      simp only [if_pos hd] at q
      exact q
    obtain ⟨d, ed, q⟩ := Pend.lift (f := dKeysL) (x := y) q
    exact keysL_of r g1 (ra_of_rp (H := H1) rv hd) hd ed q
  · unfold Pend keysv at q
    simp only [if_neg hd] at q
/-! ### xs.extend(ys) -/
def extk2 (i : Nat) (d : D) : List D → XS := fun ds ρ1 => match d with
  | .lst es => if ds.length + es.length ≤ sizeLine then .nx (ρ1.set i (.own (.lst (ds ++ es)))) else .bad
  | _ => .bad
def extk (i : Nat) : D → Rho → Fl := fun d => withL i (extk2 i d)
def extk0 (i : Nat) (te : XV) : List D → XS := fun _ ρ => (te ρ).fl (extk i)
def xExtend (i : Nat) (te : XV) : XS := withL i (extk0 i te)
theorem xs_extend {i : Nat} {x : Str} {e : Expr} {te : XV} {xp apos p2 : Pos} (hN : X.N[i]? = some x) (he : PE X e (lE X.K E te))
    (hs : PE X (.Call (.Attribute (.Name x xp) "extend" apos) [e] [] p2) (tBM X.K "list" rExtend (tVar i) (tCons (lE X.K E te) tNil))) (hq : swapsWith (.Call (.Attribute (.Name x xp) "extend" apos) [e] [] p2) none pos.line X.env = pure false := by rfl) :
    PS X (.Expr (.Call (.Attribute (.Name x xp) "extend" apos) [e] [] p2) pos) (lS X.K E fr (xExtend i te)) := ps_imp (ps_expr hs hq) fun C σ H h => by
  obtain ⟨F, ρ, r, p⟩ := h
  obtain ⟨ds0, e0, p⟩ := PendS.withL p
  obtain ⟨b, xs, h1, h2, h3, h4⟩ := r.ownL e0
  refine ⟨.ref b, h1, .inl ⟨rfl, xs, SqL.of h3⟩, F, ρ, r, (PendS.fl r p).mono fun d ρ1 F1 H1 g1 q v rv => ?_⟩
  obtain ⟨ds, e1, q⟩ := PendS.withL q
  obtain ⟨b1, xs1, k1, k2, k3, k4⟩ := g1.rel.ownL e1
  rw [h1] at k1
  cases k1
  cases d with
  | lst es =>
    have q : PendS X.K E fr (fun ρ1 => if ds.length + es.length ≤ sizeLine then .nx (ρ1.set i (.own (.lst (ds ++ es)))) else .bad) ρ1 σ F1 H1 C := q
    obtain ⟨hz, q⟩ := PendS.ite q
    cases rv with
    | lst z1 z2 =>
      refine ⟨b, _, xs1, _, rfl, rfl, k3, g1.rel.ex _ _ z1, by rw [k4.length, z2.length]; exact hz, ?_⟩
      exact q σ F1 _ (Go.mut g1.rel e1 h1 k2 k3 (.lst (k4.append z2)))
  | _ => exact (show False from q).elim
/-! ### displays of dicts whose keys are ints and texts -/
def xPairs : List (XV × XV) → Rho → Res (List (D × D))
  | [], ρ => .ok [] ρ
  | (tk, tv) :: r, ρ => (tk ρ).bind fun k ρ1 => (tv ρ1).bind fun v ρ2 => (xPairs r ρ2).bind fun ps ρ3 => .ok ((k, v) :: ps) ρ3
inductive RpP (K : PySem.W.Frag) (F : Hp) : List (V × V) → List (D × D) → Prop
  | nil : RpP K F [] []
  | cons {a b : V} {x y : D} {vs : List (V × V)} {ds : List (D × D)} : Rp K F a x → Rp K F b y → RpP K F vs ds → RpP K F ((a, b) :: vs) ((x, y) :: ds)
theorem pairs_lE {K : PySem.W.Frag} {E : EW} {σ : L2.St} : ∀ (ts : List (XV × XV)) {F H : Hp} {ρ : Rho} {Q : List (V × V) → Hp → Prop}, Rel K F H ρ σ → Pend K E (xPairs ts) ρ σ F H (fun ps _ F' H' => ∀ vs, RpP K F' vs ps → Q vs H') →
    tPairs (ts.map fun t => (lE K E t.1, lE K E t.2)) σ H Q
  | [], F, H, ρ, Q, r, p => by
    unfold Pend xPairs at p
    exact p F H (Go.refl r) [] .nil
  | (tk, tv) :: ts, F, H, ρ, Q, r, p => by
    refine ⟨F, ρ, r, (Pend.bind r p).mono fun k ρ1 F1 H1 g1 q a ra => ?_⟩
    refine ⟨F1, ρ1, g1.rel, (Pend.bind g1.rel q).mono fun v ρ2 F2 H2 g2 q b rb => ?_⟩
    refine pairs_lE ts g2.rel ((Pend.bind g2.rel q).mono fun ps ρ3 F3 H3 g3 q vs rs => ?_)
    exact q F3 H3 (Go.refl g3.rel) _ (.cons ((ra.mono g2.ex).mono g3.ex) (rb.mono g3.ex) rs)
def mkEs : List (D × D) → Option (List (Key × D))
  | [] => some []
  | (k, v) :: r => (kOf k).bind fun k' => (mkEs r).map ((k', v) :: ·)
def mergeE (es more : List (Key × D)) : List (Key × D) := more.foldl (fun acc e => pt acc e.1 e.2) es
theorem mkEs_rp {K : PySem.W.Frag} {F : Hp} : ∀ {vs : List (V × V)} {ps : List (D × D)} {es : List (Key × D)}, RpP K F vs ps → mkEs ps = some es → ∃ kvs : List (Key × V), vs = kvs.map (fun kv => (kV kv.1, kv.2)) ∧ RpE K F kvs es
  | _, _, _, .nil, h => by cases h; exact ⟨[], rfl, .nil⟩
  | _, _, es, .cons (x := x) (y := y) (ds := ds) ra rb t, h => by
    unfold mkEs at h
    cases q : kOf x with
    | none => rw [q] at h; cases h
    | some k =>
      rw [q] at h
      simp only [Option.bind_some] at h
      cases q2 : mkEs ds with
      | none => rw [q2] at h; cases h
      | some es' =>
        rw [q2] at h
        cases h
        obtain ⟨kvs, e1, e2⟩ := mkEs_rp t q2
        have := kOf_rp ra q
        subst this
        exact ⟨(k, _) :: kvs, by rw [e1]; rfl, .cons rb e2⟩
theorem merge_rp {K : PySem.W.Frag} {F : Hp} {kvs' : List (Key × V)} {es' : List (Key × D)} (h' : RpE K F kvs' es') : ∀ {kvs : List (Key × V)} {es : List (Key × D)}, RpE K F kvs es → RpE K F (mergeK kvs kvs') (mergeE es es') := by
  induction h' with
  | nil => exact fun h => h
  | cons r _ ih => exact fun h => ih (h.pt _ r)
def mkD (ps : List (D × D)) : Option D := (mkEs ps).bind fun es => if es.length ≤ 15 then some (.dicK false (mergeE [] es)) else none
def xDisp (ts : List (XV × XV)) : XV := fun ρ => (xPairs ts ρ).bind (lift mkD)
theorem xn_disp {keys : List (Option Expr)} {values : List Expr} {ts : List (XV × XV)} (h : PPs X pos keys values (ts.map fun t => (lE X.K E t.1, lE X.K E t.2))) (hall : keys.all (·.isSome) = true := by rfl) (hl : keys.length = values.length := by rfl) (h0 : keys ≠ [] := by intro h; cases h)
    (h15 : keys.length ≤ 15 := by decide) : PE X (.Dict keys values pos) (lN X.K E (xDisp ts)) := pe_imp (pe_disp h hall hl h0 h15) fun σ H Q h => by
  obtain ⟨F, ρ, r, p⟩ := h
  intro q hq
  have hf : F q = none := r.ex.free hq
  have g0 := (Gr.newO (o := .dK []) r.ex hq).go r
  have p2 : Pend X.K E (xPairs ts) ρ σ F H (fun ps ρ1 _ _ => ∀ F' H', Go X.K ρ σ F H ρ1 σ F' H' → Pend X.K E (lift mkD ps) ρ1 σ F' H' (fun d ρ' F' H' => ∀ p o, F' p = none → H' p = some o → Ro X.K F' p o d → ¬ Own ρ' σ p → (Own ρ σ p ∨ H p = none) → Q (.ref p) H')) := by
    have p3 := Pend.bind r p
    unfold Pend at p3 ⊢
    cases e : xPairs ts ρ with
    | ok ps ρ1 => simp only [e] at p3 ⊢; exact fun F' H' _ F2 H2 g2 => p3 F2 H2 g2
    | exc c ρ1 => simp only [e] at p3 ⊢; exact p3
    | bad => simp only [e] at p3
  have p1 := Pend.go r g0 p2
  refine pairs_lE ts g0.rel (Pend.mono p1 fun ps ρ2 F2 H2 g2 q2 vs rs => ?_)
  have hn : ¬ Own ρ σ q := not_own_new r hq
  obtain ⟨k1, k2⟩ := g2.keep q (.dK []) upd_same hf hn
  have k2 := k2 (fun _ z => by cases z)
  have hn2 : ¬ Own ρ2 σ q := fun z => by
    rcases g2.own q z with z | z
    · exact hn z
    · rw [upd_same] at z; cases z
  have q0 := q2 F2 H2 (g0.trans r g2)
  obtain ⟨d, ed, _⟩ := Pend.lift (f := mkD) q0
  have ed0 := ed
  unfold mkD at ed
  cases em : mkEs ps with
  | none => rw [em] at ed; cases ed
  | some es =>
    rw [em] at ed
    simp only [Option.bind_some] at ed
    split at ed
    · rename_i hz
      cases ed
      obtain ⟨kvs, ev, re⟩ := mkEs_rp rs em
      have rm := merge_rp re (.nil : RpE X.K F2 [] [])
      refine ⟨k1, kvs, ev, by rw [re.len]; exact hz, ?_⟩
      have gt := Go.touch (p := q) (o' := .dK (mergeK [] kvs)) r (g0.trans r g2) hq k2 k1 hn2
      obtain ⟨d', ed', q4⟩ := Pend.lift (f := mkD) (q2 F2 _ gt)
      rw [ed0] at ed'
      cases ed'
      exact q4 F2 _ (Go.refl gt.rel) q (.dK (mergeK [] kvs)) k2 upd_same (Ro.dicK (z := false) (o := { cls := .none, data := .fields #[] }) rm.keys rm.vals) hn2 (.inr hq)
    · cases ed
end
end G

set_option maxHeartbeats 4000000
namespace G
open PySem PySem.Spec PyProof.Rows L2

theorem hu1 {k : Nat} {A : Around} (r : Room k A) : A.units + 1 < cLine := by have := r.un; omega
/-! ### tables: what is known of a key -/
section
variable {κ α : Type} [DecidableEq κ]
def lkA (l : List (κ × α)) (k : κ) : Option α := (l.find? fun e => decide (e.1 = k)).map (·.2)
def ptA (l : List (κ × α)) (k : κ) (v : α) : List (κ × α) :=
  if (l.any fun e => decide (e.1 = k)) = true then l.map (fun e => if e.1 = k then (e.1, v) else e) else l ++ [(k, v)]
theorem lkA_nil (k : κ) : lkA ([] : List (κ × α)) k = none := rfl
theorem lkA_cons (j : κ) (v : α) (l : List (κ × α)) (k : κ) : lkA ((j, v) :: l) k = if j = k then some v else lkA l k := by
  unfold lkA
  by_cases e : j = k
  · rw [List.find?_cons_of_pos (by simpa using e), if_pos e]; rfl
  · rw [List.find?_cons_of_neg (by simpa using e), if_neg e]
theorem lkA_any (l : List (κ × α)) (k : κ) : (l.any fun e => decide (e.1 = k)) = (lkA l k).isSome := by
  induction l with
  | nil => rfl
  | cons p l ih =>
    obtain ⟨j, v⟩ := p
    rw [List.any_cons, lkA_cons, ih]
    by_cases e : j = k
    · simp [e]
    · simp [e]
theorem lkA_app (l m : List (κ × α)) (k : κ) : lkA (l ++ m) k = (lkA l k).or (lkA m k) := by
  induction l with
  | nil => simp [lkA_nil]
  | cons p l ih =>
    obtain ⟨j, v⟩ := p
    rw [List.cons_append, lkA_cons, lkA_cons, ih]
    by_cases e : j = k
    · rw [if_pos e, if_pos e]; rfl
    · rw [if_neg e, if_neg e]
theorem lkA_repl (l : List (κ × α)) (k : κ) (v : α) (j : κ) : lkA (l.map fun e => if e.1 = k then (e.1, v) else e) j = if j = k then (lkA l k).map (fun _ => v) else lkA l j := by
  induction l with
  | nil => by_cases e : j = k <;> simp [lkA_nil, e]
  | cons p l ih =>
    obtain ⟨i, u⟩ := p
    rw [List.map_cons]
    by_cases e : i = k
    · subst e
      rw [if_pos rfl, lkA_cons, lkA_cons, lkA_cons, ih]
      by_cases e2 : j = i
      · subst e2; simp
      · rw [if_neg (fun z => e2 z.symm), if_neg e2, if_neg e2, if_neg (fun z => e2 z.symm)]
    · rw [if_neg e, lkA_cons, lkA_cons, lkA_cons, ih]
      by_cases e2 : i = j
      · subst e2
        rw [if_pos rfl, if_neg e, if_pos rfl]
      · rw [if_neg e2, if_neg e2, if_neg e]
theorem lkA_pt (l : List (κ × α)) (k : κ) (v : α) (j : κ) : lkA (ptA l k v) j = if j = k then some v else lkA l j := by
  unfold ptA
  rw [lkA_any]
  cases h : lkA l k with
  | some u =>
    rw [if_pos (show (some u).isSome = true from rfl), lkA_repl, h]
    rfl
  | none =>
    rw [if_neg (show ¬ (none : Option α).isSome = true from fun z => nomatch z), lkA_app, lkA_cons, lkA_nil]
    by_cases e : j = k
    · subst e
      simp [h]
    · rw [if_neg e, if_neg (fun z => e z.symm)]
      cases lkA l j <;> rfl
theorem ptA_len (l : List (κ × α)) (k : κ) (v : α) : (ptA l k v).length ≤ l.length + 1 := by
  unfold ptA
  split
  · rw [List.length_map]; omega
  · rw [List.length_append]; exact Nat.le_refl _
theorem ptA_keys (l : List (κ × α)) (k : κ) (v : α) (j : κ) : j ∈ (ptA l k v).map (·.1) ↔ j = k ∨ j ∈ l.map (·.1) := by
  have key : ∀ (m : List (κ × α)), j ∈ m.map (·.1) ↔ (lkA m j).isSome = true := fun m => by
    rw [← lkA_any, List.any_eq_true]
    simp only [List.mem_map, decide_eq_true_eq]
  rw [key, key, lkA_pt]
  by_cases e : j = k
  · simp [e]
  · simp [e]
theorem mem_keys (m : List (κ × α)) (j : κ) : j ∈ m.map (·.1) ↔ (lkA m j).isSome = true := by
  rw [← lkA_any, List.any_eq_true]
  simp only [List.mem_map, decide_eq_true_eq]
theorem ptA_nodup (l : List (κ × α)) (k : κ) (v : α) (h : (l.map (·.1)).Nodup) : ((ptA l k v).map (·.1)).Nodup := by
  unfold ptA
  split
  · have : (l.map fun e => if e.1 = k then (e.1, v) else e).map (·.1) = l.map (·.1) := by
      rw [List.map_map]
      refine List.map_congr_left fun e _ => ?_
      show (if e.1 = k then (e.1, v) else e).1 = e.1
      split <;> rfl
    rw [this]; exact h
  · rename_i hn
    rw [List.map_append]
    refine List.nodup_append.mpr ⟨h, by simp, fun x hx y hy e => ?_⟩
    have hy' : y = k := by simpa using hy
    subst hy' e
    rw [lkA_any] at hn
    exact hn ((mem_keys l x).mp hx)
end
/-! cells as keys -/
def ck (p : Int × Int) : List Key := [.inl p.1, .inl p.2]
theorem ck_inj {p q : Int × Int} : ck p = ck q ↔ p = q := by
  constructor
  · intro h
    unfold ck at h
    injection h with h1 h2
    injection h2 with h2 _
    injection h1 with h1
    injection h2 with h2
    exact Prod.ext h1 h2
  · rintro rfl; rfl
def encE {α : Type} (f : α → D) (l : List ((Int × Int) × α)) : List (List Key × D) := l.map fun e => (ck e.1, f e.2)
theorem lk_enc {α : Type} (f : α → D) (l : List ((Int × Int) × α)) (k : Int × Int) : lk (encE f l) (ck k) = (lkA l k).map f := by
  unfold encE
  induction l with
  | nil => rfl
  | cons p l ih =>
    obtain ⟨j, v⟩ := p
    rw [lkA_cons, List.map_cons]
    unfold lk
    by_cases e : j = k
    · rw [List.find?_cons_of_pos (by simp [e]), if_pos e]; rfl
    · rw [List.find?_cons_of_neg (by simpa [ck_inj] using e), if_neg e]
      exact ih
theorem pt_enc {α : Type} (f : α → D) (l : List ((Int × Int) × α)) (k : Int × Int) (v : α) : pt (encE f l) (ck k) (f v) = encE f (ptA l k v) := by
  unfold pt ptA encE
  have e1 : ((l.map fun e => (ck e.1, f e.2)).any fun e => decide (e.1 = ck k)) = l.any fun e => decide (e.1 = k) := by
    rw [List.any_map]
    congr 1
    funext e
    exact decide_eq_decide.mpr ck_inj
  rw [e1]
  split
  · rw [List.map_map, List.map_map]
    refine List.map_congr_left fun e _ => ?_
    show (if ck e.1 = ck k then (ck e.1, f v) else (ck e.1, f e.2)) = (ck (if e.1 = k then (e.1, v) else e).1, f (if e.1 = k then (e.1, v) else e).2)
    by_cases h : e.1 = k
    · rw [if_pos h, if_pos (by rw [h])]
    · rw [if_neg h, if_neg (fun z => h (ck_inj.mp z))]
  · rw [List.map_append]
    rfl
theorem encE_len {α : Type} (f : α → D) (l : List ((Int × Int) × α)) : (encE f l).length = l.length := List.length_map _
/-! the plain side -/
section
variable {α β : Type} (ρ ρ1 : Rho) (i : Nat) (ta tb : XV)
def withDO (f : D → Rho → Res α) (ρ : Rho) (o : Option D) : Res α := match o with
  | some x => if isDic x = true then f x ρ else .bad
  | none => .bad
theorem zgc (f : D → Rho → Res α) : withD i f ρ = withDO f ρ (rdD i ρ) := by unfold withD withDO; rfl
theorem zgd (f : D → Rho → Res α) (z : Bool) (es : List (List Key × D)) : withDO f ρ (some (.dicT z es)) = f (.dicT z es) ρ := rfl
theorem zge (f : D → Rho → Res α) (z : Bool) (es : List (Key × D)) : withDO f ρ (some (.dicK z es)) = f (.dicK z es) ρ := rfl
theorem zgf : xDGet2 i ta tb ρ = withD i (getk0 i ta tb) ρ := rfl
theorem zgg (d : D) : getk0 i ta tb d ρ = (ta ρ).bind (getk1 i tb) := rfl
theorem zgh (k : D) : getk1 i tb k ρ = (tb ρ).bind (getk2 i k) := rfl
theorem zgi (k x : D) : getk2 i k x ρ = withD i (getk3 k x) ρ := rfl
def getO3 (x : D) (ρ : Rho) (o : Option (Option D)) : Res D := match o with
  | some r => .ok (r.getD x) ρ
  | none => .bad
theorem zgj (k x y : D) : getk3 k x y ρ = getO3 x ρ (dGetO y k) := by unfold getk3 getO3; rfl
theorem zgk (x : D) (r : Option D) : getO3 x ρ (some r) = .ok (r.getD x) ρ := rfl
theorem zgl (tk : XV) : xDGetV ta tk tb ρ = (ta ρ).bind (getv0 tk tb) := rfl
theorem zgm (z : Bool) (es : List (List Key × D)) : getv0 ta tb (.dicT z es) ρ = (ta ρ).bind (getv1 tb (.dicT z es)) := rfl
theorem zgn (z : Bool) (es : List (Key × D)) : getv0 ta tb (.dicK z es) ρ = (ta ρ).bind (getv1 tb (.dicK z es)) := rfl
theorem zgo (y k : D) : getv1 tb y k ρ = (tb ρ).bind (getv2 y k) := rfl
theorem zgp (y k x : D) : getv2 y k x ρ = getk3 k x y ρ := rfl
theorem zgq (z : Bool) (es : List (List Key × D)) (a b : Int) : dGetO (.dicT z es) (.tup [.int a, .int b]) = some (lk es (ck (a, b))) := rfl
theorem zgr (z : Bool) (es : List (Key × D)) (a : Int) : dGetO (.dicK z es) (.int a) = some (lk es (.inl a)) := rfl
theorem zgs : xDIxV ta tb ρ = (ta ρ).bind (ixv0 tb) := rfl
theorem zgt (z : Bool) (es : List (List Key × D)) : ixv0 ta (.dicT z es) ρ = (ta ρ).bind (ixv1 (.dicT z es)) := rfl
theorem zgu (z : Bool) (es : List (Key × D)) : ixv0 ta (.dicK z es) ρ = (ta ρ).bind (ixv1 (.dicK z es)) := rfl
theorem zgv (y k : D) : ixv1 y k ρ = liftO (dIxD y k) ρ := rfl
theorem zgw : xDIx i ta ρ = withD i (dixk0 i ta) ρ := rfl
theorem zgx (d : D) : dixk0 i ta d ρ = (ta ρ).bind (dixk1 i) := rfl
theorem zgy (k : D) : dixk1 i k ρ = withD i (dixk2 i k) ρ := rfl
theorem zgz (k y : D) : dixk2 i k y ρ = liftO (dIxD y k) ρ := rfl
theorem zgA (z : Bool) (es : List (List Key × D)) (a b : Int) : dIxD (.dicT z es) (.tup [.int a, .int b]) = lk es (ck (a, b)) := rfl
theorem zgB (z : Bool) (es : List (Key × D)) (a : Int) : dIxD (.dicK z es) (.int a) = lk es (.inl a) := rfl
theorem zgC (z : Bool) (es : List (List Key × D)) (a b : Int) : dInX (.tup [.int a, .int b]) (.dicT z es) = some (.bl (lk es (ck (a, b))).isSome) := rfl
theorem zgD (z : Bool) (es : List (List Key × D)) (a b : Int) : dNotInX (.tup [.int a, .int b]) (.dicT z es) = some (.bl (!(lk es (ck (a, b))).isSome)) := rfl
theorem zgE (x : D) (ds : List D) : dInX x (.lst ds) = (inD x (.lst ds)).map .bl := rfl
theorem zgF (x : D) (ds : List D) : dNotInX x (.lst ds) = (inD x (.lst ds)).map fun b => .bl (!b) := rfl
theorem zgG (z : Bool) (es : List (List Key × D)) (a b : Int) : inX (.tup [.int a, .int b]) (.dicT z es) = some (lk es (ck (a, b))).isSome := rfl
theorem zgH (x : D) (ds : List D) : inX x (.lst ds) = inD x (.lst ds) := rfl
theorem zgI (x y : D) : dBl dInX x y = inX x y := by unfold dBl dInX; cases inX x y <;> rfl
theorem zgJ (x y : D) : dBl dNotInX x y = (inX x y).map (!·) := by unfold dBl dNotInX; cases inX x y <;> rfl
theorem zgK : xDPut i ta tb ρ = (tb ρ).fl (putk1 i ta) := rfl
def putO1 (i : Nat) (tk : XV) (d : D) (ρ : Rho) (o : Option D) : Fl := match o with
  | some y => if isDic y = true then (tk ρ).fl (putk2 i d) else .bad
  | none => .bad
theorem zgL (d : D) : putk1 i ta d ρ = putO1 i ta d ρ (ownD i ρ) := by unfold putk1 putO1; rfl
theorem zgM (d : D) (z : Bool) (es : List (List Key × D)) : putO1 i ta d ρ (some (.dicT z es)) = (ta ρ).fl (putk2 i d) := rfl
theorem zgN (d : D) (z : Bool) (es : List (Key × D)) : putO1 i ta d ρ (some (.dicK z es)) = (ta ρ).fl (putk2 i d) := rfl
theorem zgO (d k : D) : putk2 i d k ρ = putS i k d ρ (ownD i ρ) := rfl
theorem zgP (k d y : D) : putS i k d ρ (some y) = putO i ρ (dPutD y k d) := rfl
theorem zgQ (y : D) : putO i ρ (some y) = .nx (ρ.set i (.own y)) := rfl
theorem zgR {es : List (List Key × D)} (hz : es.length < sizeLine) (a b : Int) (d : D) : dPutD (.dicT false es) (.tup [.int a, .int b]) d = some (.dicT false (pt es (ck (a, b)) d)) := by
  show (if es.length < sizeLine then some (D.dicT false (pt es (ck (a, b)) d)) else none) = _
  rw [if_pos hz]
theorem zgS : xKeysD i ρ = withD i keysk ρ := rfl
theorem zgT (y : D) : keysk y ρ = liftO (dKeysL y) ρ := rfl
theorem zgU : xKeysV ta ρ = (ta ρ).bind keysv := rfl
theorem zgV (z : Bool) (es : List (List Key × D)) : keysv (.dicT z es) ρ = liftO (dKeysL (.dicT z es)) ρ := rfl
theorem zgW (z : Bool) (es : List (List Key × D)) : dKeysL (.dicT z es) = some (.lst (es.map fun e => .tup (e.1.map dKey))) := rfl
theorem zgX : xExtend i ta ρ = withL i (extk0 i ta) ρ := rfl
theorem zgY (ds : List D) : extk0 i ta ds ρ = (ta ρ).fl (extk i) := rfl
theorem zgZ (d : D) : extk i d ρ = withL i (extk2 i d) ρ := rfl
theorem zha (ds es : List D) (hz : ds.length + es.length ≤ sizeLine) : extk2 i (.lst es) ds ρ = .nx (ρ.set i (.own (.lst (ds ++ es)))) := if_pos hz
theorem zhb (ts : List (XV × XV)) : xDisp ts ρ = (xPairs ts ρ).bind (lift mkD) := rfl
def pk3 (k v : D) : List (D × D) → Rho → Res (List (D × D)) := fun ps ρ3 => .ok ((k, v) :: ps) ρ3
def pk2 (k : D) (r : List (XV × XV)) : D → Rho → Res (List (D × D)) := fun v ρ2 => (xPairs r ρ2).bind (pk3 k v)
def pk1 (tv : XV) (r : List (XV × XV)) : D → Rho → Res (List (D × D)) := fun k ρ1 => (tv ρ1).bind (pk2 k r)
theorem zhc : xPairs [] ρ = .ok [] ρ := rfl
theorem zhd (tk tv : XV) (r : List (XV × XV)) : xPairs ((tk, tv) :: r) ρ = (tk ρ).bind (pk1 tv r) := rfl
theorem zhe (tv : XV) (r : List (XV × XV)) (k : D) : pk1 tv r k ρ = (tv ρ).bind (pk2 k r) := rfl
theorem zhf (r : List (XV × XV)) (k v : D) : pk2 k r v ρ = (xPairs r ρ).bind (pk3 k v) := rfl
theorem zhg (ps : List (D × D)) (k v : D) : pk3 k v ps ρ = .ok ((k, v) :: ps) ρ := rfl
theorem zhh (a b c : D) : mkD [(.int 4, a), (.int 6, b), (.int 8, c)] = some (.dicK false [(.inl 4, a), (.inl 6, b), (.inl 8, c)]) := rfl
theorem zhi (a b c : D) : lk [((.inl 4 : Key), a), (.inl 6, b), (.inl 8, c)] (.inl 4) = some a := rfl
theorem zhj (a b c : D) : lk [((.inl 4 : Key), a), (.inl 6, b), (.inl 8, c)] (.inl 6) = some b := rfl
theorem zhk (a b c : D) : lk [((.inl 4 : Key), a), (.inl 6, b), (.inl 8, c)] (.inl 8) = some c := rfl
theorem zhl (ds : List D) : dSortedA [.lst ds] = dSorted [.lst ds] := rfl
theorem zhm (ds : List D) : dSortedA [.tup ds] = dSorted [.lst ds] := rfl
end
theorem zhn (n : Int) (ns : List Int) : dInX (.int n) (.tup (ns.map D.int)) = some (.bl (decide (n ∈ ns))) := by
  unfold dInX inX
  simp only
  rw [zfa]
  rfl
theorem zho (n : Int) (ns : List Int) : dNotInX (.int n) (.tup (ns.map D.int)) = some (.bl (!decide (n ∈ ns))) := by
  unfold dNotInX inX
  simp only
  rw [zfa]
  rfl
end G

set_option maxHeartbeats 4000000
namespace G
open PySem PySem.Spec PyProof.Rows L2
local macro_rules | `(tactic| simp! [$ls,*] $[$loc:location]?) => `(tactic| simp only [zaa, zab, zac, zad, zae, zaf, zag, zah, zai, zaj, zak, zal, zam, zan, zao, zap, zaq, zar, zas, zat, zau, zav, zaw, zax, zay, zaz, zaA, zaB, zaC, zaD, zaE, zaF, zaG, zaH, zaI, zaJ, zaK, zaL, zaM, zaN, zaO, zaP, zaQ, zaR, zaS, zaT, zaU, zaV, zaW, zaX, zaY, zaZ, zba, zbb, zbc, zbd, zbe, zbf, zbg, zbh, zbi, zbj, zbk, zbl, zbm, zbn, zbo, zbp, zbq, zbr, zbs, zbt, zbu, zbv, zbw, zbx, zby, zbz, zbA, zbB, zbC, zbD, zbE, zbF, zbG, zbH, zbI, zbJ, zbK, zbL, zbM, zbN, zbO, zbP, zbQ, zbR, zbS, zbT, zbU, zbV, zbW, zbX, zbY, zbZ, zca, zcb, zcc, zcd, zce, zcf, zcg, zch, zci, zcj, zck, zcl, zcm, zcn, zco, zcp, zcq, zcr, zcs, zct, zcu, zcv, zcw, zcx, zcy, zcz, zcA, zcB, zcC, zcD, zcE, zcF, zcG, zcH, zcI, zcJ, zcK, zcL, zcM, zcN, zcO, zcP, zcQ, zcR, zcS, zcT, zcU, zcV, zcW, zcX, zcY, zcZ, zda, zdb, zdc, zdd, zde, zdf, zdg, zdh, zdi, zdj, zdk, zdl, zdm, zdn, zdo, zdp, zdq, zdr, zds, zdt, zdu, zdv, zdw, zdx, zdy, zdz, zdA, zdB, zdC, zdD, zdE, zdF, zdG, zdH, zdI, zdJ, zdK, zdL, zdM, zdN, zdO, zdP, zdQ, zdR, zdS, zdT, zdU, zdV, G.of_f, G.of_t, zdW, zdX, zdY, zdZ, zea, zeb, zec, zed, zee, zef, zeg, zeh, zei, zej, zek, zel, zem, zen, zeo, zep, zeq, zer, zes, zet, zeu, zev, zew, zex, zey, zez, zeA, zeB, zeC, zeD, zeE, zeF, zeG, zeH, zeI, zeJ, zeK, zeL, zeM, zeN, zeO, zeP, zeQ, zeR, zeS, zeT, zeU, zeV, zeW, zeX, zeY, zeZ, zfa, zfb, zfc, G.sz_1, G.sz_2, G.sz_3, G.sz_4, G.sz_0, zfd, zfe, zff, zfg, zfh, zfi, zfj, zfk, zfl, zfm, zfn, zfo, zfp, zfq, zfr, zfs, zft, zfu, zfv, zfw, G.nc_0, G.nc_1, G.nc_2, G.nc_3, G.nc_4, G.nc_5, G.nc_6, G.nc_7, G.nc_8, G.nc_9, zfx, zfy, zfz, zfA, zfB, zfC, zfD, zfE, zfF, zfG, zfH, zfI, zfJ, zfK, zfL, zfM, zfN, zfO, zfP, zfQ, zfR, zfS, zfT, zfU, zfV, zfW, zfX, zfY, zfZ, zga, zgb, zgc, zgd, zge, zgf, zgg, zgh, zgi, zgj, zgk, zgl, zgm, zgn, zgo, zgp, zgq, zgr, zgs, zgt, zgu, zgv, zgw, zgx, zgy, zgz, zgA, zgB, zgC, zgD, zgE, zgF, zgG, zgH, zgI, zgJ, zgK, zgL, zgM, zgN, zgO, zgP, zgQ, zgR, zgS, zgT, zgU, zgV, zgW, zgX, zgY, zgZ, zha, zhb, zhc, zhd, zhe, zhf, zhg, zhh, zhi, zhj, zhk, zhl, zhm, zhn, zho, List.getElem?_cons_zero, List.getElem?_cons_succ, List.set_cons_zero, List.set_cons_succ, G.atI_0, G.atI_1, G.atI_2, G.atI_3, Option.map_some, Option.bind_some, G.eqD_int, G.eqD_cell, G.eqD_bl, List.length_cons, List.length_nil, List.getD_cons_zero, List.getD_cons_succ, Bool.and_true, Bool.and_self, decide_true, decide_false, Bool.not_true, Bool.not_false, List.append_nil, List.nil_append, List.cons_append, if_true, if_false, Bool.false_eq_true, reduceIte, Int.reduceLT, Int.reduceLE, Int.reduceToNat, Int.reducePow, Int.reduceNeg, Int.reduceAdd, Int.reduceSub, Int.reduceMul, Nat.reduceAdd, Int.reduceEq, List.replicate, Nat.reduceSub, and_self, and_true, true_and, $ls,*] $[$loc]?)

/-! ### the other text of the pens -/
def bDraw2 : XS := (xSeq (xSetIx 0 (xC (.int 2)) (xOp2 dAdd (xIxO 0 (xC (.int 2))) (xC (.int 1))))
    (xSeq (xIfS (xTest (xOp2 (dCmp fun i j => decide (j < i)) (xIxO 0 (xC (.int 0))) (xC (.int 0))))
    (xSeq (xSet 2 (xOp2 dMod (xIxO 0 (xC (.int 0))) (xVar 1)))
    (xSeq (xSetIx 0 (xC (.int 0)) (xOp2 dDiv (xIxO 0 (xC (.int 0))) (xVar 1)))
    (xRet (xVar 2))))
    xNext)
    (xSeq (xSet 3 (xOp2 dMod (xOp2 dAdd (xOp2 dAdd (xIxO 0 (xC (.int 1))) (xOp2 dMul (xC (.int 69621)) (xIxO 0 (xC (.int 2))))) (xC (.int 29))) (xC (.int 2147483629))))
    (xSeq (xSet 3 (xOp2 dAdd (xOp2 dMod (xOp2 dMul (xVar 3) (xVar 3)) (xC (.int 2147483587))) (xOp2 dMul (xC (.int 16807)) (xIxO 0 (xC (.int 2))))))
    (xSeq (xSet 3 (xOp2 dMod (xOp2 dMul (xVar 3) (xVar 3)) (xC (.int 2147483629))))
    (xRet (xOp2 dMod (xOp2 dDiv (xVar 3) (xC (.int 64))) (xVar 1))))))))
def fDraw2 : DF := runB [false] 4 false bDraw2
theorem draw2_ex {n : Nat} {p : D} (h : PenOk n p) (hn : n < 2 ^ 60) {m : Int} (hm : 0 < m) (hm2 : m < 2 ^ 200) : ∃ r p', fDraw2 [p, .int m] = .ok (.int r) [p'] ∧ 0 ≤ r ∧ r < m ∧ PenOk (n + 1) p' := by
  obtain ⟨a, b, c, rfl, hc0, hc⟩ := h
  have hd : CDivW a m := CDivW.s a ⟨hm, hm2⟩
  unfold fDraw2 bDraw2
  have i2 : ixN 3 2 = some 2 := ix3 2 ⟨by decide, by decide⟩
  have i0 : ixN 3 0 = some 0 := ix3 0 ⟨by decide, by decide⟩
  by_cases ha : 0 < a
  · simp! [i2, i0, hm, hd, ha]
    exact ⟨_, _, rfl, Int.emod_nonneg _ (by omega), Int.emod_lt_of_pos _ hm, ⟨_, _, _, rfl, by omega, by omega⟩⟩
  · have m1 : CMulA 69621 (c + 1) := CMulA.l _ ⟨by decide, by decide⟩
    have m2 : CMulA 16807 (c + 1) := CMulA.l _ ⟨by decide, by decide⟩
    have d1 : ∀ x : Int, CDivW x 64 := fun x => CDivW.s x ⟨by decide, by decide⟩
    generalize hx : (b + 69621 * (c + 1) + 29) % 2147483629 = x at *
    have hx0 : 0 ≤ x := by rw [← hx]; exact Int.emod_nonneg _ (by decide)
    have hx1 : x < 2147483629 := by rw [← hx]; exact Int.emod_lt_of_pos _ (by decide)
    have m3 : CMulA x x := CMulA.l _ ⟨by omega, by omega⟩
    generalize hy : x * x % 2147483587 + 16807 * (c + 1) = y at *
    have hy0 : 0 ≤ x * x % 2147483587 := Int.emod_nonneg _ (by decide)
    have hy1 : x * x % 2147483587 < 2147483587 := Int.emod_lt_of_pos _ (by decide)
    have m4 : CMulA y y := by
      have q : y.natAbs < 2 ^ 100 := natAbs_lt (k := 100) ⟨by omega, by omega⟩
      exact .inr (wide_mul q q (by decide) (by decide) (by decide))
    simp! [i2, i0, hm, d1, ha, slot0, m1, m2, hx, m3, hy, m4]
    exact ⟨_, _, rfl, Int.emod_nonneg _ (by omega), Int.emod_lt_of_pos _ hm, ⟨_, _, _, rfl, by omega, by omega⟩⟩
def bPen2 : XS := (xSeq (xSet 2 (xOp2 dAdd (xOp2 dMul (xC (.int 104729)) (xVar 1)) (xC (.int 71))))
    (xSeq (xIfS (xTest (xOp2 dLt (xVar 1) (xOpL dLen (xCons (xVar 0) xNil))))
    (xSet 2 (xOp2 dIx (xVar 0) (xVar 1)))
    (xIfS (xTest (xOp2 (dCmp fun i j => decide (j < i)) (xOpL dLen (xCons (xVar 0) xNil)) (xC (.int 0))))
    (xSet 2 (xOp2 dAdd (xOp2 dMod (xOp2 dIx (xVar 0) (xOp2 dMod (xVar 1) (xOpL dLen (xCons (xVar 0) xNil)))) (xC (.int 2147483629))) (xOp2 dMul (xC (.int 69621)) (xVar 1))))
    xNext))
    (xSeq (xIfS (xTest (xOp2 (dCmp fun i j => decide (j ≤ i)) (xVar 2) (xOp2 dPow (xC (.int 10)) (xC (.int 18)))))
    (xRet (xOpL dLst (xCons (xOp2 dSub (xVar 2) (xOp2 dPow (xC (.int 10)) (xC (.int 18)))) (xCons (xOp2 dMod (xVar 2) (xC (.int 2147483587))) (xCons (xC (.int 0)) xNil)))))
    xNext)
    (xRet (xOpL dLst (xCons (xC (.int 0)) (xCons (xOp2 dMod (xVar 2) (xC (.int 2147483587))) (xCons (xC (.int 0)) xNil))))))))
def fPen2 : DF := runP [false, false] 3 true bPen2
theorem pen2_ex (ns : List Int) (k : Nat) : ∃ p, fPen2 [.fix (ns.map D.int), .int (k : Nat)] = .ok p [] ∧ PenOk 0 p := by
  unfold fPen2 bPen2
  have m0 : CMulA 104729 (k : Int) := CMulA.l _ ⟨by decide, by decide⟩
  have m1 : CMulA 69621 (k : Int) := CMulA.l _ ⟨by decide, by decide⟩
  have c1 : CPow 10 18 := cpow10 ⟨by decide, by decide⟩
  have fin : ∀ x : Int, ∃ p, endP true ((xSeq (xIfS (xTest (xOp2 (dCmp fun i j => decide (j ≤ i)) (xVar 2) (xOp2 dPow (xC (.int 10)) (xC (.int 18)))))
    (xRet (xOpL dLst (xCons (xOp2 dSub (xVar 2) (xOp2 dPow (xC (.int 10)) (xC (.int 18)))) (xCons (xOp2 dMod (xVar 2) (xC (.int 2147483587))) (xCons (xC (.int 0)) xNil)))))
    xNext)
    (xRet (xOpL dLst (xCons (xC (.int 0)) (xCons (xOp2 dMod (xVar 2) (xC (.int 2147483587))) (xCons (xC (.int 0)) xNil)))))) [.val (.fix (ns.map D.int)), .val (.int (k : Nat)), .val (.int x)]) = .ok p [] ∧ PenOk 0 p := fun x => by
    by_cases hx : (10 : Int) ^ 18 ≤ x
    · have hx' : (1000000000000000000 : Int) ≤ x := by simpa using hx
      simp! [c1, hx']
      exact ⟨_, rfl, ⟨_, _, _, rfl, by omega, by omega⟩⟩
    · have hx' : ¬ (1000000000000000000 : Int) ≤ x := by simpa using hx
      simp! [c1, hx']
      exact ⟨_, rfl, ⟨_, _, _, rfl, by omega, by omega⟩⟩
  have hl : (ns.map D.int).length = ns.length := List.length_map _
  by_cases h1 : (k : Int) < (ns.length : Int)
  · obtain ⟨v, hv⟩ := atI_get_int (ns := ns) (j := k) (by omega) h1
    simp! [m0, hl, h1, hv]
    exact fin v
  · by_cases h2 : (0 : Int) < (ns.length : Int)
    · obtain ⟨v, hv⟩ := atI_get_int (ns := ns) (j := (k : Int) % (ns.length : Int)) (Int.emod_nonneg _ (by omega)) (Int.emod_lt_of_pos _ h2)
      simp! [m0, m1, hl, h1, h2, hv]
      exact fin _
    · simp! [m0, hl, h1, h2]
      exact fin _

noncomputable def bSome2 : XS := (xSeq (xSet 3 (xCallB fDraw2 0 (xCons (xC (.int 4)) xNil)))
    (xSeq (xSet 4 (xOp2 dAdd (xVar 1) (xCallB fDraw2 0 (xCons (xOp2 dAdd (xOp2 dSub (xVar 2) (xVar 1)) (xC (.int 1))) xNil))))
    (xSeq (xSet 5 (xOp2 dEq (xCallB fDraw2 0 (xCons (xC (.int 2)) xNil)) (xC (.int 0))))
    (xSeq (xIfS (xTest (xOp2 dEq (xVar 3) (xC (.int 0))))
    (xRet (xOpL dTuple (xCons (xLC (xItR2 (xVar 1) (xOp2 dAdd (xVar 2) (xC (.int 1)))) (gSet 6) (xTest (xOp2 dEq (xOp2 dEq (xVar 6) (xVar 4)) (xVar 5))) (xVar 6) [6]) xNil)))
    xNext)
    (xRet (xOpL dTuple (xCons (xLC (xItR2 (xVar 1) (xOp2 dAdd (xVar 2) (xC (.int 1)))) (gSet 6) (xTest (xOp2 dEq (xCallB fDraw2 0 (xCons (xC (.int 2)) xNil)) (xC (.int 0)))) (xVar 6) [6]) xNil)))))))
noncomputable def fSome2 : DF := runB [false, false] 7 false bSome2
noncomputable def bRule2 : XS := (xSeq (xSet 1 (xOp2 dIx (xOpL dLst (xCons (xC (.int 4)) (xCons (xC (.int 6)) (xCons (xC (.int 8)) xNil)))) (xCallB fDraw2 0 (xCons (xC (.int 3)) xNil))))
    (xSeq (xIfS (xTest (xOp2 dEq (xCallB fDraw2 0 (xCons (xC (.int 3)) xNil)) (xC (.int 0))))
    (xRet (xDIxV (xDisp [((xC (.int 4)), (xOpL dTup (xCons (xC (.int 4)) (xCons (xOpL dTup (xCons (xC (.int 2)) xNil)) (xCons (xOpL dTup (xCons (xC (.int 0)) (xCons (xC (.int 1)) (xCons (xC (.int 2)) xNil)))) xNil))))), ((xC (.int 6)), (xOpL dTup (xCons (xC (.int 6)) (xCons (xOpL dTup (xCons (xC (.int 2)) xNil)) (xCons (xOpL dTup (xCons (xC (.int 3)) (xCons (xC (.int 4)) xNil))) xNil))))), ((xC (.int 8)), (xOpL dTup (xCons (xC (.int 8)) (xCons (xOpL dTup (xCons (xC (.int 3)) xNil)) (xCons (xOpL dTup (xCons (xC (.int 2)) (xCons (xC (.int 3)) xNil))) xNil)))))]) (xVar 1)))
    xNext)
    (xRet (xOpL dTup (xCons (xVar 1) (xCons (xCallB fSome2 0 (xCons (xC (.int 0)) (xCons (xVar 1) xNil))) (xCons (xCallB fSome2 0 (xCons (xC (.int 0)) (xCons (xVar 1) xNil))) xNil)))))))
noncomputable def fRule2 : DF := runB [] 2 false bRule2

/-! ### rules -/
abbrev ruleD (k : Int) (bs ss : List Int) : D := .tup [.int k, .tup (bs.map D.int), .tup (ss.map D.int)]
def upN (n : Nat) : List Int := (List.range n).map fun i => ((i : Nat) : Int)
theorem rangeD_upN (n : Nat) : rangeD 0 n = (upN n).map D.int := by
  unfold rangeD upN
  rw [List.map_map]
  exact List.map_congr_left fun i _ => by show D.int (0 + (i : Int)) = D.int (i : Int); rw [Int.zero_add]
theorem upN_len (n : Nat) : (upN n).length = n := by unfold upN; rw [List.length_map, List.length_range]
theorem mem_upN {n : Nat} {x : Int} : x ∈ upN n ↔ 0 ≤ x ∧ x < n := by
  unfold upN
  rw [List.mem_map]
  constructor
  · rintro ⟨i, hi, rfl⟩
    have := List.mem_range.mp hi
    omega
  · rintro ⟨h1, h2⟩
    exact ⟨x.toNat, List.mem_range.mpr (by omega), by omega⟩
theorem upN_lt (n : Nat) : (upN n).Pairwise (· < ·) := by
  unfold upN
  exact List.pairwise_map.mpr (List.Pairwise.imp (fun {a b} (h : a < b) => by omega) List.pairwise_lt_range)
theorem some2_ex {n : Nat} {p : D} {lo k : Int} (hk : 0 ≤ lo ∧ lo ≤ k ∧ k ≤ 8) (h : PenOk n p) (hn : n + 20 < 2 ^ 60) : ∃ (ns : List Int) (p' : D), fSome2 [p, .int lo, .int k] = .ok (.tup (ns.map D.int)) [p'] ∧ (∀ x ∈ ns, lo ≤ x ∧ x ≤ k) ∧ PenOk (n + 12) p' := by
  unfold fSome2 bSome2
  have hb : inR (k + 1) = true := inR_of (by omega)
  have hb2 : inR lo = true := inR_of (by omega)
  obtain ⟨w, p1, e1, a1, b1, h1⟩ := draw2_ex h (by omega) (m := 4) (by decide) (by decide)
  obtain ⟨o, p2, e2, a2, b2, h2⟩ := draw2_ex h1 (by omega) (m := k - lo + 1) (by omega) (by omega)
  obtain ⟨z, p3, e3, a3, b3, h3⟩ := draw2_ex h2 (by omega) (m := 2) (by decide) (by decide)
  have hz : (rangeD lo (k + 1 - lo).toNat).length ≤ sizeLine := by rw [rangeD_len]; exact szn (by omega)
  by_cases w0 : w = 0
  · subst w0
    obtain ⟨acc, ρ', run, as, rfl, rfl, hq⟩ := lcRun_inv (g := gSet 6) (tt := (xTest (xOp2 dEq (xOp2 dEq (xVar 6) (xVar 4)) (xVar 5)))) (te := (xVar 6)) (vs := [6]) (fun i acc ρ => ∃ (as : List Int), ρ = [.own p3, .val (.int lo), .val (.int k), .val (.int 0), .val (.int (lo + o)), .val (.bl (decide (z = 0))), .emp] ∧ acc = as.map D.int ∧ (∀ x ∈ as, lo ≤ x ∧ x ≤ k))
      (rangeD lo (k + 1 - lo).toNat) 0 [] [.own p3, .val (.int lo), .val (.int k), .val (.int 0), .val (.int (lo + o)), .val (.bl (decide (z = 0))), .emp] ⟨[], rfl, rfl, by simp⟩ (fun i d acc ρ hd hρ => by
        obtain ⟨hi, rfl⟩ := rangeD_get hd
        obtain ⟨as, rfl, rfl, hq⟩ := hρ
        by_cases hx : (decide (lo + (i : Int) = lo + o) == decide (z = 0)) = true
        · refine .inl ⟨.int (lo + (i : Int)), _, ?_, as ++ [lo + (i : Int)], rfl, by rw [List.map_append]; rfl, fun y hy => ?_⟩
          · simp! [hx]
          · rcases List.mem_append.mp hy with hy | hy
            · exact hq y hy
            · rw [List.mem_singleton.mp hy]; omega
        · have hx' : (decide (lo + (i : Int) = lo + o) == decide (z = 0)) = false := by simpa using hx
          refine .inr ⟨_, ?_, as, rfl, rfl, hq⟩
          simp! [hx'])
    refine ⟨as, p3, ?_, hq, h3.mono (by omega)⟩
    simp! [e1, e2, e3, hb, hb2, hz, run]
  · obtain ⟨acc, ρ', run, q, as, rfl, rfl, has, hq⟩ := lcRun_inv (g := gSet 6) (tt := (xTest (xOp2 dEq (xCallB fDraw2 0 (xCons (xC (.int 2)) xNil)) (xC (.int 0))))) (te := (xVar 6)) (vs := [6]) (fun i acc ρ => ∃ (q : D) (as : List Int), ρ = [.own q, .val (.int lo), .val (.int k), .val (.int w), .val (.int (lo + o)), .val (.bl (decide (z = 0))), .emp] ∧ acc = as.map D.int ∧ (∀ x ∈ as, lo ≤ x ∧ x ≤ k) ∧ PenOk (n + 3 + i) q)
      (rangeD lo (k + 1 - lo).toNat) 0 [] [.own p3, .val (.int lo), .val (.int k), .val (.int w), .val (.int (lo + o)), .val (.bl (decide (z = 0))), .emp] ⟨p3, [], rfl, rfl, by simp, h3⟩ (fun i d acc ρ hd hρ => by
        obtain ⟨hi, rfl⟩ := rangeD_get hd
        obtain ⟨q, as, rfl, rfl, has, hq⟩ := hρ
        obtain ⟨x, q', e, x1, x2, hq'⟩ := draw2_ex hq (by omega) (m := 2) (by decide) (by decide)
        by_cases hx : x = 0
        · refine .inl ⟨.int (lo + (i : Int)), [.own q', .val (.int lo), .val (.int k), .val (.int w), .val (.int (lo + o)), .val (.bl (decide (z = 0))), .emp], ?_, q', as ++ [lo + (i : Int)], rfl, by rw [List.map_append]; rfl, fun y hy => ?_, hq'⟩
          · simp! [e, hx]
          · rcases List.mem_append.mp hy with hy | hy
            · exact has y hy
            · rw [List.mem_singleton.mp hy]; omega
        · refine .inr ⟨[.own q', .val (.int lo), .val (.int k), .val (.int w), .val (.int (lo + o)), .val (.bl (decide (z = 0))), .emp], ?_, q', as, rfl, rfl, has, hq'⟩
          simp! [e, hx])
    rw [rangeD_len] at hq
    refine ⟨as, q, ?_, has, hq.mono (by omega)⟩
    simp! [e1, e2, e3, w0, hb, hb2, hz, run]
theorem rule2_ex {n : Nat} {p : D} (h : PenOk n p) (hn : n + 60 < 2 ^ 60) : ∃ (k : Int) (bs ss : List Int) (p' : D), fRule2 [p] = .ok (ruleD k bs ss) [p'] ∧ Kind k ∧ PenOk (n + 30) p' := by
  unfold fRule2 bRule2
  obtain ⟨m, p1, e1, a1, b1, h1⟩ := draw2_ex h (by omega) (m := 3) (by decide) (by decide)
  obtain ⟨k, ek, hk⟩ : ∃ k : Int, atI [D.int 4, .int 6, .int 8] m = some (.int k) ∧ Kind k := by
    rcases (show m = 0 ∨ m = 1 ∨ m = 2 by omega) with rfl | rfl | rfl
    · exact ⟨4, atI_0 _ _, by decide⟩
    · exact ⟨6, atI_1 _ _ _, by decide⟩
    · exact ⟨8, atI_2 _ _ _ _, by decide⟩
  obtain ⟨z, p2, e2, a2, b2, h2⟩ := draw2_ex h1 (by omega) (m := 3) (by decide) (by decide)
  by_cases hz : z = 0
  · subst hz
    have dix : ∀ (es : List (Key × D)) (j : Int), dIxD (.dicK false es) (.int j) = lk es (.inl j) := fun _ _ => rfl
    rcases hk with rfl | rfl | rfl
    · refine ⟨4, [2], [0, 1, 2], p2, ?_, by decide, h2.mono (by omega)⟩
      simp! [e1, ek, e2, zhd, zhc, zhe, zhf, zhg, zhb, zhh, zgs, zgu, zgv, dix, zhi, zhj, zhk]
      rfl
    · refine ⟨6, [2], [3, 4], p2, ?_, by decide, h2.mono (by omega)⟩
      simp! [e1, ek, e2, zhd, zhc, zhe, zhf, zhg, zhb, zhh, zgs, zgu, zgv, dix, zhi, zhj, zhk]
      rfl
    · refine ⟨8, [3], [2, 3], p2, ?_, by decide, h2.mono (by omega)⟩
      simp! [e1, ek, e2, zhd, zhc, zhe, zhf, zhg, zhb, zhh, zgs, zgu, zgv, dix, zhi, zhj, zhk]
      rfl
  · obtain ⟨bs, p3, e3, _, h3⟩ := some2_ex (lo := 0) (k := k) (by rcases hk with rfl | rfl | rfl <;> omega) h2 (by omega)
    obtain ⟨ss, p4, e4, _, h4⟩ := some2_ex (lo := 0) (k := k) (by rcases hk with rfl | rfl | rfl <;> omega) h3 (by omega)
    refine ⟨k, bs, ss, p4, ?_, hk, h4.mono (by omega)⟩
    simp! [e1, ek, e2, hz, e3, e4, ruleD]

/-! ### the ring's defs -/
noncomputable def pb_is_whole : XS := (xRet (xAndV (xOpL dIsi (xCons (xVar 0) (xCons (xC (.ty "int")) xNil))) (xNotV (xOpL dIsi (xCons (xVar 0) (xCons (xC (.ty "bool")) xNil))))))
noncomputable def p_is_whole : DF := runP [false] 1 false pb_is_whole
noncomputable def pb_comes : XS := (xSeq (xIfS (xTest (xVar 1))
    (xRet (xOp2 dInX (xVar 2) (xOp2 dIx (xVar 0) (xC (.int 2)))))
    xNext)
    (xRet (xOp2 dInX (xVar 2) (xOp2 dIx (xVar 0) (xC (.int 1))))))
noncomputable def p_comes : DF := runP [false, false, false] 3 false pb_comes
noncomputable def pb_ask_ring_1 : XS := (xIfS (xOr (xNot (xTest (xCall p_is_whole (xCons (xVar 1) xNil)))) (xOr (xTest (xOp2 dLt (xVar 1) (xC (.int 3)))) (xTest (xOp2 (dCmp fun i j => decide (j < i)) (xVar 1) (xC (.int 40))))))
    (xRaise "NoSize")
    xNext)
noncomputable def pb_ask_ring : XS := (xSeq (xIfS (xOr (xNot (xTest (xOpL dIsi (xCons (xVar 0) (xCons (xC (.ty "tuple")) xNil))))) (xTest (xOp2 dNe (xOpL dLen (xCons (xVar 0) xNil)) (xC (.int 2)))))
    (xRaise "NoSize")
    xNext)
    (xFor (xIt (xVar 0)) (gSet 1) pb_ask_ring_1))
noncomputable def p_ask_ring : DF := runP [false] 2 false pb_ask_ring
noncomputable def pb_on_ring : XS := (xRet (xOpL dTup (xCons (xOp2 dMod (xVar 1) (xOp2 dIx (xVar 0) (xC (.int 0)))) (xCons (xOp2 dMod (xVar 2) (xOp2 dIx (xVar 0) (xC (.int 1)))) xNil))))
noncomputable def p_on_ring : DF := runP [false, false, false] 3 false pb_on_ring
noncomputable def pb_ring_counts_1 : XS := (xSeq (xSet 9 (xCall p_on_ring (xCons (xVar 1) (xCons (xOp2 dAdd (xVar 5) (xVar 7)) (xCons (xOp2 dAdd (xVar 6) (xVar 8)) xNil)))))
    (xDPut 4 (xVar 9) (xOp2 dAdd (xDGet2 4 (xVar 9) (xC (.int 0))) (xC (.int 1)))))
noncomputable def pb_ring_counts_2 : XS := (xFor (xIt (xVar 3)) (gsTup 2 (gsCons (gSet 7) (gsCons (gSet 8) gsNil))) pb_ring_counts_1)
noncomputable def pb_ring_counts : XS := (xSeq (xSet 3 (xCall p_offsets (xCons (xVar 0) xNil)))
    (xSeq (xSetO 4 (xC (.dicT false [])))
    (xSeq (xFor (xItO 2) (gsTup 2 (gsCons (gSet 5) (gsCons (gSet 6) gsNil))) pb_ring_counts_2)
    (xRet (xTake 4)))))
noncomputable def p_ring_counts : DF := runP [false, false, true] 10 true pb_ring_counts
noncomputable def pb_ring_cells_1 : XS := (xExtend 1 (xLC (xItR1 (xOp2 dIx (xVar 0) (xC (.int 1)))) (gSet 3) xYes (xOpL dTup (xCons (xVar 2) (xCons (xVar 3) xNil))) [3]))
noncomputable def pb_ring_cells : XS := (xSeq (xSetO 1 (xOpL dLst xNil))
    (xSeq (xFor (xItR1 (xOp2 dIx (xVar 0) (xC (.int 0)))) (gSet 2) pb_ring_cells_1)
    (xRet (xTake 1))))
noncomputable def p_ring_cells : DF := runP [false] 4 true pb_ring_cells
noncomputable def pb_ring_next_1 : XS := (xDPut 4 (xVar 5) (xC (.bl true)))
noncomputable def pb_ring_next : XS := (xSeq (xDrop (xCall p_ask_ring (xCons (xVar 1) xNil)))
    (xSeq (xSet 3 (xCall p_ring_counts (xCons (xOp2 dIx (xVar 0) (xC (.int 0))) (xCons (xVar 1) (xConsO 2 xNil)))))
    (xSeq (xSetO 4 (xC (.dicT false [])))
    (xSeq (xFor (xItO 2) (gSet 5) pb_ring_next_1)
    (xRet (xLC (xIt (xCall p_ring_cells (xCons (xVar 1) xNil))) (gSet 5) (xTest (xCall p_comes (xCons (xVar 0) (xCons (xCmpO dInX (xVar 5) 4) (xCons (xDGetV (xVar 3) (xVar 5) (xC (.int 0))) xNil))))) (xVar 5) [5]))))))
noncomputable def p_ring_next : DF := runP [false, false, true] 6 true pb_ring_next
noncomputable def pb_ring_after_1 : XS := (xSetO 4 (xCall p_ring_next (xCons (xVar 0) (xCons (xVar 1) (xConsO 4 xNil)))))
noncomputable def pb_ring_after : XS := (xSeq (xDrop (xCall p_ask_ring (xCons (xVar 1) xNil)))
    (xSeq (xSetO 4 (xOpL dList (xCons (xVar 2) xNil)))
    (xSeq (xFor (xItR1 (xVar 3)) (gSet 5) pb_ring_after_1)
    (xRet (xTake 4)))))
noncomputable def p_ring_after : DF := runP [false, false, false, false] 6 true pb_ring_after
noncomputable def pb_ring_moved : XS := (xSeq (xDrop (xCall p_ask_ring (xCons (xVar 0) xNil)))
    (xRet (xOpL dSorted (xCons (xLC (xItO 1) (gsTup 2 (gsCons (gSet 3) (gsCons (gSet 4) gsNil))) xYes (xCall p_on_ring (xCons (xVar 0) (xCons (xOp2 dAdd (xVar 3) (xOp2 dIx (xVar 2) (xC (.int 0)))) (xCons (xOp2 dAdd (xVar 4) (xOp2 dIx (xVar 2) (xC (.int 1)))) xNil)))) [3, 4]) xNil))))
noncomputable def p_ring_moved : DF := runP [false, true, false] 5 true pb_ring_moved

end G

set_option maxHeartbeats 4000000
namespace G
open PySem PySem.Spec PyProof.Rows L2
local macro_rules | `(tactic| simp! [$ls,*] $[$loc:location]?) => `(tactic| simp only [zaa, zab, zac, zad, zae, zaf, zag, zah, zai, zaj, zak, zal, zam, zan, zao, zap, zaq, zar, zas, zat, zau, zav, zaw, zax, zay, zaz, zaA, zaB, zaC, zaD, zaE, zaF, zaG, zaH, zaI, zaJ, zaK, zaL, zaM, zaN, zaO, zaP, zaQ, zaR, zaS, zaT, zaU, zaV, zaW, zaX, zaY, zaZ, zba, zbb, zbc, zbd, zbe, zbf, zbg, zbh, zbi, zbj, zbk, zbl, zbm, zbn, zbo, zbp, zbq, zbr, zbs, zbt, zbu, zbv, zbw, zbx, zby, zbz, zbA, zbB, zbC, zbD, zbE, zbF, zbG, zbH, zbI, zbJ, zbK, zbL, zbM, zbN, zbO, zbP, zbQ, zbR, zbS, zbT, zbU, zbV, zbW, zbX, zbY, zbZ, zca, zcb, zcc, zcd, zce, zcf, zcg, zch, zci, zcj, zck, zcl, zcm, zcn, zco, zcp, zcq, zcr, zcs, zct, zcu, zcv, zcw, zcx, zcy, zcz, zcA, zcB, zcC, zcD, zcE, zcF, zcG, zcH, zcI, zcJ, zcK, zcL, zcM, zcN, zcO, zcP, zcQ, zcR, zcS, zcT, zcU, zcV, zcW, zcX, zcY, zcZ, zda, zdb, zdc, zdd, zde, zdf, zdg, zdh, zdi, zdj, zdk, zdl, zdm, zdn, zdo, zdp, zdq, zdr, zds, zdt, zdu, zdv, zdw, zdx, zdy, zdz, zdA, zdB, zdC, zdD, zdE, zdF, zdG, zdH, zdI, zdJ, zdK, zdL, zdM, zdN, zdO, zdP, zdQ, zdR, zdS, zdT, zdU, zdV, G.of_f, G.of_t, zdW, zdX, zdY, zdZ, zea, zeb, zec, zed, zee, zef, zeg, zeh, zei, zej, zek, zel, zem, zen, zeo, zep, zeq, zer, zes, zet, zeu, zev, zew, zex, zey, zez, zeA, zeB, zeC, zeD, zeE, zeF, zeG, zeH, zeI, zeJ, zeK, zeL, zeM, zeN, zeO, zeP, zeQ, zeR, zeS, zeT, zeU, zeV, zeW, zeX, zeY, zeZ, zfa, zfb, zfc, G.sz_1, G.sz_2, G.sz_3, G.sz_4, G.sz_0, zfd, zfe, zff, zfg, zfh, zfi, zfj, zfk, zfl, zfm, zfn, zfo, zfp, zfq, zfr, zfs, zft, zfu, zfv, zfw, G.nc_0, G.nc_1, G.nc_2, G.nc_3, G.nc_4, G.nc_5, G.nc_6, G.nc_7, G.nc_8, G.nc_9, zfx, zfy, zfz, zfA, zfB, zfC, zfD, zfE, zfF, zfG, zfH, zfI, zfJ, zfK, zfL, zfM, zfN, zfO, zfP, zfQ, zfR, zfS, zfT, zfU, zfV, zfW, zfX, zfY, zfZ, zga, zgb, zgc, zgd, zge, zgf, zgg, zgh, zgi, zgj, zgk, zgl, zgm, zgn, zgo, zgp, zgq, zgr, zgs, zgt, zgu, zgv, zgw, zgx, zgy, zgz, zgA, zgB, zgC, zgD, zgE, zgF, zgG, zgH, zgI, zgJ, zgK, zgL, zgM, zgN, zgO, zgP, zgQ, zgR, zgS, zgT, zgU, zgV, zgW, zgX, zgY, zgZ, zha, zhb, zhc, zhd, zhe, zhf, zhg, zhh, zhi, zhj, zhk, zhl, zhm, zhn, zho, List.getElem?_cons_zero, List.getElem?_cons_succ, List.set_cons_zero, List.set_cons_succ, G.atI_0, G.atI_1, G.atI_2, G.atI_3, Option.map_some, Option.bind_some, G.eqD_int, G.eqD_cell, G.eqD_bl, List.length_cons, List.length_nil, List.getD_cons_zero, List.getD_cons_succ, Bool.and_true, Bool.and_self, decide_true, decide_false, Bool.not_true, Bool.not_false, List.append_nil, List.nil_append, List.cons_append, if_true, if_false, Bool.false_eq_true, reduceIte, Int.reduceLT, Int.reduceLE, Int.reduceToNat, Int.reducePow, Int.reduceNeg, Int.reduceAdd, Int.reduceSub, Int.reduceMul, Nat.reduceAdd, Int.reduceEq, List.replicate, Nat.reduceSub, and_self, and_true, true_and, $ls,*] $[$loc]?)

/-! ### rings: the plain law -/
theorem take_snoc {α : Type} {l : List α} {i : Nat} {a : α} (h : l[i]? = some a) : l.take (i + 1) = l.take i ++ [a] := by
  rw [List.take_add_one, h]
  rfl
theorem szB {n : Nat} (h : n ≤ 20000) : n ≤ sizeLine := Nat.le_trans h (by rw [sizeLine_eq]; decide)
theorem szBl {n : Nat} (h : n ≤ 20000) : n < sizeLine := Nat.lt_of_le_of_lt h (by rw [sizeLine_eq]; decide)
def rowL (h : Nat) (x : Int) : List (Int × Int) := (upN h).map fun y => (x, y)
def ringL (w h : Nat) : List (Int × Int) := (upN w).flatMap (rowL h)
theorem rowL_len (h : Nat) (x : Int) : (rowL h x).length = h := by unfold rowL; rw [List.length_map, upN_len]
theorem flat_len {α β : Type} (f : α → List β) (n : Nat) (l : List α) (hf : ∀ a, (f a).length = n) : (l.flatMap f).length = l.length * n := by
  induction l with
  | nil => simp
  | cons a l ih => rw [List.flatMap_cons, List.length_append, ih, hf, List.length_cons, Nat.succ_mul]; omega
theorem flat_le {α β : Type} (f : α → List β) (n : Nat) (l : List α) (hf : ∀ a, (f a).length ≤ n) : (l.flatMap f).length ≤ l.length * n := by
  induction l with
  | nil => simp
  | cons a l ih =>
    have := hf a
    rw [List.flatMap_cons, List.length_append, List.length_cons, Nat.succ_mul]; omega
theorem ringL_len (w h : Nat) : (ringL w h).length = w * h := by unfold ringL; rw [flat_len _ h _ (rowL_len h), upN_len]
theorem mem_ringL {w h : Nat} {p : Int × Int} : p ∈ ringL w h ↔ (0 ≤ p.1 ∧ p.1 < w) ∧ 0 ≤ p.2 ∧ p.2 < h := by
  unfold ringL rowL
  rw [List.mem_flatMap]
  constructor
  · rintro ⟨x, hx, hp⟩
    obtain ⟨y, hy, rfl⟩ := List.mem_map.mp hp
    exact ⟨mem_upN.mp hx, mem_upN.mp hy⟩
  · rintro ⟨hx, hy⟩
    exact ⟨p.1, mem_upN.mpr hx, List.mem_map.mpr ⟨p.2, mem_upN.mpr hy, rfl⟩⟩
theorem ringL_lt (w h : Nat) : (ringL w h).Pairwise fun p q => p.1 < q.1 ∨ p.1 = q.1 ∧ p.2 < q.2 := by
  unfold ringL rowL
  rw [List.pairwise_flatMap]
  refine ⟨fun x _ => List.pairwise_map.mpr ((upN_lt h).imp fun z => .inr ⟨rfl, z⟩), (upN_lt w).imp fun {a b} z p hp q hq => ?_⟩
  obtain ⟨_, _, rfl⟩ := List.mem_map.mp hp
  obtain ⟨_, _, rfl⟩ := List.mem_map.mp hq
  exact .inl z
theorem ringL_nodup (w h : Nat) : (ringL w h).Nodup := (ringL_lt w h).imp fun {p q} z e => by subst e; omega
theorem sort_lt {l : List (Int × Int)} (h : l.Pairwise fun p q => p.1 < q.1 ∨ p.1 = q.1 ∧ p.2 < q.2) : sortE l = l :=
  sortE_of_pw (h.imp fun {p q} z => by rw [leE_pair, decide_eq_true_eq]; omega)
theorem ringL_sort (w h : Nat) (f : Int × Int → Bool) : sortE ((ringL w h).filter f) = (ringL w h).filter f := sort_lt ((ringL_lt w h).sublist List.filter_sublist)
/-- where a step leads on the ring -/
def onR (w h : Nat) (p : Int × Int) : Int × Int := (p.1 % w, p.2 % h)
theorem onR_mem {w h : Nat} (hw : 0 < w) (hh : 0 < h) (p : Int × Int) : onR w h p ∈ ringL w h :=
  mem_ringL.mpr ⟨⟨Int.emod_nonneg _ (by omega), Int.emod_lt_of_pos _ (by omega)⟩, Int.emod_nonneg _ (by omega), Int.emod_lt_of_pos _ (by omega)⟩
theorem onR_id {w h : Nat} {p : Int × Int} (hp : p ∈ ringL w h) : onR w h p = p := by
  obtain ⟨⟨h1, h2⟩, h3, h4⟩ := mem_ringL.mp hp
  unfold onR
  rw [Int.emod_eq_of_lt h1 h2, Int.emod_eq_of_lt h3 h4]
theorem onR_sh (w h : Nat) (d p : Int × Int) : onR w h (sh d (onR w h p)) = onR w h (sh d p) := by
  unfold onR sh
  simp only [Int.emod_add_emod]
def neg2 (d : Int × Int) : Int × Int := (-d.1, -d.2)
theorem sh_neg (d p : Int × Int) : sh (neg2 d) (sh d p) = p := by
  unfold sh neg2
  apply Prod.ext <;> simp only <;> omega
theorem sh_neg' (d p : Int × Int) : sh d (sh (neg2 d) p) = p := by
  unfold sh neg2
  apply Prod.ext <;> simp only <;> omega
theorem onR_swap {w h : Nat} {p c : Int × Int} (hp : p ∈ ringL w h) (hc : c ∈ ringL w h) (d : Int × Int) : onR w h (sh d p) = c ↔ p = onR w h (sh (neg2 d) c) := by
  constructor
  · rintro rfl
    rw [onR_sh, sh_neg, onR_id hp]
  · rintro rfl
    rw [onR_sh, sh_neg', onR_id hc]
/-- the steps of a kind, as the laws tell them -/
def S4 : List (Int × Int) := [(0, -1), (0, 1), (-1, 0), (1, 0)]
def S6 : List (Int × Int) := S4 ++ [(-1, -1), (1, 1)]
def S8 : List (Int × Int) := S6 ++ [(-1, 1), (1, -1)]
def stepsL : Int → List (Int × Int)
  | 4 => S4
  | 6 => S6
  | _ => S8
theorem steps_perm {k : Int} (hk : Kind k) : ((near k).map neg2).Perm (stepsL k) := by
  rcases hk with rfl | rfl | rfl
  · show (N4.map neg2).Perm S4
    decide
  · show (N6.map neg2).Perm S6
    decide
  · show (N8.map neg2).Perm S8
    decide
theorem count_flat {α β : Type} (F : α → β → Int × Int) (c : Int × Int) (m : List β) (l : List α) : (l.flatMap fun p => m.map (F p)).count c = (m.map fun d => l.countP fun p => decide (F p d = c)).sum := by
  induction l with
  | nil =>
    show 0 = _
    induction m with
    | nil => rfl
    | cons d m ih =>
      rw [List.map_cons, List.sum_cons, ← ih]
      rfl
  | cons p l ih =>
    rw [List.flatMap_cons, List.count_append, ih]
    clear ih
    induction m with
    | nil => simp
    | cons d m ih2 =>
      simp only [List.map_cons, List.count_cons, List.sum_cons, List.countP_cons, beq_iff_eq, decide_eq_true_eq] at ih2 ⊢
      omega
theorem sum_ite {β : Type} (f : β → Nat) (q : β → Bool) (m : List β) (h : ∀ d ∈ m, f d = if q d = true then 1 else 0) : (m.map f).sum = m.countP q := by
  induction m with
  | nil => rfl
  | cons d m ih =>
    rw [List.map_cons, List.sum_cons, List.countP_cons, h d (by simp), ih fun x hx => h x (by simp [hx])]
    omega
/-- how many live cells lie at a cell -/
def lives (w h : Nat) (k : Int) (live : List (Int × Int)) (c : Int × Int) : Nat := (stepsL k).countP fun d => decide (onR w h (sh d c) ∈ live)
def imgs (w h : Nat) (k : Int) (live : List (Int × Int)) : List (Int × Int) := live.flatMap fun p => (near k).map fun d => onR w h (sh d p)
theorem imgs_count {w h : Nat} {k : Int} (hk : Kind k) {live : List (Int × Int)} (hn : live.Nodup) (hr : ∀ p ∈ live, p ∈ ringL w h) {c : Int × Int} (hc : c ∈ ringL w h) : (imgs w h k live).count c = lives w h k live c := by
  unfold imgs lives
  rw [count_flat (fun p d => onR w h (sh d p)), ← (steps_perm hk).countP_eq, List.countP_map]
  refine sum_ite _ _ _ fun d _ => ?_
  have e : (live.countP fun p => decide (onR w h (sh d p) = c)) = live.count (onR w h (sh (neg2 d) c)) := by
    rw [List.count_eq_countP]
    refine List.countP_congr fun p hp => ?_
    rw [decide_eq_true_eq, beq_iff_eq]
    exact onR_swap (hr p hp) hc d
  rw [e]
  show _ = if decide (onR w h (sh (neg2 d) c) ∈ live) = true then 1 else 0
  by_cases hm : onR w h (sh (neg2 d) c) ∈ live
  · rw [if_pos (decide_eq_true hm)]
    have h1 := List.nodup_iff_count.mp hn (onR w h (sh (neg2 d) c))
    have h2 := List.count_pos_iff.mpr hm
    omega
  · rw [if_neg (by simpa using hm)]
    exact List.count_eq_zero.mpr hm
/-- the next turn on a ring -/
def nextR (w h : Nat) (k : Int) (bs ss : List Int) (live : List (Int × Int)) : List (Int × Int) :=
  (ringL w h).filter fun c => decide (((lives w h k live c : Nat) : Int) ∈ if c ∈ live then ss else bs)
/-! tables -/
def cntT (l : List (Int × Int)) : List ((Int × Int) × Int) := l.foldl (fun T c => ptA T c ((lkA T c).getD 0 + 1)) []
theorem cntT_snoc (l : List (Int × Int)) (c : Int × Int) : cntT (l ++ [c]) = ptA (cntT l) c ((lkA (cntT l) c).getD 0 + 1) := by
  unfold cntT
  rw [List.foldl_append]
  rfl
theorem cntT_lk (l : List (Int × Int)) (c : Int × Int) : (lkA (cntT l) c).getD 0 = ((l.count c : Nat) : Int) := by
  unfold cntT
  suffices ∀ (l : List (Int × Int)) (T : List ((Int × Int) × Int)), (lkA (l.foldl (fun T c => ptA T c ((lkA T c).getD 0 + 1)) T) c).getD 0 = (lkA T c).getD 0 + ((l.count c : Nat) : Int) by
    rw [this, lkA_nil]
    simp
  intro l
  induction l with
  | nil => intro T; simp
  | cons a l ih =>
    intro T
    rw [List.foldl_cons, ih, lkA_pt, List.count_cons]
    by_cases e : c = a
    · subst e
      rw [if_pos rfl, if_pos (by simp)]
      show (lkA T c).getD 0 + 1 + _ = _
      omega
    · rw [if_neg e, if_neg (by simpa using fun z => e z.symm)]
      omega
theorem cntT_len (l : List (Int × Int)) : (cntT l).length ≤ l.length := by
  unfold cntT
  suffices ∀ (l : List (Int × Int)) (T : List ((Int × Int) × Int)), (l.foldl (fun T c => ptA T c ((lkA T c).getD 0 + 1)) T).length ≤ T.length + l.length by
    have := this l []
    simpa using this
  intro l
  induction l with
  | nil => intro T; exact Nat.le_refl _
  | cons a l ih =>
    intro T
    have h1 := ih (ptA T a ((lkA T a).getD 0 + 1))
    have h2 := ptA_len T a ((lkA T a).getD 0 + 1)
    rw [List.foldl_cons, List.length_cons]
    omega
def allT (l : List (Int × Int)) : List ((Int × Int) × Bool) := l.foldl (fun T c => ptA T c true) []
theorem allT_snoc (l : List (Int × Int)) (c : Int × Int) : allT (l ++ [c]) = ptA (allT l) c true := by
  unfold allT
  rw [List.foldl_append]
  rfl
theorem allT_lk (l : List (Int × Int)) (c : Int × Int) : (lkA (allT l) c).isSome = decide (c ∈ l) := by
  unfold allT
  suffices ∀ (l : List (Int × Int)) (T : List ((Int × Int) × Bool)), (lkA (l.foldl (fun T c => ptA T c true) T) c).isSome = ((lkA T c).isSome || decide (c ∈ l)) by
    rw [this, lkA_nil]
    simp
  intro l
  induction l with
  | nil => intro T; simp
  | cons a l ih =>
    intro T
    rw [List.foldl_cons, ih, lkA_pt]
    by_cases e : c = a
    · subst e
      simp
    · rw [if_neg e]
      simp [e]
theorem allT_len (l : List (Int × Int)) : (allT l).length ≤ l.length := by
  unfold allT
  suffices ∀ (l : List (Int × Int)) (T : List ((Int × Int) × Bool)), (l.foldl (fun T c => ptA T c true) T).length ≤ T.length + l.length by
    have := this l []
    simpa using this
  intro l
  induction l with
  | nil => intro T; exact Nat.le_refl _
  | cons a l ih =>
    intro T
    have h1 := ih (ptA T a true)
    have h2 := ptA_len T a true
    rw [List.foldl_cons, List.length_cons]
    omega
/-! ### rings: the walk's terms -/
theorem lk_int (T : List ((Int × Int) × Int)) (k : Int × Int) : (lk (encE D.int T) (ck k)).getD (.int 0) = .int ((lkA T k).getD 0) := by
  rw [lk_enc]
  cases lkA T k <;> rfl
theorem pt_int (T : List ((Int × Int) × Int)) (k : Int × Int) (v : Int) : pt (encE D.int T) (ck k) (.int v) = encE D.int (ptA T k v) := pt_enc D.int T k v
theorem pt_bl (T : List ((Int × Int) × Bool)) (k : Int × Int) (v : Bool) : pt (encE D.bl T) (ck k) (.bl v) = encE D.bl (ptA T k v) := pt_enc D.bl T k v
theorem lk_some {α : Type} (f : α → D) (T : List ((Int × Int) × α)) (k : Int × Int) : (lk (encE f T) (ck k)).isSome = (lkA T k).isSome := by
  rw [lk_enc]
  cases lkA T k <;> rfl
theorem whole_is (n : Int) : p_is_whole [.int n] = .ok (.bl true) [] := by
  unfold p_is_whole pb_is_whole
  simp! [zaa]
abbrev sizeD (w h : Nat) : D := .tup [.int (w : Int), .int (h : Int)]
theorem ask_ring_is {w h : Nat} (hw : 3 ≤ w ∧ w ≤ 40) (hh : 3 ≤ h ∧ h ≤ 40) : p_ask_ring [sizeD w h] = .ok .non [] := by
  unfold p_ask_ring pb_ask_ring
  have a1 : ¬ (w : Int) < 3 := by omega
  have a2 : ¬ (40 : Int) < w := by omega
  have a3 : ¬ (h : Int) < 3 := by omega
  have a4 : ¬ (40 : Int) < h := by omega
  simp! [sizeD, zfg, nc_2, forRun_nil]
  unfold pb_ask_ring_1
  simp! [whole_is, a1, a2, a3, a4, forRun_nil]
theorem on_ring_is {w h : Nat} (hw : 0 < w) (hh : 0 < h) (x y : Int) : p_on_ring [sizeD w h, .int x, .int y] = .ok (cellP (onR w h (x, y))) [] := by
  have a1 : (0 : Int) < w := by omega
  have a2 : (0 : Int) < h := by omega
  unfold p_on_ring pb_on_ring
  simp! [sizeD, a1, a2, onR, cellP]
theorem ring_cells_is {w h : Nat} (hw : 3 ≤ w ∧ w ≤ 40) (hh : 3 ≤ h ∧ h ≤ 40) : p_ring_cells [sizeD w h] = .ok (cells (ringL w h)) [] := by
  unfold p_ring_cells pb_ring_cells
  have b1 : inR (w : Int) = true := inR_of (by omega)
  have b2 : inR (h : Int) = true := inR_of (by omega)
  obtain ⟨ρ', e, s2, s3, hs, rfl⟩ := for_list (g := gSet 2) (body := pb_ring_cells_1) (e := D.int) (fun i ρ => ∃ s2 s3, notOwn (some s3) = true ∧ ρ = [.val (sizeD w h), .own (cells (((upN w).take i).flatMap (rowL h))), s2, s3]) (l := upN w) (ρ := [.val (sizeD w h), .own (.lst []), .emp, .emp]) ⟨_, _, rfl, rfl⟩ (fun i x ρ hi hρ => by
    obtain ⟨s2, s3, hs, rfl⟩ := hρ
    refine ⟨_, rfl, ?_⟩
    have l1 : i < w := by
      have := (List.getElem?_eq_some_iff.mp hi).1
      rw [upN_len] at this
      exact this
    have hz : ((upN h).map D.int).length ≤ sizeLine := by rw [List.length_map, upN_len]; exact szn (by omega)
    have hz2 : ((((upN w).take i).flatMap (rowL h)).map cellP).length + ((rowL h x).map cellP).length ≤ sizeLine := by
      rw [List.length_map, List.length_map, rowL_len, flat_len _ h _ (rowL_len h), List.length_take, upN_len]
      refine szB ?_
      have : min i w * h ≤ 40 * 40 := Nat.mul_le_mul (by omega) hh.2
      omega
    unfold pb_ring_cells_1
    simp! [sizeD, b2, Int.toNat_natCast, rangeD_upN, hz, cells, hs]
    rw [lcMap cellP (fun y => (x, y))]
    · have q : (upN h).map (fun y => (x, y)) = rowL h x := rfl
      rw [q]
      simp! [hz2]
      refine ⟨_, .inl rfl, .val (.int x), s3, hs, ?_⟩
      rw [take_snoc hi, List.flatMap_append, List.map_append, List.flatMap_cons, List.flatMap_nil, List.append_nil]
    · intro y _
      simp! [cellP])
  rw [List.take_length] at *
  simp! [sizeD, b1, Int.toNat_natCast, rangeD_upN, e, cells]
  rfl
theorem comes_is (k n : Int) (bs ss : List Int) (b : Bool) : p_comes [ruleD k bs ss, .bl b, .int n] = .ok (.bl (decide (n ∈ if b = true then ss else bs))) [] := by
  unfold p_comes pb_comes
  cases b <;> simp! [ruleD, zhn]
theorem near_len8 (k : Int) (p : Int × Int) (w h : Nat) : ((near k).map fun d => onR w h (sh d p)).length ≤ 8 := by rw [List.length_map]; exact near_len k
theorem ring_counts_is {w h : Nat} (hw : 3 ≤ w ∧ w ≤ 40) (hh : 3 ≤ h ∧ h ≤ 40) {k : Int} (hk : Kind k) (live : List (Int × Int)) (hl : live.length ≤ 1600) : p_ring_counts [.int k, sizeD w h, cells live] = .ok (.dicT false (encE D.int (cntT (imgs w h k live)))) [] := by
  unfold p_ring_counts pb_ring_counts
  have ho := off_is k hk
  obtain ⟨ρ', e, s5, s6, s7, s8, s9, rfl⟩ := for_list (g := gsTup 2 (gsCons (gSet 5) (gsCons (gSet 6) gsNil))) (body := pb_ring_counts_2) (e := cellP) (fun i ρ => ∃ s5 s6 s7 s8 s9, ρ = [.val (.int k), .val (sizeD w h), .rd (cells live), .val (cells (near k)), .own (.dicT false (encE D.int (cntT (imgs w h k (live.take i))))), s5, s6, s7, s8, s9]) (l := live) (ρ := [.val (.int k), .val (sizeD w h), .rd (cells live), .val (cells (near k)), .own (.dicT false []), .emp, .emp, .emp, .emp, .emp]) ⟨_, _, _, _, _, rfl⟩ (fun i p ρ hi hρ => by
    obtain ⟨s5, s6, s7, s8, s9, rfl⟩ := hρ
    obtain ⟨x, y⟩ := p
    refine ⟨_, rfl, ?_⟩
    have l1 : i < live.length := (List.getElem?_eq_some_iff.mp hi).1
    have lb : (imgs w h k (live.take i)).length ≤ i * 8 := by
      have := flat_le (fun p => (near k).map fun d => onR w h (sh d p)) 8 (live.take i) (fun p => near_len8 k p w h)
      rw [List.length_take] at this
      exact Nat.le_trans this (Nat.mul_le_mul (by omega) (Nat.le_refl _))
    obtain ⟨ρ', e, s7, s8, s9, rfl⟩ := for_list (g := gsTup 2 (gsCons (gSet 7) (gsCons (gSet 8) gsNil))) (body := pb_ring_counts_1) (e := cellP) (fun j ρ => ∃ s7 s8 s9, ρ = [.val (.int k), .val (sizeD w h), .rd (cells live), .val (cells (near k)), .own (.dicT false (encE D.int (cntT (imgs w h k (live.take i) ++ ((near k).take j).map fun d => onR w h (sh d (x, y)))))), .val (.int x), .val (.int y), s7, s8, s9]) (l := near k) (ρ := [.val (.int k), .val (sizeD w h), .rd (cells live), .val (cells (near k)), .own (.dicT false (encE D.int (cntT (imgs w h k (live.take i))))), .val (.int x), .val (.int y), s7, s8, s9]) ⟨_, _, _, by rw [List.take_zero, List.map_nil, List.append_nil]⟩ (fun j d ρ hj hρ => by
      obtain ⟨s7, s8, s9, rfl⟩ := hρ
      obtain ⟨u, v⟩ := d
      refine ⟨_, rfl, ?_⟩
      have l2 : j < (near k).length := (List.getElem?_eq_some_iff.mp hj).1
      have l3 := near_len k
      generalize hL : imgs w h k (live.take i) ++ ((near k).take j).map (fun d => onR w h (sh d (x, y))) = L
      have lL : L.length ≤ 20000 := by
        rw [← hL, List.length_append, List.length_map, List.length_take]
        omega
      have hz : (encE D.int (cntT L)).length < sizeLine := by
        rw [encE_len]
        exact szBl (Nat.le_trans (cntT_len L) lL)
      have hc := on_ring_is (w := w) (h := h) (by omega) (by omega) (x + u) (y + v)
      have hs : sh (u, v) (x, y) = (x + u, y + v) := rfl
      have hx : imgs w h k (live.take i) ++ ((near k).take (j + 1)).map (fun d => onR w h (sh d (x, y))) = L ++ [onR w h (x + u, y + v)] := by
        rw [take_snoc hj, List.map_append, ← List.append_assoc, hL]
        rfl
      rw [hx, cntT_snoc]
      generalize onR w h (x + u, y + v) = c at hc ⊢
      obtain ⟨a, b⟩ := c
      unfold pb_ring_counts_1
      simp! [sizeD, cells, cellP] at hc ⊢
      simp! [hc, hz, lk_int, pt_int]
      exact ⟨_, .inl rfl, _, _, _, rfl⟩)
    have hx : imgs w h k (live.take (i + 1)) = imgs w h k (live.take i) ++ (near k).map fun d => onR w h (sh d (x, y)) := by
      rw [take_snoc hi]
      unfold imgs
      rw [List.flatMap_append]
      simp
    rw [List.take_length, ← hx] at e
    unfold pb_ring_counts_2
    simp! [cells, sizeD] at e ⊢
    simp! [e]
    exact ⟨_, .inl rfl, _, _, _, _, _, rfl⟩)
  rw [List.take_length] at e
  simp! [cells, sizeD] at e ho ⊢
  simp! [ho, e]
theorem ring_next_is {w h : Nat} (hw : 3 ≤ w ∧ w ≤ 40) (hh : 3 ≤ h ∧ h ≤ 40) {k : Int} (hk : Kind k) (bs ss : List Int) (live : List (Int × Int)) (hn : live.Nodup) (hr : ∀ p ∈ live, p ∈ ringL w h) (hl : live.length ≤ 1600) : p_ring_next [ruleD k bs ss, sizeD w h, cells live] = .ok (cells (nextR w h k bs ss live)) [] := by
  unfold p_ring_next pb_ring_next
  have e1 := ask_ring_is hw hh
  have e2 := ring_counts_is hw hh hk live hl
  have e3 := ring_cells_is hw hh
  obtain ⟨ρ', e, s5, hs, rfl⟩ := for_list (g := gSet 5) (body := pb_ring_next_1) (e := cellP) (fun i ρ => ∃ s5, notOwn (some s5) = true ∧ ρ = [.val (ruleD k bs ss), .val (sizeD w h), .rd (cells live), .val (.dicT false (encE D.int (cntT (imgs w h k live)))), .own (.dicT false (encE D.bl (allT (live.take i)))), s5]) (l := live) (ρ := [.val (ruleD k bs ss), .val (sizeD w h), .rd (cells live), .val (.dicT false (encE D.int (cntT (imgs w h k live)))), .own (.dicT false []), .emp]) ⟨_, rfl, rfl⟩ (fun i p ρ hi hρ => by
    obtain ⟨s5, _, rfl⟩ := hρ
    obtain ⟨x, y⟩ := p
    refine ⟨_, rfl, ?_⟩
    have l1 : i < live.length := (List.getElem?_eq_some_iff.mp hi).1
    have hz : (encE D.bl (allT (live.take i))).length < sizeLine := by
      have := allT_len (live.take i)
      rw [List.length_take] at this
      rw [encE_len]
      exact szBl (by omega)
    rw [take_snoc hi, allT_snoc]
    unfold pb_ring_next_1
    simp! [cellP, hz, pt_bl]
    exact ⟨_, .inl rfl, _, rfl, rfl⟩)
  rw [List.take_length] at e
  have hz : ((ringL w h).map cellP).length ≤ sizeLine := by
    rw [List.length_map, ringL_len]
    refine szB ?_
    have : w * h ≤ 40 * 40 := Nat.mul_le_mul hw.2 hh.2
    omega
  simp! [cells, sizeD, ruleD] at e1 e2 e3 e ⊢
  simp! [e1, e2, e3, e, hz, hs]
  rw [lcFilt cellP (fun c => decide (((lives w h k live c : Nat) : Int) ∈ if c ∈ live then ss else bs)) id]
  · rw [List.map_id]
    rfl
  · intro c hc
    have q := comes_is k ((lives w h k live c : Nat) : Int) bs ss (decide (c ∈ live))
    have q2 := cntT_lk (imgs w h k live) c
    rw [imgs_count hk hn hr hc] at q2
    obtain ⟨a, b⟩ := c
    simp! [ruleD, decide_eq_true_eq] at q
    simp! [cellP, lk_int, lk_some, allT_lk, q2, q]
    by_cases hm : ((lives w h k live (a, b) : Nat) : Int) ∈ if (a, b) ∈ live then ss else bs
    · simp! [hm, id]
    · simp! [hm, id]
end G

set_option maxHeartbeats 4000000
namespace G
open PySem PySem.Spec PyProof.Rows L2
local macro_rules | `(tactic| simp! [$ls,*] $[$loc:location]?) => `(tactic| simp only [zaa, zab, zac, zad, zae, zaf, zag, zah, zai, zaj, zak, zal, zam, zan, zao, zap, zaq, zar, zas, zat, zau, zav, zaw, zax, zay, zaz, zaA, zaB, zaC, zaD, zaE, zaF, zaG, zaH, zaI, zaJ, zaK, zaL, zaM, zaN, zaO, zaP, zaQ, zaR, zaS, zaT, zaU, zaV, zaW, zaX, zaY, zaZ, zba, zbb, zbc, zbd, zbe, zbf, zbg, zbh, zbi, zbj, zbk, zbl, zbm, zbn, zbo, zbp, zbq, zbr, zbs, zbt, zbu, zbv, zbw, zbx, zby, zbz, zbA, zbB, zbC, zbD, zbE, zbF, zbG, zbH, zbI, zbJ, zbK, zbL, zbM, zbN, zbO, zbP, zbQ, zbR, zbS, zbT, zbU, zbV, zbW, zbX, zbY, zbZ, zca, zcb, zcc, zcd, zce, zcf, zcg, zch, zci, zcj, zck, zcl, zcm, zcn, zco, zcp, zcq, zcr, zcs, zct, zcu, zcv, zcw, zcx, zcy, zcz, zcA, zcB, zcC, zcD, zcE, zcF, zcG, zcH, zcI, zcJ, zcK, zcL, zcM, zcN, zcO, zcP, zcQ, zcR, zcS, zcT, zcU, zcV, zcW, zcX, zcY, zcZ, zda, zdb, zdc, zdd, zde, zdf, zdg, zdh, zdi, zdj, zdk, zdl, zdm, zdn, zdo, zdp, zdq, zdr, zds, zdt, zdu, zdv, zdw, zdx, zdy, zdz, zdA, zdB, zdC, zdD, zdE, zdF, zdG, zdH, zdI, zdJ, zdK, zdL, zdM, zdN, zdO, zdP, zdQ, zdR, zdS, zdT, zdU, zdV, G.of_f, G.of_t, zdW, zdX, zdY, zdZ, zea, zeb, zec, zed, zee, zef, zeg, zeh, zei, zej, zek, zel, zem, zen, zeo, zep, zeq, zer, zes, zet, zeu, zev, zew, zex, zey, zez, zeA, zeB, zeC, zeD, zeE, zeF, zeG, zeH, zeI, zeJ, zeK, zeL, zeM, zeN, zeO, zeP, zeQ, zeR, zeS, zeT, zeU, zeV, zeW, zeX, zeY, zeZ, zfa, zfb, zfc, G.sz_1, G.sz_2, G.sz_3, G.sz_4, G.sz_0, zfd, zfe, zff, zfg, zfh, zfi, zfj, zfk, zfl, zfm, zfn, zfo, zfp, zfq, zfr, zfs, zft, zfu, zfv, zfw, G.nc_0, G.nc_1, G.nc_2, G.nc_3, G.nc_4, G.nc_5, G.nc_6, G.nc_7, G.nc_8, G.nc_9, zfx, zfy, zfz, zfA, zfB, zfC, zfD, zfE, zfF, zfG, zfH, zfI, zfJ, zfK, zfL, zfM, zfN, zfO, zfP, zfQ, zfR, zfS, zfT, zfU, zfV, zfW, zfX, zfY, zfZ, zga, zgb, zgc, zgd, zge, zgf, zgg, zgh, zgi, zgj, zgk, zgl, zgm, zgn, zgo, zgp, zgq, zgr, zgs, zgt, zgu, zgv, zgw, zgx, zgy, zgz, zgA, zgB, zgC, zgD, zgE, zgF, zgG, zgH, zgI, zgJ, zgK, zgL, zgM, zgN, zgO, zgP, zgQ, zgR, zgS, zgT, zgU, zgV, zgW, zgX, zgY, zgZ, zha, zhb, zhc, zhd, zhe, zhf, zhg, zhh, zhi, zhj, zhk, zhl, zhm, zhn, zho, List.getElem?_cons_zero, List.getElem?_cons_succ, List.set_cons_zero, List.set_cons_succ, G.atI_0, G.atI_1, G.atI_2, G.atI_3, Option.map_some, Option.bind_some, G.eqD_int, G.eqD_cell, G.eqD_bl, List.length_cons, List.length_nil, List.getD_cons_zero, List.getD_cons_succ, Bool.and_true, Bool.and_self, decide_true, decide_false, Bool.not_true, Bool.not_false, List.append_nil, List.nil_append, List.cons_append, if_true, if_false, Bool.false_eq_true, reduceIte, Int.reduceLT, Int.reduceLE, Int.reduceToNat, Int.reducePow, Int.reduceNeg, Int.reduceAdd, Int.reduceSub, Int.reduceMul, Nat.reduceAdd, Int.reduceEq, List.replicate, Nat.reduceSub, and_self, and_true, true_and, $ls,*] $[$loc]?)

/-! ### pictures drawn on a ring -/
noncomputable def bPic2 (m : Int) : XS := (xSeq (xSet 2 (xLC (xItR1 (xOp2 dMul (xOp2 dIx (xVar 1) (xC (.int 0))) (xOp2 dIx (xVar 1) (xC (.int 1))))) (gSet 3) xYes (xOpL dTup (xCons (xOp2 dDiv (xVar 3) (xOp2 dIx (xVar 1) (xC (.int 1)))) (xCons (xOp2 dMod (xVar 3) (xOp2 dIx (xVar 1) (xC (.int 1)))) xNil))) [3]))
    (xSeq (xSet 4 (xOp2 dIx (xOpL dLst (xCons (xC (.int 0)) (xCons (xC (.int 1)) (xCons (xC (.int 1)) (xCons (xC (.int 1)) (xCons (xC (.int 2)) (xCons (xC (.int 3)) xNil))))))) (xCallB fDraw2 0 (xCons (xC (.int 6)) xNil))))
    (xRet (xSl dSlL (xLC (xIt (xVar 2)) (gSet 5) (xTest (xOp2 dLt (xCallB fDraw2 0 (xCons (xC (.int 3)) xNil)) (xVar 4))) (xVar 5) [5]) xpNone (xpSome (xC (.int m)))))))
noncomputable def fPic2 (m : Int) : DF := runB [false] 6 false (bPic2 m)
def gridL (w h : Nat) : List (Int × Int) := (upN (w * h)).map fun i => (i / (h : Int), i % (h : Int))
theorem gridL_lt (w : Nat) {h : Nat} (hh : 0 < h) : (gridL w h).Pairwise fun p q => p.1 < q.1 ∨ p.1 = q.1 ∧ p.2 < q.2 := by
  unfold gridL
  refine List.pairwise_map.mpr ((upN_lt _).imp fun {a b} z => ?_)
  show a / (h : Int) < b / (h : Int) ∨ a / (h : Int) = b / (h : Int) ∧ a % (h : Int) < b % (h : Int)
  have h0 : (0 : Int) < h := by omega
  have h1 : a / (h : Int) ≤ b / (h : Int) := Int.ediv_le_ediv h0 (by omega)
  rcases Int.lt_or_eq_of_le h1 with h2 | h2
  · exact .inl h2
  · refine .inr ⟨h2, ?_⟩
    have ea := Int.mul_ediv_add_emod a h
    have eb := Int.mul_ediv_add_emod b h
    rw [h2] at ea
    omega
theorem gridL_mem {w h : Nat} (hh : 0 < h) {p : Int × Int} (hp : p ∈ gridL w h) : p ∈ ringL w h := by
  unfold gridL at hp
  obtain ⟨i, hi, rfl⟩ := List.mem_map.mp hp
  obtain ⟨h1, h2⟩ := mem_upN.mp hi
  have h0 : (0 : Int) < h := by omega
  rw [Int.natCast_mul] at h2
  exact mem_ringL.mpr ⟨⟨Int.ediv_nonneg h1 (by omega), Int.ediv_lt_of_lt_mul h0 h2⟩, Int.emod_nonneg _ (by omega), Int.emod_lt_of_pos _ h0⟩
theorem gridL_len (w h : Nat) : (gridL w h).length = w * h := by unfold gridL; rw [List.length_map, upN_len]
/-- a picture on the ring, its cells in their order -/
def OnRing (w h : Nat) (l : List (Int × Int)) : Prop := (l.Pairwise fun p q => p.1 < q.1 ∨ p.1 = q.1 ∧ p.2 < q.2) ∧ ∀ p ∈ l, p ∈ ringL w h
theorem OnRing.nodup {w h : Nat} {l : List (Int × Int)} (H : OnRing w h l) : l.Nodup := H.1.imp fun {p q} z e => by subst e; omega
theorem OnRing.sort {w h : Nat} {l : List (Int × Int)} (H : OnRing w h l) : sortE l = l := sort_lt H.1
theorem OnRing.sub {w h : Nat} {l m : List (Int × Int)} (H : OnRing w h l) (s : m.Sublist l) : OnRing w h m := ⟨H.1.sublist s, fun p hp => H.2 p (s.subset hp)⟩
theorem OnRing.ring (w h : Nat) : OnRing w h (ringL w h) := ⟨ringL_lt w h, fun _ z => z⟩
theorem OnRing.grid (w : Nat) {h : Nat} (hh : 0 < h) : OnRing w h (gridL w h) := ⟨gridL_lt w hh, fun _ z => gridL_mem hh z⟩
theorem nodup_len {l m : List (Int × Int)} (hl : l.Nodup) (h : ∀ p ∈ l, p ∈ m) : l.length ≤ m.length := by
  induction l generalizing m with
  | nil => exact Nat.zero_le _
  | cons a l ih =>
    have ha := h a (by simp)
    obtain ⟨h1, h2⟩ := List.nodup_cons.mp hl
    have := ih h2 (m := m.erase a) fun p hp => (List.mem_erase_of_ne (fun e => h1 (by rw [← e]; exact hp))).mpr (h p (by simp [hp]))
    rw [List.length_erase_of_mem ha] at this
    have hp := List.length_pos_of_mem ha
    rw [List.length_cons]
    omega
theorem OnRing.len {w h : Nat} {l : List (Int × Int)} (H : OnRing w h l) (hw : 3 ≤ w ∧ w ≤ 40) (hh : 3 ≤ h ∧ h ≤ 40) : l.length ≤ 1600 := by
  have h1 := nodup_len H.nodup H.2
  rw [ringL_len] at h1
  have : w * h ≤ 40 * 40 := Nat.mul_le_mul hw.2 hh.2
  omega
theorem pic2_aux {n : Nat} {p : D} {w h : Nat} {W H : Int} (eW : (w : Int) = W) (eH : (h : Int) = H) (hw : 3 ≤ w ∧ w ≤ 40) (hh : 3 ≤ h ∧ h ≤ 40) (m : Nat) (hp : PenOk n p) (hn : n + 2000 < 2 ^ 60) : ∃ live p', fPic2 (m : Int) [p, .tup [.int W, .int H]] = .ok (cells live) [p'] ∧ OnRing w h live ∧ PenOk (n + 1601) p' := by
  unfold fPic2 bPic2
  obtain ⟨N, hN, hN2⟩ : ∃ N : Nat, w * h = N ∧ N ≤ 1600 := ⟨_, rfl, Nat.mul_le_mul hw.2 hh.2⟩
  have hmul : W * H = (N : Int) := by rw [← hN, Int.natCast_mul, eW, eH]
  have hb : inR (N : Int) = true := inR_of (by omega)
  have m1 : CMulA W H := CMulA.l _ ⟨by omega, by omega⟩
  have h0 : (0 : Int) < H := by omega
  have d1 : ∀ x : Int, CDivW x H := fun x => CDivW.s x ⟨h0, by omega⟩
  have hz : ((upN N).map D.int).length ≤ sizeLine := by rw [List.length_map, upN_len]; exact szB (by omega)
  have hz2 : ((gridL w h).map cellP).length ≤ sizeLine := by rw [List.length_map, gridL_len]; exact szB (by omega)
  obtain ⟨x, p1, e1, a1, b1, h1⟩ := draw2_ex hp (by omega) (m := 6) (by decide) (by decide)
  have d6 : dLst [D.int 0, .int 1, .int 1, .int 1, .int 2, .int 3] = some (.lst [D.int 0, .int 1, .int 1, .int 1, .int 2, .int 3]) := dLst_ap (szn (show 6 ≤ 1000 by decide))
  obtain ⟨v, ev⟩ : ∃ v : Int, atI [D.int 0, .int 1, .int 1, .int 1, .int 2, .int 3] x = some (.int v) := by
    rcases (show x = 0 ∨ x = 1 ∨ x = 2 ∨ x = 3 ∨ x = 4 ∨ x = 5 by omega) with rfl | rfl | rfl | rfl | rfl | rfl
    · exact ⟨_, atI_nat (j := 0) rfl⟩
    · exact ⟨_, atI_nat (j := 1) rfl⟩
    · exact ⟨_, atI_nat (j := 2) rfl⟩
    · exact ⟨_, atI_nat (j := 3) rfl⟩
    · exact ⟨_, atI_nat (j := 4) rfl⟩
    · exact ⟨_, atI_nat (j := 5) rfl⟩
  obtain ⟨acc, ρ', run, q, as, rfl, rfl, has, hq⟩ := lcRun_inv (g := gSet 5) (tt := (xTest (xOp2 dLt (xCallB fDraw2 0 (xCons (xC (.int 3)) xNil)) (xVar 4)))) (te := (xVar 5)) (vs := [5]) (fun i acc ρ => ∃ (q : D) (as : List (Int × Int)), ρ = [.own q, .val ((.tup [.int W, .int H])), .val (cells (gridL w h)), .emp, .val (.int v), .emp] ∧ acc = as.map cellP ∧ as.Sublist ((gridL w h).take i) ∧ PenOk (n + 1 + i) q)
    ((gridL w h).map cellP) 0 [] [.own p1, .val ((.tup [.int W, .int H])), .val (cells (gridL w h)), .emp, .val (.int v), .emp] ⟨p1, [], rfl, rfl, by simp, h1⟩ (fun i d acc ρ hd hρ => by
      obtain ⟨q, as, rfl, rfl, has, hq⟩ := hρ
      rw [List.getElem?_map] at hd
      cases hc : (gridL w h)[i]? with
      | none => rw [hc] at hd; cases hd
      | some c =>
      rw [hc] at hd
      cases hd
      have l1 : i < N := by
        have := (List.getElem?_eq_some_iff.mp hc).1
        rw [gridL_len, hN] at this
        exact this
      obtain ⟨y, q', e, _, _, hq'⟩ := draw2_ex hq (by omega) (m := 3) (by decide) (by decide)
      rw [Nat.zero_add] at has hq' ⊢
      rw [take_snoc hc]
      by_cases hx : y < v
      · refine .inl ⟨cellP c, [.own q', .val ((.tup [.int W, .int H])), .val (cells (gridL w h)), .emp, .val (.int v), .emp], ?_, q', as ++ [c], rfl, by rw [List.map_append]; rfl, has.append (List.Sublist.refl _), hq'⟩
        simp! [e, hx]
      · refine .inr ⟨[.own q', .val ((.tup [.int W, .int H])), .val (cells (gridL w h)), .emp, .val (.int v), .emp], ?_, q', as, rfl, rfl, has.trans (List.sublist_append_left _ _), hq'⟩
        simp! [e, hx])
  rw [List.length_map, gridL_len, hN] at hq
  have hs : as.Sublist (gridL w h) := has.trans (List.take_sublist _ _)
  refine ⟨as.take m, q, ?_, (OnRing.grid w (by omega)).sub ((List.take_sublist _ _).trans hs), hq.mono (by omega)⟩
  have k1 : cutG (as.map cellP) none (some (m : Int)) = (as.take m).map cellP := by rw [cutG_map, cutG_to]
  simp! [hmul, m1, hb, Int.toNat_natCast, rangeD_upN, hz, cells] at run hz2 ⊢
  rw [lcMap cellP (fun i => (i / H, i % H))]
  · have qg : (upN N).map (fun i => (i / H, i % H)) = gridL w h := by unfold gridL; rw [hN, eH]
    rw [qg]
    simp! [d6, e1, ev, hz2, run, k1]
  · intro i _
    simp! [d1, h0, cellP]
theorem pic2_ex {n : Nat} {p : D} {w h : Nat} (hw : 3 ≤ w ∧ w ≤ 40) (hh : 3 ≤ h ∧ h ≤ 40) (m : Nat) (hp : PenOk n p) (hn : n + 2000 < 2 ^ 60) : ∃ live p', fPic2 (m : Int) [p, sizeD w h] = .ok (cells live) [p'] ∧ OnRing w h live ∧ PenOk (n + 1601) p' := pic2_aux rfl rfl hw hh m hp hn
end G

set_option maxHeartbeats 4000000
namespace G
open PySem PySem.Spec PyProof.Rows L2
local macro_rules | `(tactic| simp! [$ls,*] $[$loc:location]?) => `(tactic| simp only [zaa, zab, zac, zad, zae, zaf, zag, zah, zai, zaj, zak, zal, zam, zan, zao, zap, zaq, zar, zas, zat, zau, zav, zaw, zax, zay, zaz, zaA, zaB, zaC, zaD, zaE, zaF, zaG, zaH, zaI, zaJ, zaK, zaL, zaM, zaN, zaO, zaP, zaQ, zaR, zaS, zaT, zaU, zaV, zaW, zaX, zaY, zaZ, zba, zbb, zbc, zbd, zbe, zbf, zbg, zbh, zbi, zbj, zbk, zbl, zbm, zbn, zbo, zbp, zbq, zbr, zbs, zbt, zbu, zbv, zbw, zbx, zby, zbz, zbA, zbB, zbC, zbD, zbE, zbF, zbG, zbH, zbI, zbJ, zbK, zbL, zbM, zbN, zbO, zbP, zbQ, zbR, zbS, zbT, zbU, zbV, zbW, zbX, zbY, zbZ, zca, zcb, zcc, zcd, zce, zcf, zcg, zch, zci, zcj, zck, zcl, zcm, zcn, zco, zcp, zcq, zcr, zcs, zct, zcu, zcv, zcw, zcx, zcy, zcz, zcA, zcB, zcC, zcD, zcE, zcF, zcG, zcH, zcI, zcJ, zcK, zcL, zcM, zcN, zcO, zcP, zcQ, zcR, zcS, zcT, zcU, zcV, zcW, zcX, zcY, zcZ, zda, zdb, zdc, zdd, zde, zdf, zdg, zdh, zdi, zdj, zdk, zdl, zdm, zdn, zdo, zdp, zdq, zdr, zds, zdt, zdu, zdv, zdw, zdx, zdy, zdz, zdA, zdB, zdC, zdD, zdE, zdF, zdG, zdH, zdI, zdJ, zdK, zdL, zdM, zdN, zdO, zdP, zdQ, zdR, zdS, zdT, zdU, zdV, G.of_f, G.of_t, zdW, zdX, zdY, zdZ, zea, zeb, zec, zed, zee, zef, zeg, zeh, zei, zej, zek, zel, zem, zen, zeo, zep, zeq, zer, zes, zet, zeu, zev, zew, zex, zey, zez, zeA, zeB, zeC, zeD, zeE, zeF, zeG, zeH, zeI, zeJ, zeK, zeL, zeM, zeN, zeO, zeP, zeQ, zeR, zeS, zeT, zeU, zeV, zeW, zeX, zeY, zeZ, zfa, zfb, zfc, G.sz_1, G.sz_2, G.sz_3, G.sz_4, G.sz_0, zfd, zfe, zff, zfg, zfh, zfi, zfj, zfk, zfl, zfm, zfn, zfo, zfp, zfq, zfr, zfs, zft, zfu, zfv, zfw, G.nc_0, G.nc_1, G.nc_2, G.nc_3, G.nc_4, G.nc_5, G.nc_6, G.nc_7, G.nc_8, G.nc_9, zfx, zfy, zfz, zfA, zfB, zfC, zfD, zfE, zfF, zfG, zfH, zfI, zfJ, zfK, zfL, zfM, zfN, zfO, zfP, zfQ, zfR, zfS, zfT, zfU, zfV, zfW, zfX, zfY, zfZ, zga, zgb, zgc, zgd, zge, zgf, zgg, zgh, zgi, zgj, zgk, zgl, zgm, zgn, zgo, zgp, zgq, zgr, zgs, zgt, zgu, zgv, zgw, zgx, zgy, zgz, zgA, zgB, zgC, zgD, zgE, zgF, zgG, zgH, zgI, zgJ, zgK, zgL, zgM, zgN, zgO, zgP, zgQ, zgR, zgS, zgT, zgU, zgV, zgW, zgX, zgY, zgZ, zha, zhb, zhc, zhd, zhe, zhf, zhg, zhh, zhi, zhj, zhk, zhl, zhm, zhn, zho, List.getElem?_cons_zero, List.getElem?_cons_succ, List.set_cons_zero, List.set_cons_succ, G.atI_0, G.atI_1, G.atI_2, G.atI_3, Option.map_some, Option.bind_some, G.eqD_int, G.eqD_cell, G.eqD_bl, List.length_cons, List.length_nil, List.getD_cons_zero, List.getD_cons_succ, Bool.and_true, Bool.and_self, decide_true, decide_false, Bool.not_true, Bool.not_false, List.append_nil, List.nil_append, List.cons_append, if_true, if_false, Bool.false_eq_true, reduceIte, Int.reduceLT, Int.reduceLE, Int.reduceToNat, Int.reducePow, Int.reduceNeg, Int.reduceAdd, Int.reduceSub, Int.reduceMul, Nat.reduceAdd, Int.reduceEq, List.replicate, Nat.reduceSub, and_self, and_true, true_and, $ls,*] $[$loc]?)

/-! ### rings moved, rings after some turns -/
theorem onring_sort {w h : Nat} {l : List (Int × Int)} (hn : l.Nodup) (hr : ∀ p ∈ l, p ∈ ringL w h) : OnRing w h (sortE l) := by
  refine ⟨?_, fun p hp => hr p (mem_sortE.mp hp)⟩
  have h1 := sortE_pw l
  have h2 : (sortE l).Nodup := ((sortE_perm l).nodup_iff).mpr hn
  exact (h1.and h2).imp fun {p q} z => by
    obtain ⟨z1, z2⟩ := z
    rw [leE_pair, decide_eq_true_eq] at z1
    rcases z1 with z1 | ⟨z1, z3⟩
    · exact .inl z1
    · rcases Int.lt_or_eq_of_le z3 with z4 | z4
      · exact .inr ⟨z1, z4⟩
      · exact absurd (Prod.ext z1 z4) z2
theorem OnRing.ext {w h : Nat} {l m : List (Int × Int)} (hl : OnRing w h l) (hm : OnRing w h m) (e : ∀ p, p ∈ l ↔ p ∈ m) : l = m := by
  have p : l.Perm m := (List.perm_ext_iff_of_nodup hl.nodup hm.nodup).mpr e
  have := sortE_cong p
  rwa [hl.sort, hm.sort] at this
def movR (w h : Nat) (m : Int × Int) (live : List (Int × Int)) : List (Int × Int) := sortE (live.map fun p => onR w h (sh m p))
theorem movR_onring {w h : Nat} (hw : 0 < w) (hh : 0 < h) (m : Int × Int) {live : List (Int × Int)} (H : OnRing w h live) : OnRing w h (movR w h m live) := by
  refine onring_sort ?_ fun p hp => ?_
  · refine List.pairwise_map.mpr (H.nodup.imp_of_mem fun {a b} ha hb z e => z ?_)
    have h1 := (onR_swap (H.2 a ha) (onR_mem hw hh (sh m b)) m).mp e
    have h2 := (onR_swap (H.2 b hb) (onR_mem hw hh (sh m b)) m).mp rfl
    rw [h1, ← h2]
  · obtain ⟨q, _, rfl⟩ := List.mem_map.mp hp
    exact onR_mem hw hh _
theorem mem_movR {w h : Nat} (m : Int × Int) {live : List (Int × Int)} (H : OnRing w h live) {r : Int × Int} (hr : r ∈ ringL w h) : r ∈ movR w h m live ↔ onR w h (sh (neg2 m) r) ∈ live := by
  unfold movR
  rw [mem_sortE, List.mem_map]
  constructor
  · rintro ⟨p, hp, e⟩
    rw [← (onR_swap (H.2 p hp) hr m).mp e]
    exact hp
  · intro hp
    exact ⟨_, hp, (onR_swap (H.2 _ hp) hr m).mpr rfl⟩
theorem movR_add (w h : Nat) (m n : Int × Int) (live : List (Int × Int)) : movR w h n (movR w h m live) = movR w h (m.1 + n.1, m.2 + n.2) live := by
  unfold movR
  rw [sortE_cong ((sortE_perm _).map _), List.map_map]
  congr 1
  refine List.map_congr_left fun p _ => ?_
  show onR w h (sh n (onR w h (sh m p))) = _
  rw [onR_sh, sh_sh]
theorem movR_whole {w h : Nat} (m : Int × Int) {live : List (Int × Int)} (H : OnRing w h live) : movR w h (m.1 - m.1 % w, m.2 - m.2 % h) live = live := by
  unfold movR
  have e : (live.map fun p => onR w h (sh (m.1 - m.1 % w, m.2 - m.2 % h) p)) = live := by
    have : ∀ p ∈ live, onR w h (sh (m.1 - m.1 % w, m.2 - m.2 % h) p) = id p := fun p hp => by
      have q := onR_id (H.2 p hp)
      unfold onR sh at *
      have e1 := Int.mul_ediv_add_emod m.1 w
      have e2 := Int.mul_ediv_add_emod m.2 h
      have f1 : p.1 + (m.1 - m.1 % w) = p.1 + w * (m.1 / w) := by omega
      have f2 : p.2 + (m.2 - m.2 % h) = p.2 + h * (m.2 / h) := by omega
      show ((p.1 + (m.1 - m.1 % w)) % w, (p.2 + (m.2 - m.2 % h)) % h) = p
      rw [f1, f2, Int.add_mul_emod_self_left, Int.add_mul_emod_self_left]
      exact q
    rw [List.map_congr_left this, List.map_id]
  rw [e, H.sort]
theorem nextR_onring (w h : Nat) (k : Int) (bs ss : List Int) (live : List (Int × Int)) : OnRing w h (nextR w h k bs ss live) := (OnRing.ring w h).sub List.filter_sublist
theorem sh_comm (d e p : Int × Int) : sh d (sh e p) = sh e (sh d p) := by
  unfold sh
  apply Prod.ext <;> simp only <;> omega
theorem lives_mov {w h : Nat} (hw : 0 < w) (hh : 0 < h) (k : Int) (m : Int × Int) {live : List (Int × Int)} (H : OnRing w h live) (c : Int × Int) : lives w h k (movR w h m live) c = lives w h k live (onR w h (sh (neg2 m) c)) := by
  unfold lives
  refine List.countP_congr fun d _ => ?_
  rw [decide_eq_true_eq, decide_eq_true_eq, mem_movR m H (onR_mem hw hh _), onR_sh, onR_sh, sh_comm]
theorem next_mov {w h : Nat} (hw : 0 < w) (hh : 0 < h) (k : Int) (bs ss : List Int) (m : Int × Int) {live : List (Int × Int)} (H : OnRing w h live) : nextR w h k bs ss (movR w h m live) = movR w h m (nextR w h k bs ss live) := by
  refine (nextR_onring w h k bs ss _).ext (movR_onring hw hh m (nextR_onring w h k bs ss live)) fun c => ?_
  by_cases hc : c ∈ ringL w h
  · rw [mem_movR m (nextR_onring w h k bs ss live) hc]
    unfold nextR
    have hq := onR_mem hw hh (sh (neg2 m) c)
    rw [List.mem_filter, List.mem_filter, decide_eq_true_eq, decide_eq_true_eq, lives_mov hw hh k m H c]
    have e : (c ∈ movR w h m live) = (onR w h (sh (neg2 m) c) ∈ live) := propext (mem_movR m H hc)
    simp only [e, hc, hq, true_and]
  · exact ⟨fun z => absurd ((nextR_onring w h k bs ss _).2 c z) hc, fun z => absurd ((movR_onring hw hh m (nextR_onring w h k bs ss live)).2 c z) hc⟩
def afterR (w h : Nat) (k : Int) (bs ss : List Int) (live : List (Int × Int)) : Nat → List (Int × Int)
  | 0 => live
  | n + 1 => nextR w h k bs ss (afterR w h k bs ss live n)
theorem afterR_onring {w h : Nat} (k : Int) (bs ss : List Int) {live : List (Int × Int)} (H : OnRing w h live) (n : Nat) : OnRing w h (afterR w h k bs ss live n) := by
  cases n with
  | zero => exact H
  | succ n => exact nextR_onring _ _ _ _ _ _
theorem afterR_add (w h : Nat) (k : Int) (bs ss : List Int) (live : List (Int × Int)) (m n : Nat) : afterR w h k bs ss (afterR w h k bs ss live m) n = afterR w h k bs ss live (m + n) := by
  induction n with
  | zero => rfl
  | succ n ih =>
    show nextR w h k bs ss _ = nextR w h k bs ss (afterR w h k bs ss live (m + n))
    rw [ih]
theorem after_mov {w h : Nat} (hw : 0 < w) (hh : 0 < h) (k : Int) (bs ss : List Int) (m : Int × Int) {live : List (Int × Int)} (H : OnRing w h live) (n : Nat) : afterR w h k bs ss (movR w h m live) n = movR w h m (afterR w h k bs ss live n) := by
  induction n with
  | zero => rfl
  | succ n ih =>
    show nextR w h k bs ss _ = movR w h m (nextR w h k bs ss _)
    rw [ih, next_mov hw hh k bs ss m (afterR_onring k bs ss H n)]
/-! the walk's terms -/
theorem ring_moved_is {w h : Nat} {W H : Int} (eW : (w : Int) = W) (eH : (h : Int) = H) (hw : 3 ≤ w ∧ w ≤ 40) (hh : 3 ≤ h ∧ h ≤ 40) (a b : Int) (live : List (Int × Int)) (hl : live.length ≤ 1600) : p_ring_moved [.tup [.int W, .int H], cells live, .tup [.int a, .int b]] = .ok (cells (movR w h (a, b) live)) [] := by
  unfold p_ring_moved pb_ring_moved
  have e1 := ask_ring_is hw hh
  have hz : (live.map cellP).length ≤ sizeLine := by rw [List.length_map]; exact szB (by omega)
  simp! [sizeD, cells] at e1 ⊢
  rw [eW, eH] at e1
  simp! [e1, hz]
  rw [lcMap cellP (fun p => onR w h (sh (a, b) p))]
  · simp! [sorted_cells]
    rfl
  · intro p _
    obtain ⟨x, y⟩ := p
    have e2 := on_ring_is (w := w) (h := h) (by omega) (by omega) (x + a) (y + b)
    have e3 : sh (a, b) (x, y) = (x + a, y + b) := rfl
    simp! [sizeD] at e2
    rw [eW, eH] at e2
    simp! [e2, e3]
theorem next_len {w h : Nat} (hw : 3 ≤ w ∧ w ≤ 40) (hh : 3 ≤ h ∧ h ≤ 40) (k : Int) (bs ss : List Int) (live : List (Int × Int)) : (nextR w h k bs ss live).length ≤ 1600 := (nextR_onring w h k bs ss live).len hw hh
theorem ring_next_of {w h : Nat} {W H : Int} (eW : (w : Int) = W) (eH : (h : Int) = H) (hw : 3 ≤ w ∧ w ≤ 40) (hh : 3 ≤ h ∧ h ≤ 40) {k : Int} (hk : Kind k) (bs ss : List Int) {live : List (Int × Int)} (hl : OnRing w h live) : p_ring_next [ruleD k bs ss, .tup [.int W, .int H], cells live] = .ok (cells (nextR w h k bs ss live)) [] := by
  have := ring_next_is hw hh hk bs ss live hl.nodup hl.2 (hl.len hw hh)
  rw [← eW, ← eH]
  exact this
theorem ring_after_is {w h : Nat} {W H : Int} (eW : (w : Int) = W) (eH : (h : Int) = H) (hw : 3 ≤ w ∧ w ≤ 40) (hh : 3 ≤ h ∧ h ≤ 40) {k : Int} (hk : Kind k) (bs ss : List Int) {live : List (Int × Int)} (hl : OnRing w h live) (n : Nat) {N : Int} (eN : (n : Int) = N) (hN : n ≤ 1000) : p_ring_after [ruleD k bs ss, .tup [.int W, .int H], cells live, .int N] = .ok (cells (afterR w h k bs ss live n)) [] := by
  unfold p_ring_after pb_ring_after
  have e1 := ask_ring_is hw hh
  have hb : inR N = true := inR_of (by omega)
  have hN2 : N.toNat = n := by omega
  obtain ⟨ρ', e, s5, rfl⟩ := for_range_inv (g := gSet 5) (body := pb_ring_after_1) (lo := 0) (n := n)
    (fun i ρ => ∃ s5, ρ = [.val (ruleD k bs ss), .val (.tup [.int W, .int H]), .val (cells live), .val (.int N), .own (cells (afterR w h k bs ss live i)), s5]) (ρ := [.val (ruleD k bs ss), .val (.tup [.int W, .int H]), .val (cells live), .val (.int N), .own (cells live), .emp]) ⟨_, rfl⟩ (fun i ρ hi hρ => by
      obtain ⟨s5, rfl⟩ := hρ
      refine ⟨_, rfl, ?_⟩
      have e2 := ring_next_of eW eH hw hh hk bs ss (afterR_onring k bs ss hl i)
      unfold pb_ring_after_1
      simp! [ruleD, cells] at e2 ⊢
      simp! [e2]
      exact ⟨_, .inl rfl, _, rfl⟩)
  simp! [sizeD, cells, ruleD] at e1 e ⊢
  rw [eW, eH] at e1
  simp! [e1, hb, hN2, e]
end G

set_option maxHeartbeats 4000000
namespace G
open PySem PySem.Spec PyProof.Rows L2

/-! ### tables of sets, up to 8192 slots: pure facts -/
def MaskG (m : Nat) : Prop := m = 7 ∨ m = 31 ∨ m = 127 ∨ m = 511 ∨ m = 2047 ∨ m = 8191
/-- none of the next n steps stands at 0, the one behind them does -/
def homeIn (m : Nat) : Nat → Nat → Bool
  | 0, x => x == 0
  | n + 1, x => x != 0 && homeIn m n ((x * 5 + 1) % (m + 1))
theorem home7 : homeIn 7 7 1 = true := by decide +kernel
theorem home31 : homeIn 31 31 1 = true := by decide +kernel
theorem home127 : homeIn 127 127 1 = true := by decide +kernel
theorem home511 : homeIn 511 511 1 = true := by decide +kernel
theorem home2047 : homeIn 2047 2047 1 = true := by decide +kernel
theorem home8191 : homeIn 8191 8191 1 = true := by decide +kernel
theorem MaskG.home {m : Nat} (hm : MaskG m) : homeIn m m 1 = true := by
  rcases hm with rfl | rfl | rfl | rfl | rfl | rfl
  · exact home7
  · exact home31
  · exact home127
  · exact home511
  · exact home2047
  · exact home8191

theorem MaskG.inj {m : Nat} (hm : MaskG m) {x y : Nat} (hx : x ≤ m) (hy : y ≤ m) (e : (x * 5 + 1) % (m + 1) = (y * 5 + 1) % (m + 1)) : x = y := by
  rcases hm with rfl | rfl | rfl | rfl | rfl | rfl <;> omega
theorem lcg_le (m n : Nat) : lcgN m n ≤ m := by
  cases n with
  | zero => exact Nat.zero_le _
  | succ n => exact Nat.le_of_lt_succ (Nat.mod_lt _ (Nat.succ_pos _))
theorem homeIn_spec {m : Nat} : ∀ (n a : Nat), homeIn m n (lcgN m a) = true → (∀ d, d < n → lcgN m (a + d) ≠ 0) ∧ lcgN m (a + n) = 0
  | 0, a, h => ⟨fun d hd => absurd hd (Nat.not_lt_zero _), by simpa [homeIn] using h⟩
  | n + 1, a, h => by
    unfold homeIn at h
    rw [Bool.and_eq_true, bne_iff_ne] at h
    obtain ⟨h1, h2⟩ := homeIn_spec n (a + 1) h.2
    refine ⟨fun d hd => ?_, by rw [show a + (n + 1) = a + 1 + n by omega]; exact h2⟩
    cases d with
    | zero => exact h.1
    | succ d => rw [show a + (d + 1) = a + 1 + d by omega]; exact h1 d (by omega)
theorem MaskG.one {m : Nat} (hm : MaskG m) : lcgN m 1 = 1 := by
  show (0 * 5 + 1) % (m + 1) = 1
  rcases hm with rfl | rfl | rfl | rfl | rfl | rfl <;> rfl
theorem MaskG.away {m : Nat} (hm : MaskG m) {n : Nat} (h0 : 0 < n) (h1 : n ≤ m) : lcgN m n ≠ 0 := by
  have h := (homeIn_spec m 1 (by rw [hm.one]; exact hm.home)).1 (n - 1) (by omega)
  rwa [show 1 + (n - 1) = n by omega] at h
theorem MaskG.back {m : Nat} (hm : MaskG m) : lcgN m (m + 1) = 0 := by
  have h := (homeIn_spec m 1 (by rw [hm.one]; exact hm.home)).2
  rwa [show 1 + m = m + 1 by omega] at h
theorem MaskG.apart {m : Nat} (hm : MaskG m) {d : Nat} : ∀ a, lcgN m (a + d) = lcgN m a → lcgN m d = 0
  | 0, e => by rw [Nat.zero_add] at e; exact e
  | a + 1, e => hm.apart a (hm.inj (lcg_le _ _) (lcg_le _ _) (by
      rw [show a + 1 + d = a + d + 1 by omega] at e
      exact e))
theorem MaskG.met0 {m : Nat} (hm : MaskG m) {j : Nat} (hj : j ≤ m) : ∃ n, n ≤ m ∧ lcgN m n = j := by
  refine Classical.byContradiction fun hno => ?_
  have hn : ∀ n, n ≤ m → lcgN m n ≠ j := fun n h e => hno ⟨n, h, e⟩
  have nd : ((List.range (m + 1)).map (lcgN m)).Nodup := by
    refine List.pairwise_map.mpr (List.pairwise_lt_range.imp_of_mem fun {a b} ha hb hlt e => ?_)
    have hb' := List.mem_range.mp hb
    refine hm.away (n := b - a) (by omega) (by omega) (hm.apart a ?_)
    rw [show a + (b - a) = b by omega]
    exact e.symm
  have nd2 : (j :: (List.range (m + 1)).map (lcgN m)).Nodup := List.nodup_cons.mpr ⟨fun h => by
    obtain ⟨n, h1, h2⟩ := List.mem_map.mp h
    exact hn n (Nat.le_of_lt_succ (List.mem_range.mp h1)) h2, nd⟩
  have := nat_nodup_len _ (List.range (m + 1)) nd2 fun x hx => by
    rcases List.mem_cons.mp hx with rfl | hx
    · exact List.mem_range.mpr (Nat.lt_succ_of_le hj)
    · obtain ⟨n, _, rfl⟩ := List.mem_map.mp hx
      exact List.mem_range.mpr (Nat.lt_succ_of_le (lcg_le _ _))
  rw [List.length_cons, List.length_map, List.length_range] at this
  omega
theorem MaskG.turn {m : Nat} (hm : MaskG m) : ∀ n, lcgN m (m + 1 + n) = lcgN m n
  | 0 => hm.back
  | n + 1 => by
    show (lcgN m (m + 1 + n) * 5 + 1) % (m + 1) = (lcgN m n * 5 + 1) % (m + 1)
    rw [hm.turn n]
/-- from each slot the round leads to each -/
theorem MaskG.met {m : Nat} (hm : MaskG m) {i j : Nat} (hi : i ≤ m) (hj : j ≤ m) : ∃ n, n ≤ m ∧ lcgI m i n = j := by
  obtain ⟨a, ha, rfl⟩ := hm.met0 hi
  obtain ⟨b, hb, rfl⟩ := hm.met0 hj
  by_cases h : a ≤ b
  · exact ⟨b - a, by omega, by rw [lcgN_add, show a + (b - a) = b by omega]⟩
  · exact ⟨m + 1 + b - a, by omega, by rw [lcgN_add, show a + (m + 1 + b - a) = m + 1 + b by omega, hm.turn]⟩
theorem MaskG.run {m : Nat} (hm : MaskG m) (h : Int) {j : Nat} (hj : j ≤ m) : ∃ n, n ≤ m + 12 ∧ runI m (SetTable.bits h) n = j := by
  obtain ⟨n, hn, e⟩ := hm.met (runI_le m (SetTable.bits h) 12) hj
  exact ⟨12 + n, by omega, (runI_tail (bits_lt h) n).trans e⟩
/-- each slot stands on each hash's way, early enough -/
theorem MaskG.way {m : Nat} (hm : MaskG m) (h : Int) {j : Nat} (hj : j ≤ m) : ∃ k, k < 10 * SetTable.turns m ∧ L2.way m h k = j := by
  obtain ⟨n, hn, e⟩ := hm.run h hj
  obtain ⟨k, hk, ek⟩ := run_nth m (SetTable.bits h) n
  refine ⟨k, ?_, ?_⟩
  · show k < 10 * (m + 15)
    omega
  · show (nth m _ k).j = j
    rw [ek]
    exact e
theorem way_in (m : Nat) (h : Int) (k : Nat) : L2.way m h k ≤ m := by
  have hi : SetTable.bits h % (m + 1) ≤ m := Nat.le_of_lt_succ (Nat.mod_lt _ (Nat.succ_pos m))
  have r := runEnd_bd hi
  have q := nth_in (m := m) k (runAt m (SetTable.bits h % (m + 1)) (SetTable.bits h)) (by
    show SetTable.bits h % (m + 1) + (SetTable.runEnd m (SetTable.bits h % (m + 1)) - SetTable.bits h % (m + 1)) ≤ m
    omega)
  exact Nat.le_trans (Nat.le_add_right _ _) q
/-- the slots taken ahead of the k-th step of a hash's way -/
def Filled (m : Nat) (P : List Nat) (h : Int) (k : Nat) : Prop := ∀ c, c < k → L2.way m h c ∈ P
theorem Filled.mono {m : Nat} {P Q : List Nat} {h : Int} {k : Nat} (f : Filled m P h k) (s : ∀ x ∈ P, x ∈ Q) : Filled m Q h k := fun c hc => s _ (f c hc)
/-- a table: slots P rising, hashes hs beside them, each found on its way -/
structure TabG (t : SetTable) (hs : List Int) : Prop where
  mok : MaskG t.mask
  ris : Ris t.place.toList
  dm : t.dummies = #[]
  len : t.place.toList.length = hs.length
  found : ∀ (i : Nat) (h : Int) (j : Nat), hs[i]? = some h → t.place.toList[i]? = some j → ∃ k, L2.way t.mask h k = j ∧ Filled t.mask t.place.toList h k
theorem TabG.gap {t : SetTable} {hs : List Int} (T : TabG t hs) (hl : hs.length ≤ t.mask) (h : Int) : ∃ K, K < 10 * SetTable.turns t.mask ∧ L2.way t.mask h K ∉ t.place.toList ∧ Filled t.mask t.place.toList h K := by
  obtain ⟨j, hj, hn⟩ := st_missing t.place.toList (t.mask + 1) (by rw [T.len]; omega)
  obtain ⟨k, hk, e⟩ := T.mok.way h (Nat.le_of_lt_succ hj)
  obtain ⟨K, h1, h2, h3⟩ := st_least (p := fun k => L2.way t.mask h k ∉ t.place.toList) k (e ▸ hn)
  exact ⟨K, Nat.lt_of_le_of_lt h1 hk, h2, fun c hc => Classical.byContradiction fun z => h3 c hc z⟩
theorem TabG.ahead {t : SetTable} {hs : List Int} (T : TabG t hs) {h : Int} {K i j : Nat} (hK : L2.way t.mask h K ∉ t.place.toList) (hi : hs[i]? = some h) (hj : t.place.toList[i]? = some j) : ∃ k, k < K ∧ L2.way t.mask h k = j := by
  obtain ⟨k, e, f⟩ := T.found i h j hi hj
  refine ⟨k, Nat.lt_of_not_le fun z => ?_, e⟩
  rcases Nat.lt_or_eq_of_le z with z | z
  · exact hK (f K z)
  · subst z
    exact hK (e ▸ List.mem_of_getElem? hj)
theorem TabG.add {t : SetTable} {hs : List Int} (T : TabG t hs) {h : Int} {K : Nat} (hK : L2.way t.mask h K ∉ t.place.toList) (f : Filled t.mask t.place.toList h K) (p : Nat) (hp : p = SetTable.below t.place (L2.way t.mask h K)) :
    p ≤ hs.length ∧ TabG (t.put (L2.way t.mask h K)).1 (hs.take p ++ h :: hs.drop p) ∧ (t.put (L2.way t.mask h K)).1.fill = hs.length + 1 := by
  have hpl : p ≤ t.place.toList.length := by
    rw [hp, Array.length_toList]
    exact (below_cut T.ris _).1
  have hph : p ≤ hs.length := T.len ▸ hpl
  have hnp : t.place[SetTable.below t.place (L2.way t.mask h K)]? ≠ some (L2.way t.mask h K) := fun e => hK (List.mem_of_getElem? (by rw [Array.getElem?_toList]; exact e))
  have pl : (t.put (L2.way t.mask h K)).1.place.toList = t.place.toList.take p ++ L2.way t.mask h K :: t.place.toList.drop p := by
    rw [hp]
    exact put_place t _
  have hd := put_dm T.dm (L2.way t.mask h K)
  have hlen : (t.put (L2.way t.mask h K)).1.place.toList.length = hs.length + 1 := by rw [pl, len_ins _ hpl, T.len]
  have up : ∀ x ∈ t.place.toList, x ∈ (t.put (L2.way t.mask h K)).1.place.toList := fun x hx => by
    rw [pl]
    exact mem_ins.mpr (.inr hx)
  refine ⟨hph, ⟨T.mok, ris_insert T.ris hnp, hd, by rw [hlen, len_ins _ hph], fun i h' j' h1 h2 => ?_⟩, ?_⟩
  · show ∃ k, L2.way t.mask h' k = j' ∧ Filled t.mask _ h' k
    rw [tins_get hs hph] at h1
    rw [pl, tins_get _ hpl] at h2
    have old : ∀ i0, hs[i0]? = some h' → t.place.toList[i0]? = some j' → ∃ k, L2.way t.mask h' k = j' ∧ Filled t.mask (t.put (L2.way t.mask h K)).1.place.toList h' k := fun i0 a b =>
      let ⟨k, e, g⟩ := T.found i0 h' j' a b
      ⟨k, e, g.mono up⟩
    by_cases c : i < p
    · rw [if_pos c] at h1 h2
      exact old i h1 h2
    · rw [if_neg c] at h1 h2
      by_cases d : i = p
      · rw [if_pos d] at h1 h2
        cases h1
        cases h2
        exact ⟨K, rfl, f.mono up⟩
      · rw [if_neg d] at h1 h2
        exact old (i - 1) h1 h2
  · unfold SetTable.fill
    rw [hd, ← Array.length_toList, hlen]
    rfl
/-! laid anew -/
theorem MaskG.free {m : Nat} (hm : MaskG m) (owner : Array (Option Nat)) (h : Int) {j : Nat} (hj : j ≤ m) (hf : oAt owner j = none) :
    ∃ K, SetTable.layClean.free m owner (SetTable.turns m) (SetTable.bits h % (m + 1)) (SetTable.bits h) = some (L2.way m h K) ∧ oAt owner (L2.way m h K) = none ∧ ∀ k, k < K → oAt owner (L2.way m h k) ≠ none := by
  obtain ⟨n, hn, e⟩ := hm.run h hj
  have hw : L2.way m h (off m (SetTable.bits h % (m + 1)) (SetTable.bits h) n) = j := by
    show (nth m _ _).j = j
    rw [nth_off, itL_run]
    exact e
  obtain ⟨K, k1, k2, k3⟩ := st_least (p := fun k => oAt owner (L2.way m h k) = none) (off m (SetTable.bits h % (m + 1)) (SetTable.bits h) n) (by rw [hw]; exact hf)
  refine ⟨K, free_spec m owner (SetTable.turns m) n _ _ K (by show n < m + 15; omega) k1 (fun k hk => ?_) (by rw [show oAt owner _ = none from k2]; rfl), k2, k3⟩
  cases z : oAt owner (nth m (runAt m (SetTable.bits h % (m + 1)) (SetTable.bits h)) k).j with
  | none => exact absurd z (k3 k hk)
  | some _ => rfl
theorem MaskG.seat {m : Nat} (hm : MaskG m) {done : List Int} {owner : Array (Option Nat)} (W : L2.Own m done owner) (hl : done.length ≤ m) (h : Int) :
    ∃ j, SetTable.layClean.free m owner (SetTable.turns m) (SetTable.bits h % (m + 1)) (SetTable.bits h) = some j ∧ L2.Own m (done ++ [h]) (owner.setIfInBounds j (some done.length)) := by
  obtain ⟨ps, hps, hin⟩ := W.ps
  obtain ⟨j0, hj0, hout⟩ := st_missing ps (m + 1) (by omega)
  have free0 : oAt owner j0 = none := Classical.byContradiction fun z => hout (hin j0 (Nat.le_of_lt_succ hj0) z)
  obtain ⟨K, e1, e2, e3⟩ := hm.free owner h (Nat.le_of_lt_succ hj0) free0
  generalize hw : L2.way m h K = j at e1 e2
  have hj : j ≤ m := hw ▸ way_in m h K
  have here := oAt_set_self (owner := owner) (some done.length) (j := j) (by rw [W.sz]; exact Nat.lt_succ_of_le hj)
  have else_ : ∀ {i}, i ≠ j → oAt (owner.setIfInBounds j (some done.length)) i = oAt owner i := fun {i} c => oAt_set_ne _ c
  have stay : ∀ {i}, oAt owner i ≠ none → oAt (owner.setIfInBounds j (some done.length)) i ≠ none := fun {i} z => by
    by_cases c : i = j
    · subst c
      exact absurd e2 z
    · rw [else_ c]
      exact z
  refine ⟨j, e1, ⟨by rw [Array.size_setIfInBounds]; exact W.sz, fun i k hi e => ?_, fun k hk => ?_, j :: ps, by simp [hps], fun i hi e => ?_⟩⟩
  · by_cases c : i = j
    · subst c
      rw [here] at e
      cases e
      exact ⟨h, K, by simp, hw, fun k' hk' => stay (e3 k' hk')⟩
    · rw [else_ c] at e
      obtain ⟨h', K', a1, a2, a3⟩ := W.at_ i k hi e
      exact ⟨h', K', by rw [List.getElem?_append_left (List.getElem?_eq_some_iff.mp a1).1]; exact a1, a2, fun k' hk' => stay (a3 k' hk')⟩
  · rw [List.length_append] at hk
    rcases Nat.lt_or_ge k done.length with c | c
    · obtain ⟨i, hi, e⟩ := W.all k c
      exact ⟨i, hi, by rw [else_ (fun z => by rw [z, e2] at e; cases e)]; exact e⟩
    · have : k = done.length := Nat.le_antisymm (Nat.le_of_lt_succ hk) c
      subst this
      exact ⟨j, hj, here⟩
  · by_cases c : i = j
    · exact c ▸ List.mem_cons_self
    · rw [else_ c] at e
      exact List.mem_cons_of_mem _ (hin i hi e)
theorem MaskG.fold {m : Nat} (hm : MaskG m) : ∀ (rest done : List Int) (owner : Array (Option Nat)), L2.Own m done owner → done.length + rest.length ≤ m →
    ∃ o, rest.foldl (stepF m) (some (owner, done.length)) = some (o, done.length + rest.length) ∧ L2.Own m (done ++ rest) o
  | [], done, owner, W, _ => ⟨owner, rfl, by rwa [List.append_nil]⟩
  | h :: rest, done, owner, W, hl => by
    have hl' : done.length + (rest.length + 1) ≤ m := hl
    obtain ⟨j, e, W'⟩ := hm.seat W (by omega) h
    have hd : (done ++ [h]).length = done.length + 1 := by simp
    obtain ⟨o, f, V⟩ := hm.fold rest (done ++ [h]) _ W' (by omega)
    rw [hd] at f
    refine ⟨o, ?_, by simpa using V⟩
    rw [List.foldl_cons, stepF_some e, f, List.length_cons]
    congr 2
    omega
theorem MaskG.lay {m : Nat} (hm : MaskG m) {hs : Array Int} (hn : hs.size ≤ m) : ∃ owner, SetTable.layClean m hs = some owner ∧ L2.Own m hs.toList owner := by
  obtain ⟨o, f, W⟩ := hm.fold hs.toList [] _ (L2.Own.init m) (by simpa using hn)
  refine ⟨o, ?_, by simpa using W⟩
  rw [layClean_eq, show hs.toList.foldl (stepF m) (some (Array.replicate (m + 1) none, 0)) = _ from f]
  rfl
end G

set_option maxHeartbeats 4000000
namespace G
open PySem PySem.Spec PyProof.Rows L2

/-! ### sets of int tuples, up to 8192 slots -/
theorem MaskG.relaid (t : SetTable) {hs : Array Int} {wanted M : Nat} (hw : SetTable.sizeAbove wanted - 1 = M) (hM : MaskG M) (hn : hs.size ≤ M) :
    ∃ t' order, t.relaid hs wanted = some (t', order) ∧ order.toList.Perm (List.range hs.size) ∧ TabG t' (order.toList.map fun i => hs.getD i 0) ∧ t'.mask = M ∧ t'.led = t.led ∧ t'.plain = t.plain := by
  obtain ⟨owner, e, W⟩ := hM.lay hn
  have mem : ∀ j k, (j, k) ∈ liveOf M owner ↔ j ≤ M ∧ oAt owner j = some k := fun j k => mem_live W.sz
  obtain ⟨r1, r2⟩ : Ris ((liveOf M owner).map (·.1)) ∧ ∀ x ∈ (liveOf M owner).map (·.1), x ∈ List.range (M + 1) := ris_live (fun j => owner.getD j none) (List.range (M + 1)) (by
    unfold Ris
    exact List.pairwise_lt_range)
  have every : ∀ k, k < hs.size → k ∈ (liveOf M owner).map (·.2) := fun k hk => by
    obtain ⟨j, b1, b2⟩ := W.all k (by rw [Array.length_toList]; exact hk)
    exact List.mem_map.mpr ⟨(j, k), (mem j k).mpr ⟨b1, b2⟩, rfl⟩
  have hlen : (liveOf M owner).length = hs.size := by
    refine Nat.le_antisymm ?_ ?_
    · obtain ⟨ps, p1, p2⟩ := W.ps
      have nd : ((liveOf M owner).map fun q : Nat × Nat => q.1).Nodup := List.Pairwise.imp (fun {a b} (z : a < b) => Nat.ne_of_lt z) r1
      have := nat_nodup_len ((liveOf M owner).map fun q : Nat × Nat => q.1) ps nd fun x hx => by
        obtain ⟨⟨y, k⟩, hq, rfl⟩ := List.mem_map.mp hx
        obtain ⟨b1, b2⟩ := (mem y k).mp hq
        exact p2 y b1 (by rw [b2]; exact fun z => nomatch z)
      rw [List.length_map, p1, Array.length_toList] at this
      exact this
    · have := nat_nodup_len (List.range hs.size) ((liveOf M owner).map (·.2)) List.nodup_range fun k hk => every k (List.mem_range.mp hk)
      rw [List.length_map, List.length_range] at this
      exact this
  refine ⟨tabOf t M owner, ((liveOf M owner).map (·.2)).toArray, by rw [relaid_eq, hw, e]; rfl, perm_range hs.size _ (by rw [← hlen]; exact List.length_map _) every, ⟨hM, r1, rfl, ?_, fun i h j h1 h2 => ?_⟩, rfl, rfl, rfl⟩
  · show ((liveOf M owner).map (·.1)).length = (((liveOf M owner).map (·.2)).map fun i => hs.getD i 0).length
    simp only [List.length_map]
  · change (((liveOf M owner).map (·.2)).map fun i => hs.getD i 0)[i]? = some h at h1
    change ((liveOf M owner).map (·.1))[i]? = some j at h2
    rw [List.getElem?_map, List.getElem?_map] at h1
    rw [List.getElem?_map] at h2
    obtain ⟨⟨y, k⟩, hq, rfl⟩ := Option.map_eq_some_iff.mp h2
    rw [hq] at h1
    obtain ⟨b1, b2⟩ := (mem y k).mp (List.mem_of_getElem? hq)
    obtain ⟨g, K, a1, a2, a3⟩ := W.at_ y k b1 b2
    have hg : hs.getD k 0 = g := by rw [Array.getD_eq_getD_getElem?, ← Array.getElem?_toList, a1]; rfl
    have : g = h := hg.symm.trans (Option.some.inj h1)
    subst this
    refine ⟨K, a2, fun c hc => ?_⟩
    show L2.way M g c ∈ (liveOf M owner).map (·.1)
    cases z : oAt owner (L2.way M g c) with
    | none => exact absurd z (a3 c hc)
    | some k2 => exact List.mem_map.mpr ⟨(_, k2), (mem _ _).mpr ⟨way_in M g c, z⟩, rfl⟩
/-! one probe -/
abbrev stp (m : Nat) (h : Int) (c : Nat) : SetTable.Probe := nth m (runAt m (SetTable.bits h % (m + 1)) (SetTable.bits h)) c
theorem stp_dummy (m : Nat) (h : Int) : ∀ c, (stp m h c).dummy = none
  | 0 => rfl
  | c + 1 => by
    show (nth m _ (c + 1)).dummy = none
    rw [nth_succ]
    unfold adv
    split <;> exact stp_dummy m h c
theorem stp_add (m : Nat) (h : Int) (c q : Nat) : nth m (stp m h c) q = stp m h (c + q) := (nth_add m c _ q).symm
theorem TabG.probe {t : SetTable} {hs : List Int} (T : TabG t hs) {h : Int} {K : Nat} (hKf : K < 10 * SetTable.turns t.mask) (hK : L2.way t.mask h K ∉ t.place.toList) (f : Filled t.mask t.place.toList h K) (hashAt : Nat → Int) {c : Nat} (hc : c ≤ K) :
    (∃ q i, c ≤ q ∧ q < K ∧ t.place.toList[i]? = some (L2.way t.mask h q) ∧ hashAt i = h ∧ (∀ q' i', c ≤ q' → q' < q → t.place.toList[i']? = some (L2.way t.mask h q') → hashAt i' ≠ h) ∧ t.probe hashAt h (stp t.mask h c) = some (.candidate (L2.way t.mask h q) i (stp t.mask h (q + 1)))) ∨
    ((∀ q' i', c ≤ q' → q' < K → t.place.toList[i']? = some (L2.way t.mask h q') → hashAt i' ≠ h) ∧ t.probe hashAt h (stp t.mask h c) = some (.empty (L2.way t.mask h K) none)) := by
  have g := go_spec t T.ris T.dm hashAt h (10 * SetTable.turns t.mask) (K - c) (stp t.mask h c) (stp_dummy _ _ c) (by omega)
    (fun q hq => by rw [stp_add]; exact f (c + q) (by omega)) (by rw [stp_add, show c + (K - c) = K by omega]; exact hK)
  rcases g with ⟨q, i, a1, a2, a3, a4, a5⟩ | ⟨a1, a2⟩
  · refine .inl ⟨c + q, i, by omega, by omega, by rw [stp_add] at a2; exact a2, a3, fun q' i' b1 b2 b3 => a4 (q' - c) i' (by omega) (by rw [stp_add, show c + (q' - c) = q' by omega]; exact b3), ?_⟩
    rw [stp_add, stp_add] at a5
    exact a5
  · refine .inr ⟨fun q' i' b1 b2 b3 => a1 (q' - c) i' (by omega) (by rw [stp_add, show c + (q' - c) = q' by omega]; exact b3), ?_⟩
    rw [stp_add, show c + (K - c) = K by omega] at a2
    exact a2
/-! ### the set on the heap -/
section
variable {P : Program} {w : World} {A : Around} {E : Value → Shared → Prop} {s : Shared}
structure SetG (P : Program) (w : World) (h : Heap) (a : Addr) (L : List (Addr × List Int)) (es : Array (Int × Value)) (ep : Nat) (t : SetTable) : Prop where
  obj : ∃ o, h.get? a = some o ∧ o.ExactSet ∧ o.data = .set es ep t
  rows : es.toList = rowsOf P w L
  tab : TabG t (L.map fun p => thash P w p.2)
  nd : (L.map (·.2)).Nodup
  tups : ∀ p ∈ L, IsT P w h p.2 p.1
  plain : t.plain = true
  led : w.params.followText "set-order" = true ∨ t.led = true
  room : L.length * 5 < t.mask * 3
variable {a : Addr} {L : List (Addr × List Int)} {es : Array (Int × Value)} {ep : Nat} {t : SetTable}
theorem rows_size {es : Array (Int × Value)} (h : es.toList = rowsOf P w L) : es.size = L.length := by
  have := congrArg List.length h
  rw [Array.length_toList] at this
  rw [this]
  exact List.length_map _
theorem rows_at {es : Array (Int × Value)} (h : es.toList = rowsOf P w L) {i : Nat} {p : Addr × List Int} (hp : L[i]? = some p) : es[i]? = some (thash P w p.2, Value.ref p.1) := by
  rw [← Array.getElem?_toList, h]
  show (L.map _)[i]? = _
  rw [List.getElem?_map, hp]
  rfl
theorem tab_fits {t : SetTable} {hs : List Int} (T : TabG t hs) {n : Nat} (hn : n = hs.length) (hl : n ≤ t.mask) : t.fits n = true := by
  have hp : t.place.size = n := by rw [← Array.length_toList, T.len, hn]
  unfold SetTable.fits SetTable.fill
  rw [T.dm, Bool.and_eq_true, beq_iff_eq, decide_eq_true_eq]
  exact ⟨hp, by rw [hp]; exact hl⟩
theorem SetG.fits (R : SetG P w s.heap a L es ep t) : t.fits es.size = true := tab_fits R.tab (by rw [rows_size R.rows, List.length_map]) (by have := rows_size R.rows; have := R.room; omega)
theorem MaskG.odd {m : Nat} (hm : MaskG m) : m % 2 = 1 := by
  rcases hm with rfl | rfl | rfl | rfl | rfl | rfl <;> rfl
theorem SetG.whole (R : SetG P w s.heap a L es ep t) : ¬ t.gaveWay = true := by
  unfold SetTable.gaveWay
  rw [R.tab.mok.odd]
  decide
/-- the search from the c-th step of the way on -/
theorem SetG.seek (R : SetG P w s.heap a L es ep t) {x : Addr} {k : List Int} (hx : IsT P w s.heap k x) (hu : A.units < cLine) {K : Nat} (hKf : K < 10 * SetTable.turns t.mask)
    (hK : L2.way t.mask (thash P w k) K ∉ t.place.toList) (hf : Filled t.mask t.place.toList (thash P w k) K) {Q : SetFound → Shared → Prop}
    (hin : k ∈ L.map (·.2) → Q (.there none) s) (hout : k ∉ L.map (·.2) → Q (.free (L2.way t.mask (thash P w k) K) false) s) :
    ∀ (n c : Nat) (stand : Option SetTable.Probe), stand.getD (t.probeStart (thash P w k)) = stp t.mask (thash P w k) c → c ≤ K → K - c < n →
      (∀ (i : Nat) p, L[i]? = some p → p.2 = k → ∃ q, c ≤ q ∧ q < K ∧ t.place.toList[i]? = some (L2.way t.mask (thash P w k) q)) →
      wpAny (model P w) A (setSearchFrom a (.ref x) (thash P w k) true n stand) Q E s := by
  intro n
  induction n with
  | zero => exact fun c stand _ _ h => absurd h (Nat.not_lt_zero _)
  | succ n ih =>
    intro c stand hst hc hn hto
    obtain ⟨o, ho, _, hd⟩ := R.obj
    rw [setSearchFrom_succ]
    refine wpAny_bind (wpAny_setState_of ho hd R.fits ?_)
    dsimp only
    refine wp_if_neg R.whole ?_
    try refine wpAny_bind (wpAny_pure ?_)
    have hashAt : ∀ {i : Nat} {p}, L[i]? = some p → (fun i => (es[i]?.map (·.1)).getD 0) i = thash P w p.2 := fun {i p} hp => by
      show (es[i]?.map (·.1)).getD 0 = _
      rw [rows_at R.rows hp]
      rfl
    rw [hst]
    rcases R.tab.probe hKf hK hf (fun i => (es[i]?.map (·.1)).getD 0) hc with ⟨q, i, q1, q2, hi, hh, hno, e⟩ | ⟨hno, e⟩
    · rw [e]
      dsimp only
      obtain ⟨p, hp⟩ : ∃ p, L[i]? = some p := by
        have h1 := (List.getElem?_eq_some_iff.mp hi).1
        rw [R.tab.len, List.length_map] at h1
        exact ⟨_, List.getElem?_eq_getElem h1⟩
      have hm := List.mem_of_getElem? hp
      have onward : wpAny (model P w) A (searchRest a (.ref x) (thash P w k) true n es t (L2.way t.mask (thash P w k) q) i (stp t.mask (thash P w k) (q + 1))) Q E s := by
        unfold searchRest
        rw [rows_at R.rows hp]
        dsimp only
        refine wpAny_bind (wpAny_holding (wpAny_eqBool_tuple hu (R.tups p hm) hx ?_))
        refine wpAny_bind (wpAny_setState_of ho hd R.fits ?_)
        dsimp only
        by_cases ek : p.2 = k
        · refine wp_if_pos (by simp [ek]) ?_
          exact wpAny_pure (hin (List.mem_map.mpr ⟨p, hm, ek⟩))
        · refine wp_if_neg (by simp [ek]) ?_
          try refine wpAny_bind (wpAny_pure ?_)
          rw [sameMem]
          dsimp only
          have hsl : t.slot (L2.way t.mask (thash P w k) q) = .live i := slot_live R.tab.ris hi
          simp only [if_true, hsl, rows_at R.rows hp]
          refine wpAny_bind (wpAny_isSame_ref_self (wpAny_bind (wpAny_pure ?_)))
          simp only [if_true]
          refine wp_if_neg (by simp [ek]) ?_
          refine ih (q + 1) _ rfl (by omega) (by omega) fun i0 p0 h0 e0 => ?_
          obtain ⟨q0, b1, b2, b3⟩ := hto i0 p0 h0 e0
          refine ⟨q0, Nat.lt_of_not_le fun z => ?_, b2, b3⟩
          rcases Nat.lt_or_eq_of_le z with z | z
          · exact hno q0 i0 b1 z b3 ((hashAt h0).trans (by rw [e0]))
          · subst z
            have e1 := slot_live R.tab.ris b3
            rw [hsl] at e1
            injection e1 with e1
            subst e1
            rw [hp] at h0
            cases h0
            exact ek e0
      by_cases hl : t.led = true
      · refine wp_if_neg (by simp [hl]) ?_
        try refine wpAny_bind (wpAny_pure ?_)
        exact onward
      · refine wp_if_pos (by simp [hl]) ?_
        refine wpAny_bind (seen_tup hx (fun y hy => ?_) ?_)
        · obtain ⟨e1, he, rfl⟩ := List.mem_map.mp hy
          have he2 : e1 ∈ es.toList := by
            have : e1 ∈ es ∧ e1.1 = thash P w k := by simpa using he
            simpa using this.1
          rw [R.rows] at he2
          obtain ⟨p2, hp2, rfl⟩ := List.mem_map.mp he2
          exact ⟨p2.2, p2.1, rfl, R.tups p2 hp2⟩
        · refine wp_if_neg (by decide) ?_
          try refine wpAny_bind (wpAny_pure ?_)
          exact onward
    · rw [e]
      dsimp only
      refine wpAny_pure (hout fun hm => ?_)
      obtain ⟨p0, h0, e0⟩ := List.mem_map.mp hm
      obtain ⟨i0, hi0⟩ := List.getElem?_of_mem h0
      obtain ⟨q0, b1, b2, b3⟩ := hto i0 p0 hi0 e0
      exact hno q0 i0 b1 b2 b3 ((hashAt hi0).trans (by rw [e0]))
theorem MaskG.turns {m : Nat} (hm : MaskG m) : 10 * SetTable.turns m < 100000 := by
  rcases hm with rfl | rfl | rfl | rfl | rfl | rfl <;> decide
theorem SetG.search (R : SetG P w s.heap a L es ep t) {x : Addr} {k : List Int} (hx : IsT P w s.heap k x) (hu : A.units < cLine) {Q : SetFound → Shared → Prop}
    (hin : k ∈ L.map (·.2) → Q (.there none) s)
    (hout : ∀ K, k ∉ L.map (·.2) → L2.way t.mask (thash P w k) K ∉ t.place.toList → Filled t.mask t.place.toList (thash P w k) K → Q (.free (L2.way t.mask (thash P w k) K) false) s) :
    wpAny (model P w) A (setSearch a (.ref x) (thash P w k) true) Q E s := by
  have hroom := R.room
  obtain ⟨K, hKf, hK, hf⟩ := R.tab.gap (by rw [List.length_map]; omega) (thash P w k)
  have hb := R.tab.mok.turns
  unfold setSearch
  refine R.seek hx hu hKf hK hf hin (fun z => hout K z hK hf) 100000 0 none rfl (Nat.zero_le _) (by omega) fun i p hp e => ?_
  have hi : (L.map fun p => thash P w p.2)[i]? = some (thash P w k) := by rw [List.getElem?_map, hp, ← e]; rfl
  have hil : i < t.place.toList.length := by
    rw [R.tab.len]
    exact (List.getElem?_eq_some_iff.mp hi).1
  obtain ⟨q, hq, e2⟩ := R.tab.ahead hK hi (List.getElem?_eq_getElem hil)
  exact ⟨q, Nat.zero_le _, hq, by rw [List.getElem?_eq_getElem hil, e2]⟩
end
end G

set_option maxHeartbeats 4000000
namespace G
open PySem PySem.Spec PyProof.Rows L2

/-! ### sets of int tuples: adding -/
theorem grow5 : SetTable.sizeAbove (SetTable.grown 5) = 32 := by decide +kernel
theorem grow19 : SetTable.sizeAbove (SetTable.grown 19) = 128 := by decide +kernel
theorem grow77 : SetTable.sizeAbove (SetTable.grown 77) = 512 := by decide +kernel
theorem grow307 : SetTable.sizeAbove (SetTable.grown 307) = 2048 := by decide +kernel
theorem grow1229 : SetTable.sizeAbove (SetTable.grown 1229) = 8192 := by decide +kernel
/-- as many as a set may get here -/
abbrev manyS : Nat := 4000
/-- what the table becomes when it is too full -/
theorem grow_of {m n : Nat} (hm : MaskG m) (h1 : n * 5 < m * 3) (h2 : m * 3 ≤ (n + 1) * 5) (h3 : n < manyS) : ∃ M, SetTable.sizeAbove (SetTable.grown (n + 1)) = M + 1 ∧ MaskG M ∧ M ≤ 8191 ∧ (n + 1) * 5 < M * 3 := by
  unfold manyS at h3
  rcases hm with rfl | rfl | rfl | rfl | rfl | rfl
  · obtain rfl : n = 4 := by omega
    exact ⟨31, grow5, .inr (.inl rfl), by omega, by omega⟩
  · obtain rfl : n = 18 := by omega
    exact ⟨127, grow19, .inr (.inr (.inl rfl)), by omega, by omega⟩
  · obtain rfl : n = 76 := by omega
    exact ⟨511, grow77, .inr (.inr (.inr (.inl rfl))), by omega, by omega⟩
  · obtain rfl : n = 306 := by omega
    exact ⟨2047, grow307, .inr (.inr (.inr (.inr (.inl rfl)))), by omega, by omega⟩
  · obtain rfl : n = 1228 := by omega
    exact ⟨8191, grow1229, .inr (.inr (.inr (.inr (.inr rfl)))), by omega, by omega⟩
  · omega
section
variable {P : Program} {w : World} {A : Around} {E : Value → Shared → Prop} {s : Shared}
variable {a : Addr} {L : List (Addr × List Int)} {es : Array (Int × Value)} {ep : Nat} {t : SetTable}
theorem relayG {o : Obj} (ho : s.heap.get? a = some o) (hex : o.ExactSet) (hd : o.data = .set es ep t) (hrows : es.toList = rowsOf P w L) (T : TabG t (L.map fun p => thash P w p.2)) (hfl : L.length ≤ t.mask)
    (nd : (L.map (·.2)).Nodup) (tups : ∀ p ∈ L, IsT P w s.heap p.2 p.1) (pl : t.plain = true) (ld : w.params.followText "set-order" = true ∨ t.led = true) {wanted M : Nat}
    (hw : SetTable.sizeAbove wanted = M + 1) (hM : MaskG M) (hM2 : M ≤ 8191) (hn : L.length * 5 < M * 3) {Q : Unit → Shared → Prop}
    (hQ : ∀ h' L' es' ep' t', Heap.SameBut a s.heap h' → SetG P w h' a L' es' ep' t' → L'.Perm L → Q () { s with heap := h' }) : wpAny (model P w) A (setRelay a wanted) Q E s := by
  have hsz := rows_size hrows
  obtain ⟨t', order, e, hp, T', em, el, epl⟩ := hM.relaid t (hs := es.map (·.1)) (wanted := wanted) (by omega) (by rw [Array.size_map]; omega)
  rw [Array.size_map, hsz] at hp
  obtain ⟨L2, r1, r2, r3⟩ := order_rows L es order hrows hp
  rw [← r3] at T'
  have hs2 := rows_size r1
  have hl2 := r2.length_eq
  rw [setRelay_eq]
  refine wpAny_bind (wpAny_setState_of ho hd (tab_fits T (by rw [hsz, List.length_map]) (by omega)) ?_)
  dsimp only
  refine wp_if_neg (by rw [hw, sizeLine_eq]; omega) ?_
  try refine wpAny_bind (wpAny_pure ?_)
  rw [e]
  dsimp only
  refine wpAny_bind ?_
  refine wp_if_neg (by rw [hs2, hl2, hsz]; simp) ?_
  try refine wpAny_bind (wpAny_pure ?_)
  refine wpAny_pure ?_
  dsimp only
  refine wpAny_storeSet_of ho hd ?_ (by rw [hs2, hl2, sizeLine_eq]; omega)
  have sb : Heap.SameBut a s.heap (s.heap.update a (Obj.putSet (order.filterMap (es[·]?)) t')) := Heap.SameBut.update ..
  refine hQ _ L2 _ (ep + 1) t' sb ⟨⟨_, store_at ho hd, ⟨hex.1, hex.2.1, hex.2.2⟩, rfl⟩, r1, T', (r2.map (·.2)).nodup_iff.mpr nd, fun p hpm => isT_same (tups p (r2.mem_iff.mp hpm)) ho hd sb, epl.trans pl, ?_, by rw [hl2, em]; exact hn⟩ r2
  rw [el]
  exact ld
theorem SetG.add (R : SetG P w s.heap a L es ep t) {x : Addr} {k : List Int} (hx : IsT P w s.heap k x) (hu : A.units < cLine) (hfew : L.length < manyS) {Q : Bool → Shared → Prop}
    (hQ : ∀ b h' L' es' ep' t', Heap.SameBut a s.heap h' → SetG P w h' a L' es' ep' t' → (k ∈ L.map (·.2) → L' = L) → (k ∉ L.map (·.2) → L'.Perm ((x, k) :: L)) → Q b { s with heap := h' }) :
    wpAny (model P w) A (setAddHashed a (.ref x) (thash P w k)) Q E s := by
  obtain ⟨o, ho, hex, hd⟩ := R.obj
  have hsz := rows_size R.rows
  have hroom := R.room
  unfold setAddHashed
  refine wpAny_holding ?_
  rw [show (100000 : Nat) = 99999 + 1 from rfl, setAddHashedIn_succ]
  refine wpAny_bind (wpAny_setState_of ho hd R.fits ?_)
  dsimp only
  refine wp_if_neg (by simp [byScan, Value.scannable]) ?_
  try refine wpAny_bind (wpAny_pure ?_)
  refine wpAny_bind (R.search hx hu (fun hm => ?_) fun K hm hK hf => ?_)
  · dsimp only
    exact wpAny_pure (hQ false s.heap L es ep t (Heap.SameBut.refl a s.heap) R (fun _ => rfl) fun z => absurd hm z)
  dsimp only
  refine wpAny_bind (wpAny_setState_of ho hd R.fits ?_)
  dsimp only
  obtain ⟨p, hp⟩ : ∃ p, p = SetTable.below t.place (L2.way t.mask (thash P w k) K) := ⟨_, rfl⟩
  obtain ⟨_, T1, hfill⟩ := R.tab.add hK hf p hp
  have m1 : (t.put (L2.way t.mask (thash P w k) K)).1.mask = t.mask := rfl
  have d1 : (t.put (L2.way t.mask (thash P w k) K)).1.led = t.led := rfl
  have p1 : (t.put (L2.way t.mask (thash P w k) K)).1.plain = true := R.plain
  have e2 : (t.put (L2.way t.mask (thash P w k) K)).2 = p := hp.symm
  generalize t.put (L2.way t.mask (thash P w k) K) = pt at T1 hfill m1 d1 p1 e2 ⊢
  obtain ⟨t1, p0⟩ := pt
  dsimp only at T1 hfill m1 d1 p1 e2 ⊢
  subst e2
  have pm := put_perm L p0 (x, k)
  have hr1 : (SetTable.insertAt es p0 (thash P w k, Value.ref x)).toList = rowsOf P w (L.take p0 ++ (x, k) :: L.drop p0) := by rw [SetTable.toList_insertAt, rows_put, R.rows]
  have hT1 : (L.map fun p => thash P w p.2).take p0 ++ thash P w k :: (L.map fun p => thash P w p.2).drop p0 = (L.take p0 ++ (x, k) :: L.drop p0).map fun p => thash P w p.2 := by
    rw [List.map_append, List.map_cons, List.map_take, List.map_drop]
  rw [hT1] at T1
  rw [List.length_map] at hfill
  generalize SetTable.insertAt es p0 (thash P w k, Value.ref x) = es1 at hr1 ⊢
  generalize L.take p0 ++ (x, k) :: L.drop p0 = L1 at pm T1 hr1
  have hl1 : L1.length = L.length + 1 := pm.length_eq
  have hs1 := rows_size hr1
  have nd1 : (L1.map (·.2)).Nodup := (pm.map (·.2)).nodup_iff.mpr (List.nodup_cons.mpr ⟨hm, R.nd⟩)
  first
    | (refine wpAny_bind ?_; refine wp_if_pos p1 ?_; refine hashBy_tup hx ?_)
    | refine wp_if_pos p1 (wpAny_bind (hashBy_tup hx ?_))
  simp only [if_true]
  refine wpAny_bind (wpAny_storeSet_of ho hd ?_ (by rw [hs1, hl1, sizeLine_eq]; unfold manyS at hfew; omega))
  have sb : Heap.SameBut a s.heap (s.heap.update a (Obj.putSet es1 t1)) := Heap.SameBut.update ..
  have ho1 := store_at (es' := es1) (t' := t1) ho hd
  generalize s.heap.update a (Obj.putSet es1 t1) = h1 at sb ho1 ⊢
  have tups1 : ∀ q ∈ L1, IsT P w h1 q.2 q.1 := fun q hq => by
    rcases List.mem_cons.mp (pm.mem_iff.mp hq) with rfl | z
    · exact isT_same hx ho hd sb
    · exact isT_same (R.tups q z) ho hd sb
  have ld1 : w.params.followText "set-order" = true ∨ t1.led = true := by rw [d1]; exact R.led
  by_cases hfull : t1.tooFull = true
  · first
      | (refine wpAny_bind ?_; refine wp_if_pos (by simp [hfull]) ?_)
      | (refine wp_if_pos (by simp [hfull]) ?_; refine wpAny_bind ?_)
    have h2 := hfull
    unfold SetTable.tooFull at h2
    rw [decide_eq_true_eq, hfill, m1] at h2
    obtain ⟨M, g1, g2, g3, g4⟩ := grow_of R.tab.mok hroom h2 hfew
    rw [hsz]
    refine relayG (s := { s with heap := h1 }) ho1 ⟨hex.1, hex.2.1, hex.2.2⟩ rfl hr1 T1 (by rw [hl1, m1]; rcases R.tab.mok with e | e | e | e | e | e <;> omega) nd1 tups1 p1 ld1 g1 g2 g3 (by rw [hl1]; exact g4) fun h2 L2 es2 ep2 t2 sb2 R2 pm2 => ?_
    exact wpAny_pure (hQ true h2 L2 es2 ep2 t2 (sb.trans sb2) R2 (fun z => absurd z hm) fun _ => pm2.trans pm)
  · first
      | refine wp_if_neg (by simp [hfull]) ?_
      | (refine wpAny_bind ?_; refine wp_if_neg (by simp [hfull]) ?_; refine wpAny_pure ?_)
    have h2 := hfull
    unfold SetTable.tooFull at h2
    rw [decide_eq_true_eq, hfill, m1] at h2
    exact wpAny_pure (hQ true h1 L1 es1 (ep + 1) t1 sb ⟨⟨_, ho1, ⟨hex.1, hex.2.1, hex.2.2⟩, rfl⟩, hr1, T1, nd1, tups1, p1, ld1, by rw [hl1, m1]; omega⟩ (fun z => absurd z hm) fun _ => pm)
end
end G

set_option maxHeartbeats 4000000
namespace G
open PySem PySem.Spec PyProof.Rows L2

/-! ### set(list of int tuples), up to 4000 of them; sorted of it -/
section
variable {P : Program} {w : World} {A : Around} {E : Value → Shared → Prop} {s : Shared}
theorem SetG.keep {h h' : Heap} {a : Addr} {L : List (Addr × List Int)} {es : Array (Int × Value)} {ep : Nat} {t : SetTable} (R : SetG P w h a L es ep t) (ha : ∀ o, h.get? a = some o → h'.get? a = some o) (ht : ∀ p ∈ L, IsT P w h' p.2 p.1) : SetG P w h' a L es ep t :=
  let ⟨o, ho, r⟩ := R.obj
  ⟨⟨o, ha o ho, r⟩, R.rows, R.tab, R.nd, ht, R.plain, R.led, R.room⟩
theorem SetG.new {h : Heap} {a : Addr} (ho : h.get? a = some (set0 w)) : SetG P w h a [] #[] 0 (.fresh 0 0 (!w.params.followText "set-order")) where
  obj := ⟨_, ho, ⟨rfl, rfl, rfl⟩, rfl⟩
  rows := rfl
  tab := ⟨.inl rfl, List.Pairwise.nil, rfl, rfl, fun i h j hi => by simp at hi⟩
  nd := List.nodup_nil
  tups := fun p hp => by cases hp
  plain := rfl
  led := by
    show _ ∨ (!w.params.followText "set-order") = true
    cases w.params.followText "set-order"
    · exact .inr rfl
    · exact .inl rfl
  room := by
    show 0 * 5 < 7 * 3
    decide
/-- the loop that fills the set -/
theorem fillG {I : Addr} {fp wr : List Addr} {G : Array GenState → Array GenState → Prop} {n : Nat} {Pv : Nat → Value → Prop} {St : Nat → Shared → Prop} {R : Result → Shared → Prop}
    (W : WalksS P w A.in1 I fp wr G n Pv St) (S : Addr) (hSf : S ∉ fp) (ks : List (Addr × List Int)) (hn : n = ks.length) (hfew : ks.length ≤ manyS) (hval : ∀ i v, Pv i v → ∃ p, ks[i]? = some p ∧ v = .ref p.1)
    (h0 : Heap) (hk : ∀ p ∈ ks, IsT P w h0 p.2 p.1) (hS0 : h0.get? S = none) (hw0 : ∀ b ∈ wr, h0.get? b = none) (hu : A.in1.units < cLine) :
    ∀ (d i : Nat) (s : Shared), i + d = n → St i s → (∀ b o, h0.get? b = some o → s.heap.get? b = some o) → (∃ L es ep t, SetG P w s.heap S L es ep t ∧ Got ks i L) →
      (∀ s' L es ep t, Moved (S :: wr) G s s' → SetG P w s'.heap S L es ep t → Got ks n L → (∀ b o, h0.get? b = some o → s'.heap.get? b = some o) → R (.ok (.ret .none)) s') →
      codeAny (model P w) A (.builtin "set.update.loop" ⟨[.ref S, .ref I], []⟩) R s := by
  have out : S ∉ wr := fun z => hSf (W.sub _ z)
  have wide : ∀ b ∈ wr, b ∈ S :: wr := fun b hb => List.mem_cons_of_mem _ hb
  have old : ∀ {s s' : Shared}, Moved wr G s s' → (∀ b o, h0.get? b = some o → s.heap.get? b = some o) → ∀ b o, h0.get? b = some o → s'.heap.get? b = some o := fun m k b o e =>
    m.heap b o (fun z => by rw [hw0 b z] at e; cases e) (k b o e)
  have stay : ∀ {s s' : Shared} {L es ep t i}, Moved wr G s s' → SetG P w s.heap S L es ep t → Got ks i L → (∀ b o, h0.get? b = some o → s'.heap.get? b = some o) → SetG P w s'.heap S L es ep t := fun m R g k =>
    R.keep (fun o e => m.heap S o out e) fun p hp => isT_keep (hk p (List.mem_of_mem_take (g.sub p hp))) k
  intro d
  induction d with
  | zero =>
    rintro i s rfl hst hkp ⟨L, es, ep, t, hS, g⟩ hR
    refine codeAny_builtin F.entry_set_update_loop ?_
    rw [Around.under_plainId F.plain_set_update_loop _]
    show wpAny _ A.in1 (pyNext (.ref I) >>= _) _ _ s
    refine wpAny_bind (W.done s _ _ hst fun s' m => ?_)
    have k := old m hkp
    exact wpAny_pure (hR s' L es ep t (m.mono wide) (stay m hS g k) g k)
  | succ d ih =>
    intro i s hi hst hkp hset hR
    obtain ⟨L, es, ep, t, hS, g⟩ := hset
    have hlt : i < n := by omega
    refine codeAny_builtin F.entry_set_update_loop ?_
    rw [Around.under_plainId F.plain_set_update_loop _]
    show wpAny _ A.in1 (pyNext (.ref I) >>= _) _ _ s
    refine wpAny_bind (W.item i s _ _ hlt hst fun v s' pv hst' m => ?_)
    obtain ⟨p, hp, rfl⟩ := hval i v pv
    have k := old m hkp
    have hx : IsT P w s'.heap p.2 p.1 := isT_keep (hk p (List.mem_of_getElem? hp)) k
    show wpAny _ A.in1 (holding [Value.ref p.1] (setAdd S (.ref p.1)) >>= _) _ _ s'
    refine wpAny_bind (wpAny_holding ?_)
    unfold setAdd
    refine wpAny_holding ?_
    refine wpAny_bind (wpAny_pyHash_tuple hu hx ?_)
    refine (stay m hS g k).add (s := { s' with toks := s'.toks + (p.2.length + 1) }) hx hu (by have := g.len; omega) fun b h1 L1 es1 ep1 t1 sb hS1 c1 c2 => ?_
    have g1 : Got ks (i + 1) L1 := by
      by_cases c : p.2 ∈ L.map (·.2)
      · rw [c1 c]
        exact g.same hp c
      · exact g.more hp (c2 c)
    have k1 : ∀ b o, h0.get? b = some o → h1.get? b = some o := fun b o e => (sb.2 b fun z => by rw [z, hS0] at e; cases e).trans (k b o e)
    refine wpAny_pure ⟨plainId_quiet F.plain_set_update_loop _, ih (i + 1) _ (by omega) (W.frame _ s' _ _ hst' (Nat.le_add_right _ _) fun b hb o e => ?_) k1 ⟨L1, es1, ep1, t1, hS1, g1⟩ fun s2 L2 es2 ep2 t2 m2 hS2 g2 k2 => ?_⟩
    · rw [sb.2 b fun z : b = S => hSf (z ▸ hb)]
      exact e
    · refine hR s2 L2 es2 ep2 t2 (Moved.trans W.gtrans ((m.mono wide).then_heap (Nat.le_add_right _ _) fun b o hb e => ?_) m2) hS2 g2 k2
      rw [sb.2 b fun z : b = S => hb (z ▸ List.mem_cons_self)]
      exact e
/-- set(xs) of int tuples -/
theorem set_listG {l : Addr} {items : Array Value} (ks : List (Addr × List Int)) {Q : Value → Shared → Prop} (hh : A.handled = none) (hl : s.heap.IsList l items) (hit : items.toList = ks.map fun p => Value.ref p.1)
    (hk : ∀ p ∈ ks, IsT P w s.heap p.2 p.1) (hfew : ks.length ≤ manyS) (hu : A.units + 10 < cLine)
    (h : ∀ (h' : Heap) (tk : Nat) L es ep t, SetG P w h' s.heap.objs.size L es ep t → Got ks ks.length L → (∀ b o, s.heap.get? b = some o → h'.get? b = some o) → Q (.ref s.heap.objs.size) { s with heap := h', toks := tk }) :
    wpAny (model P w) A (call (.type "set") [.ref l]) Q E s := by
  have hisz : items.size = ks.length := by
    have q := congrArg List.length hit
    rw [Array.length_toList, List.length_map] at q
    exact q
  have hlS : l < s.heap.objs.size := by
    obtain ⟨ol, hol, _⟩ := hl
    exact Heap.lt_size hol
  have hz : (s.heap.push (set0 w)).objs.size = s.heap.objs.size + 1 := Heap.size_push ..
  have hS : (s.heap.push (set0 w)).get? s.heap.objs.size = some (set0 w) := Heap.get?_push_size _ rfl
  have hl1 : (s.heap.push (set0 w)).IsList l items := hl.push _
  have hh3 : A.in1.in1.in1.handled = none := by simp [hh]
  have none_of : ∀ b, s.heap.objs.size ≤ b → s.heap.get? b = none := fun b hb => by
    cases q : s.heap.get? b with
    | none => rfl
    | some o => exact absurd (Nat.lt_of_lt_of_le (Heap.lt_size q) hb) (Nat.lt_irrefl _)
  have hun : A.in1.in1.in1.units < cLine := by
    show A.units + 1 + 1 + 1 < cLine
    omega
  refine set_shell (R := fun h' tk => ∃ L es ep t, SetG P w h' s.heap.objs.size L es ep t ∧ Got ks ks.length L ∧ ∀ b o, s.heap.get? b = some o → h'.get? b = some o) hl ?_ fun h' tk ⟨L, es, ep, t, k1, k2, k3⟩ => h h' tk L es ep t k1 k2 k3
  refine fillG ((Walks.list hh3 _ l (by rw [hz]; exact Nat.ne_of_lt (Nat.lt_succ_of_lt hlS)) items).toS) s.heap.objs.size ?_ ks hisz hfew (fun i v hv => ?_) s.heap hk (none_of _ (Nat.le_refl _)) (fun b hb => none_of b ?_) hun items.size 0 _ (Nat.zero_add _) ⟨⟨_, Heap.get?_push_size _ rfl, rfl, rfl⟩, hl1.push _⟩ (fun b o e => Heap.get?_push_of_some _ (Heap.get?_push_of_some _ e)) ⟨[], #[], 0, _, SetG.new (Heap.get?_push_of_some _ hS), Got.zero ks⟩ fun s' L es ep t hm hS' g k => ?_
  · rw [hz]
    simp only [List.mem_cons, List.not_mem_nil, or_false, not_or]
    exact ⟨Nat.ne_of_lt (Nat.lt_succ_self _), Nat.ne_of_gt hlS⟩
  · have q : items.toList[i]? = some v := by rw [Array.getElem?_toList]; exact hv
    rw [hit, List.getElem?_map] at q
    obtain ⟨p, hp, e⟩ := Option.map_eq_some_iff.mp q
    exact ⟨p, hp, e.symm⟩
  · have hb' := hb
    simp only [List.mem_cons, List.not_mem_nil, or_false] at hb'
    rw [hb', hz]
    exact Nat.le_succ _
  · obtain ⟨h', g2, d', tk', os'⟩ := s'
    have eg : g2 = s.gens := hm.gens
    have ed : d' = s.drawn := hm.drawn
    have eo : os' = s.os := hm.os
    subst eg; subst ed; subst eo
    rw [hisz] at g
    exact ⟨rfl, h', tk', rfl, L, es, ep, t, hS', g, k⟩
end
end G

set_option maxHeartbeats 4000000
namespace G
open PySem PySem.Spec PyProof.Rows L2

/-! ### sorted(set(xs)) of up to 4000 int tuples -/
section
variable {P : Program} {w : World} {A : Around} {E : Value → Shared → Prop} {s : Shared}
theorem sorted_setG {a : Addr} {L : List (Addr × List Int)} {es : Array (Int × Value)} {ep : Nat} {t : SetTable} {Q : Value → Shared → Prop} (R : SetG P w s.heap a L es ep t) (hfew : L.length ≤ manyS) (hh : A.handled = none) (hne : ∀ p ∈ L, p.2 ≠ []) (hu : A.units + 100 < cLine)
    (hQ : ∀ s' p (c : Nat) (L1 : List (Addr × List Int)), (∀ b o, s.heap.get? b = some o → s'.heap.get? b = some o) → s'.gens = s.gens → s'.os = s.os → s.heap.objs.size ≤ p → L1.Perm L →
      s'.heap.get? p = some (seqObj "list" ((L1.mergeSort (PySem.W.dataLe false tupD)).map fun q => Value.ref q.1).toArray c) → Q (.ref p) s') :
    wpAny (model P w) A (call (.builtin "sorted") [.ref a]) Q E s := by
  obtain ⟨o, ho, hex, hd⟩ := R.obj
  have hsz := rows_size R.rows
  refine Calls.call_function_entry PyProof.Rows.kind_sorted PyProof.Rows.plain_sorted PyProof.Rows.entry_sorted (PyProof.Rows.args_sorted1 _) ?_
  unfold Builtin.«sorted»
  refine wpAny_bind (m := checkCount "sorted" 1 1 _) (wpAny_pure ?_)
  refine wpAny_bind (collect_set (A := A.in1) hh ⟨o, ho, hex.1, hd⟩ R.fits (by unfold scanBound; unfold manyS at hfew; omega) R.tab.ris R.led fun s1 vs k1 hz g1 o1 pm => ?_)
  have hes : es.toList.map (·.2) = L.map fun q => Value.ref q.1 := by
    rw [R.rows]
    unfold rowsOf
    rw [List.map_map] <;> rfl
  rw [hes] at pm
  have one : ∀ q ∈ L, ∀ r ∈ L, q.1 = r.1 → q = r := fun q hq r hr e => by
    have a1 := R.tups q hq
    have a2 := R.tups r hr
    rw [e] at a1
    exact Prod.ext e (a1.inj a2)
  obtain ⟨L1, e1, hs1⟩ := refs_row (L := L) (vs := vs) fun v hv => by
    obtain ⟨q, hq, e⟩ := List.mem_map.mp (pm.mem_iff.mp hv)
    exact ⟨q, hq, e.symm⟩
  subst e1
  have p1 : L1.Perm L := row_perm R.nd one hs1 pm
  have hvl : (L1.map fun q => Value.ref q.1).length ≤ sizeLine := by rw [List.length_map, p1.length_eq, sizeLine_eq]; unfold manyS at hfew; omega
  refine wpAny_bind (wpAny_newList ?_ hvl)
  have hoL : (s1.heap.push (seqObj "list" (L1.map fun q => Value.ref q.1).toArray 0)).get? s1.heap.objs.size = some (seqObj "list" (L1.map fun q => Value.ref q.1).toArray 0) := Heap.get?_push_size _ rfl
  have tk : ∀ q ∈ L1, TS.TupInts (s1.heap.push (seqObj "list" (L1.map fun q => Value.ref q.1).toArray 0)) (.ref q.1) q.2 := fun q hq => L2.tupInts_of (P := P) (w := w) (isT_keep (R.tups q (hs1 q hq)) fun b u e => Heap.get?_push_of_some _ (k1 b u e))
  rw [List.length_map] at hvl
  refine wpAny_bind (wpAny_holding (PySem.W.list_sort_data (s := { s1 with heap := s1.heap.push (seqObj "list" (L1.map fun q => Value.ref q.1).toArray 0) }) (bs := L1) (enc := tupD) (R := fun (v : Value) (q : Addr × List Int) => v = .ref q.1) hoL (each_refs L1) (each_readsT tk) alike_tups ?_ hvl (fun q hq => ?_) fun out hlen hout => ?_))
  · refine .inl fun d hd => ?_
    obtain ⟨q, hq, rfl⟩ := List.mem_map.mp hd
    cases e : q.2 with
    | nil => exact absurd e (hne q (hs1 q hq))
    | cons x r => exact ⟨.int x, r.map PyData.int, by unfold tupD; rw [e]; rfl⟩
  · have := depth_ints q.2
    have h1 : A.in1.units = A.units + 1 := rfl
    show A.in1.units + 1 + (PyData.depthAll (q.2.map PyData.int) + 1) < cLine
    omega
  · have eo := refs_each hout
    subst eo
    obtain ⟨c, hc⟩ := PyProof.Rows.sortedHeap_at (vs := L1.map fun q => Value.ref q.1) (out := ((L1.mergeSort (PySem.W.dataLe false tupD)).map fun q => Value.ref q.1).toArray) hoL
    refine wpAny_pure ⟨_, rfl, hQ _ s1.heap.objs.size c L1 (fun b u e => ?_) g1 o1 hz p1 hc⟩
    have q := k1 b u e
    have hlt := Heap.lt_size q
    show (PyProof.Rows.sortedHeap (s1.heap.push (seqObj "list" (L1.map fun q => Value.ref q.1).toArray 0)) s1.heap.objs.size (L1.map fun q => Value.ref q.1) _).get? b = some u
    rw [PyProof.Rows.sortedHeap_old (Nat.ne_of_lt hlt) (by rw [size_push']; exact Nat.lt_succ_of_lt hlt)]
    exact Heap.get?_push_of_some _ q
end
/-- the set at a, but for its tuples -/
def SetG0 (P : Program) (w : World) (h : Heap) (a : Addr) (L : List (Addr × List Int)) : Prop :=
  ∃ (es : Array (Int × Value)) (ep : Nat) (t : SetTable), (∃ o, h.get? a = some o ∧ o.ExactSet ∧ o.data = .set es ep t) ∧ es.toList = rowsOf P w L ∧ TabG t (L.map fun p => thash P w p.2) ∧ (L.map (·.2)).Nodup ∧ t.plain = true ∧
    (w.params.followText "set-order" = true ∨ t.led = true) ∧ L.length * 5 < t.mask * 3 ∧ L.length ≤ manyS
def setGO (P : Program) (w : World) (a : Addr) (L : List (Addr × List Int)) : HO := .ext fun h => SetG0 P w h a L
theorem setGO_ok {P : Program} {w : World} {H : Hp} {h : Heap} {a : Addr} {L : List (Addr × List Int)} {es : Array (Int × Value)} {ep : Nat} {t : SetTable} (R : SetG P w h a L es ep t) (hf : L.length ≤ manyS) : ObjOk P w H h a (setGO P w a L) :=
  have ⟨o, ho, _⟩ := R.obj
  ⟨⟨es, ep, t, R.obj, R.rows, R.tab, R.nd, R.plain, R.led, R.room, hf⟩, ⟨o, ho⟩, fun h1 h2 p k =>
    have ⟨es', ep', t', ⟨o', ho', r'⟩, q'⟩ := p
    ⟨es', ep', t', ⟨o', k o' ho', r'⟩, q'⟩⟩
section
variable {X : Cx} {E : EW} {pos : Pos}
def rSetG (K : PySem.W.Frag) (P : Program) (w : World) : List V → Hp → VK → Prop := fun xs H Q => ∃ (l : Addr) (ks : List (Addr × List Int)), xs = [V.ref l] ∧ SqL K H l (ks.map fun p => V.ref p.1) ∧ (∀ p ∈ ks, SqT K H p.1 (p.2.map V.int)) ∧ ks.length ≤ manyS ∧
  ∀ a L, H a = none → (∀ p ∈ L, p ∈ ks) → (∀ p ∈ ks, p.2 ∈ L.map (·.2)) → Q (.ref a) (upd H a (setGO P w a L))
theorem cr_setG (hc : X.calm = true) (hu : X.A.units + 64 < cLine) : CallR X (.type "set") (rSetG X.K X.prog X.w) := by
  intro pins s σ H xs us Q I r h
  obtain ⟨l, ks, rfl, hl, hk, hf, q⟩ := h
  rw [Vals.ref1 r]
  obtain ⟨its, rv, pl, hz⟩ := I.list hl
  have hn : H s.heap.objs.size = none := I.hok.fresh (Nat.le_refl _)
  refine set_listG (P := X.prog) (w := X.w) ks (I.ok.hd hc) pl.isList (by simpa using refs_of_vals rv) (fun p hp => I.isT (hk p hp)) hf (by omega) fun h' tk L es ep t R g k => ?_
  refine ⟨.ref s.heap.objs.size, upd H s.heap.objs.size (setGO X.prog X.w s.heap.objs.size L), I.laid (t' := tk) k (Nat.le_refl _) (setGO_ok R (Nat.le_trans g.len hf)), rfl, q _ L hn (fun p hp => ?_) fun p hp => ?_⟩
  · exact List.mem_of_mem_take (g.sub p hp)
  · exact g.all p (by rw [List.take_length]; exact hp)
def rSortedG (K : PySem.W.Frag) (P : Program) (w : World) : List V → Hp → VK → Prop := fun vs H Q => ∃ (a : Addr) (L : List (Addr × List Int)), vs = [V.ref a] ∧ H a = some (setGO P w a L) ∧ (∀ p ∈ L, SqT K H p.1 (p.2.map V.int)) ∧ (∀ p ∈ L, p.2 ≠ []) ∧
  ∀ (L1 : List (Addr × List Int)) (p : Addr), L1.Perm L → (L.map (·.2)).Nodup → H p = none → Q (.ref p) (upd H p (.lst ((L1.mergeSort (PySem.W.dataLe false tupD)).map fun q => V.ref q.1)))
theorem cr_sortedG (hc : X.calm = true) (hu : X.A.units + 200 < cLine) : CallR X (.builtin "sorted") (rSortedG X.K X.prog X.w) := by
  intro pins s σ H vs us Q I r h
  obtain ⟨a, L, rfl, ha, hk, hne, q⟩ := h
  obtain ⟨es, ep, t, h1, h2, h3, h4, h5, h6, h7, hf⟩ : SetG0 X.prog X.w s.heap a L := (I.hok a _ ha).1
  have R : SetG X.prog X.w s.heap a L es ep t := ⟨h1, h2, h3, h4, fun p hp => I.isT (hk p hp), h5, h6, h7⟩
  rw [Vals.ref1 r]
  refine sorted_setG R hf (I.ok.hd hc) hne (by omega) fun s' p c L1 k g o hp pm hg => ?_
  have hlen : ((L1.mergeSort (PySem.W.dataLe false tupD)).map fun q => V.ref q.1).length ≤ sizeLine := by rw [List.length_map, (List.mergeSort_perm _ _).length_eq, pm.length_eq, sizeLine_eq]; unfold manyS at hf; omega
  have hn : H p = none := I.hok.fresh hp
  have hv : Vals ((L1.mergeSort (PySem.W.dataLe false tupD)).map fun q => V.ref q.1) ((L1.mergeSort (PySem.W.dataLe false tupD)).map fun q => Value.ref q.1) := vals_of_refs _
  have J : Inv X pins σ (upd H p (.lst ((L1.mergeSort (PySem.W.dataLe false tupD)).map fun q => V.ref q.1))) { s with heap := s'.heap, gens := s'.gens, drawn := s'.drawn, toks := s'.toks } :=
    I.call (ch := []) (Un.laid k hp hn) (I.hok.laid k hp ⟨hlen, _, c, hv, hg⟩) (by rw [g]; exact I.bare) (fun _ z => nomatch z)
  have e : s' = { s with heap := s'.heap, gens := s'.gens, drawn := s'.drawn, toks := s'.toks } := by
    cases s'
    cases s
    cases o
    rfl
  rw [e]
  exact ⟨.ref p, _, J, rfl, q L1 p pm R.nd hn⟩
def dSSG (x : D) : Option D := (dItL x).bind fun ds => (keysOf ds).bind fun ks => if ks.length ≤ manyS ∧ (ks.all fun k => !k.isEmpty) = true then some (.lst ((sortK ks).map tupK)) else none
theorem xn_sortedSetG {e : Expr} {te : XV} {p p2 pos2 : Pos} (hc : X.calm = true) (hu : X.A.units + 200 < cLine) (hg : Gl X "sorted") (hm : X.mg "sorted" = none) (hg2 : Gl X "set") (hm2 : X.mg "set" = none) (he : PE X e (lE X.K E te))
    (s1 : starEach [e] X.env = (false, eval e X.env) :: starEach [] X.env := by rfl) (s2 : starEach [.Call (.Name "set" p2) [e] [] pos2] X.env = (false, eval (.Call (.Name "set" p2) [e] [] pos2) X.env) :: starEach [] X.env := by rfl)
    (b1 : (backTo pos2 (starEach [] X.env)).any (·.1) = false := by rfl) (b2 : (backTo pos (starEach [] X.env)).any (·.1) = false := by rfl) :
    PE X (.Call (.Name "sorted" p) [.Call (.Name "set" p2) [e] [] pos2] [] pos) (lN X.K E (xOp1 dSSG te)) := by
  refine pe_imp (pe_callB (cr_sortedG hc hu) hg hm bt_sorted (pa_cons (pe_callTy (cr_setG hc (by omega)) hg2 hm2 bt_set (pa_cons he pa_nil s1) (he := s1) (hpl := b1)) pa_nil s2) (he := s2) (hpl := b2)) fun σ H Q h => ?_
  obtain ⟨F, ρ, r, p⟩ := h
  refine ⟨F, ρ, r, (Pend.bind r p).mono fun x ρ1 F1 H1 g1 q v rv => ?_⟩
  obtain ⟨d, ed, q2⟩ := q.lift
  have o := outN_of r g1 q2
  unfold dSSG at ed
  cases q5 : dItL x with
  | none => rw [q5] at ed; cases ed
  | some ds =>
    rw [q5] at ed
    simp only [Option.bind_some] at ed
    cases q6 : keysOf ds with
    | none => rw [q6] at ed; cases ed
    | some ks =>
      rw [q6] at ed
      simp only [Option.bind_some] at ed
      split at ed
      · rename_i hz
        cases ed
        obtain ⟨l, xs, rfl, hs, rs⟩ := dItL_of q5 rv
        obtain ⟨M, rfl, em, hM⟩ := rows_of rs q6
        have ex := g1.rel.ex
        refine ⟨l, M, rfl, ex.seq hs, fun p hp => SqT.of (ex _ _ (hM p hp)), by rw [← List.length_map (f := (·.2)), em]; exact hz.1, fun a L ha hsub hcov => ?_⟩
        have hL : ∀ p ∈ L, F1 p.1 = some (.tup (p.2.map V.int)) := fun p hp => hM p (hsub p hp)
        have nea : ∀ b u, H1 b = some u → b ≠ a := fun b u h e => by subst e; rw [ha] at h; cases h
        refine ⟨a, L, rfl, upd_same, fun p hp => SqT.of (by rw [upd_ne (nea _ _ (ex _ _ (hL p hp)))]; exact ex _ _ (hL p hp)), fun p hp e => ?_, fun L1 b pm nd hb => ?_⟩
        · have := List.all_eq_true.mp hz.2 p.2 (by rw [← em]; exact List.mem_map.mpr ⟨p, hsub p hp, rfl⟩)
          rw [e] at this
          cases this
        · have hba : b ≠ a := fun e => by subst e; rw [upd_same] at hb; cases hb
          rw [upd_ne hba] at hb
          have hF : F1 b = none := ex.free hb
          have keep : ∀ c u, H1 c = some u → upd (upd H1 a (setGO X.prog X.w a L)) b (.lst ((L1.mergeSort (PySem.W.dataLe false tupD)).map fun q => V.ref q.1)) c = some u := fun c u hcu => by
            rw [upd_ne (ne_of_none hcu hb), upd_ne (nea c u hcu)]
            exact hcu
          refine o b (.lst ((L1.mergeSort (PySem.W.dataLe false tupD)).map fun q => V.ref q.1)) F1 _ ⟨Same.refl F1, keep, fun c u h => keep c u (ex c u h), fun _ _ _ _ h => h⟩ hb hF upd_same (.lst ?_)
          have e1 : (L1.mergeSort (PySem.W.dataLe false tupD)).map (·.2) = sortK ks := by
            rw [sort_rows]
            unfold sortK
            refine isortB_cong leK_total leK_anti ?_
            refine (pm.map _).trans ((List.perm_ext_iff_of_nodup nd (nodup_dd ks)).mpr fun k => ?_)
            rw [mem_dd, ← em]
            constructor
            · intro hk
              obtain ⟨p, hp, rfl⟩ := List.mem_map.mp hk
              exact List.mem_map.mpr ⟨p, hsub p hp, rfl⟩
            · intro hk
              obtain ⟨p, hp, rfl⟩ := List.mem_map.mp hk
              exact hcov p hp
          rw [← e1]
          exact rows_back fun p hp => hL p (pm.mem_iff.mp ((List.mergeSort_perm _ _).mem_iff.mp hp))
      · cases ed
end
/-! ### of cells -/
def ddS (cs : List (Int × Int)) : List (Int × Int) := sortE (dd cs)
def k2 (p : Int × Int) : List Int := [p.1, p.2]
theorem keysOf_cells (cs : List (Int × Int)) : keysOf (cs.map cellP) = some (cs.map k2) := by
  induction cs with
  | nil => rfl
  | cons p cs ih =>
    rw [List.map_cons]
    unfold keysOf
    rw [ih]
    rfl
theorem dd_map {α β : Type} [DecidableEq α] [DecidableEq β] (f : α → β) (hf : ∀ a b, f a = f b → a = b) : ∀ l : List α, dd (l.map f) = (dd l).map f
  | [] => rfl
  | a :: l => by
    have e : f a ∈ l.map f ↔ a ∈ l := ⟨fun h => by
      obtain ⟨b, hb, e⟩ := List.mem_map.mp h
      exact hf _ _ e ▸ hb, fun h => List.mem_map.mpr ⟨a, h, rfl⟩⟩
    rw [List.map_cons]
    unfold dd
    by_cases h : a ∈ l
    · rw [if_pos (e.mpr h), if_pos h, dd_map f hf l]
    · rw [if_neg (fun z => h (e.mp z)), if_neg h, List.map_cons, dd_map f hf l]
theorem leK_k2 (p q : Int × Int) : leK (k2 p) (k2 q) = leE p q := by
  unfold leK leE
  rfl
theorem dSSG_cells (cs : List (Int × Int)) (h : cs.length ≤ manyS) : dSSG (.lst (cs.map cellP)) = some (.lst ((ddS cs).map cellP)) := by
  unfold dSSG
  show (keysOf (cs.map cellP)).bind _ = _
  rw [keysOf_cells]
  simp only [Option.bind_some]
  rw [if_pos ⟨by rw [List.length_map]; exact h, by simp [k2]⟩]
  unfold sortK ddS
  rw [dd_map k2 (fun a b e => by
    unfold k2 at e
    injection e with e1 e2
    injection e2 with e2
    exact Prod.ext e1 e2)]
  rw [isortB_map (le2 := leE) k2 leK_k2, List.map_map]
  rfl
theorem mem_ddS {p : Int × Int} {cs : List (Int × Int)} : p ∈ ddS cs ↔ p ∈ cs := by
  unfold ddS
  rw [mem_sortE, mem_dd]
end G

set_option maxHeartbeats 4000000
namespace G
open PySem PySem.Spec PyProof.Rows L2
local macro_rules | `(tactic| simp! [$ls,*] $[$loc:location]?) => `(tactic| simp only [zaa, zab, zac, zad, zae, zaf, zag, zah, zai, zaj, zak, zal, zam, zan, zao, zap, zaq, zar, zas, zat, zau, zav, zaw, zax, zay, zaz, zaA, zaB, zaC, zaD, zaE, zaF, zaG, zaH, zaI, zaJ, zaK, zaL, zaM, zaN, zaO, zaP, zaQ, zaR, zaS, zaT, zaU, zaV, zaW, zaX, zaY, zaZ, zba, zbb, zbc, zbd, zbe, zbf, zbg, zbh, zbi, zbj, zbk, zbl, zbm, zbn, zbo, zbp, zbq, zbr, zbs, zbt, zbu, zbv, zbw, zbx, zby, zbz, zbA, zbB, zbC, zbD, zbE, zbF, zbG, zbH, zbI, zbJ, zbK, zbL, zbM, zbN, zbO, zbP, zbQ, zbR, zbS, zbT, zbU, zbV, zbW, zbX, zbY, zbZ, zca, zcb, zcc, zcd, zce, zcf, zcg, zch, zci, zcj, zck, zcl, zcm, zcn, zco, zcp, zcq, zcr, zcs, zct, zcu, zcv, zcw, zcx, zcy, zcz, zcA, zcB, zcC, zcD, zcE, zcF, zcG, zcH, zcI, zcJ, zcK, zcL, zcM, zcN, zcO, zcP, zcQ, zcR, zcS, zcT, zcU, zcV, zcW, zcX, zcY, zcZ, zda, zdb, zdc, zdd, zde, zdf, zdg, zdh, zdi, zdj, zdk, zdl, zdm, zdn, zdo, zdp, zdq, zdr, zds, zdt, zdu, zdv, zdw, zdx, zdy, zdz, zdA, zdB, zdC, zdD, zdE, zdF, zdG, zdH, zdI, zdJ, zdK, zdL, zdM, zdN, zdO, zdP, zdQ, zdR, zdS, zdT, zdU, zdV, G.of_f, G.of_t, zdW, zdX, zdY, zdZ, zea, zeb, zec, zed, zee, zef, zeg, zeh, zei, zej, zek, zel, zem, zen, zeo, zep, zeq, zer, zes, zet, zeu, zev, zew, zex, zey, zez, zeA, zeB, zeC, zeD, zeE, zeF, zeG, zeH, zeI, zeJ, zeK, zeL, zeM, zeN, zeO, zeP, zeQ, zeR, zeS, zeT, zeU, zeV, zeW, zeX, zeY, zeZ, zfa, zfb, zfc, G.sz_1, G.sz_2, G.sz_3, G.sz_4, G.sz_0, zfd, zfe, zff, zfg, zfh, zfi, zfj, zfk, zfl, zfm, zfn, zfo, zfp, zfq, zfr, zfs, zft, zfu, zfv, zfw, G.nc_0, G.nc_1, G.nc_2, G.nc_3, G.nc_4, G.nc_5, G.nc_6, G.nc_7, G.nc_8, G.nc_9, zfx, zfy, zfz, zfA, zfB, zfC, zfD, zfE, zfF, zfG, zfH, zfI, zfJ, zfK, zfL, zfM, zfN, zfO, zfP, zfQ, zfR, zfS, zfT, zfU, zfV, zfW, zfX, zfY, zfZ, zga, zgb, zgc, zgd, zge, zgf, zgg, zgh, zgi, zgj, zgk, zgl, zgm, zgn, zgo, zgp, zgq, zgr, zgs, zgt, zgu, zgv, zgw, zgx, zgy, zgz, zgA, zgB, zgC, zgD, zgE, zgF, zgG, zgH, zgI, zgJ, zgK, zgL, zgM, zgN, zgO, zgP, zgQ, zgR, zgS, zgT, zgU, zgV, zgW, zgX, zgY, zgZ, zha, zhb, zhc, zhd, zhe, zhf, zhg, zhh, zhi, zhj, zhk, zhl, zhm, zhn, zho, List.getElem?_cons_zero, List.getElem?_cons_succ, List.set_cons_zero, List.set_cons_succ, G.atI_0, G.atI_1, G.atI_2, G.atI_3, Option.map_some, Option.bind_some, G.eqD_int, G.eqD_cell, G.eqD_bl, List.length_cons, List.length_nil, List.getD_cons_zero, List.getD_cons_succ, Bool.and_true, Bool.and_self, decide_true, decide_false, Bool.not_true, Bool.not_false, List.append_nil, List.nil_append, List.cons_append, if_true, if_false, Bool.false_eq_true, reduceIte, Int.reduceLT, Int.reduceLE, Int.reduceToNat, Int.reducePow, Int.reduceNeg, Int.reduceAdd, Int.reduceSub, Int.reduceMul, Nat.reduceAdd, Int.reduceEq, List.replicate, Nat.reduceSub, and_self, and_true, true_and, $ls,*] $[$loc]?)

/-! ### the plane's worlds: the program's terms -/
noncomputable def pb_is_quiet : XS := (xRet (xOp2 dNotInX (xC (.int 0)) (xOp2 dIx (xVar 0) (xC (.int 1)))))
noncomputable def p_is_quiet : DF := runP [false] 1 false pb_is_quiet
noncomputable def pb_ask_quiet : XS := (xIfS (xNot (xTest (xCall p_is_quiet (xCons (xVar 0) xNil))))
    (xRaise "Loud")
    xNext)
noncomputable def p_ask_quiet : DF := runP [false] 1 false pb_ask_quiet
noncomputable def pb_counts_1 : XS := (xSeq (xSet 8 (xOpL dTup (xCons (xOp2 dAdd (xVar 4) (xVar 6)) (xCons (xOp2 dAdd (xVar 5) (xVar 7)) xNil))))
    (xDPut 3 (xVar 8) (xOp2 dAdd (xDGet2 3 (xVar 8) (xC (.int 0))) (xC (.int 1)))))
noncomputable def pb_counts_2 : XS := (xFor (xIt (xVar 2)) (gsTup 2 (gsCons (gSet 6) (gsCons (gSet 7) gsNil))) pb_counts_1)
noncomputable def pb_counts : XS := (xSeq (xSet 2 (xCall p_offsets (xCons (xVar 0) xNil)))
    (xSeq (xSetO 3 (xC (.dicT false [])))
    (xSeq (xFor (xItO 1) (gsTup 2 (gsCons (gSet 4) (gsCons (gSet 5) gsNil))) pb_counts_2)
    (xRet (xTake 3)))))
noncomputable def p_counts : DF := runP [false, true] 9 true pb_counts
noncomputable def pb_next_turn_1 : XS := (xDPut 3 (xVar 4) (xC (.bl true)))
noncomputable def pb_next_turn : XS := (xSeq (xDrop (xCall p_ask_quiet (xCons (xVar 0) xNil)))
    (xSeq (xSet 2 (xCall p_counts (xCons (xOp2 dIx (xVar 0) (xC (.int 0))) (xConsR (xVar 1) xNil))))
    (xSeq (xSetO 3 (xC (.dicT false [])))
    (xSeq (xFor (xIt (xVar 1)) (gSet 4) pb_next_turn_1)
    (xSeq (xSet 5 (xOp1 dSSG (xOp2 dAdd (xKeysV (xVar 2)) (xVar 1))))
    (xRet (xLC (xIt (xVar 5)) (gSet 4) (xTest (xCall p_comes (xCons (xVar 0) (xCons (xCmpO dInX (xVar 4) 3) (xCons (xDGetV (xVar 2) (xVar 4) (xC (.int 0))) xNil))))) (xVar 4) [4])))))))
noncomputable def p_next_turn : DF := runP [false, false] 6 true pb_next_turn
noncomputable def pb_after_1 : XS := (xSet 3 (xCall p_next_turn (xCons (xVar 0) (xCons (xVar 3) xNil))))
noncomputable def pb_after : XS := (xSeq (xDrop (xCall p_ask_quiet (xCons (xVar 0) xNil)))
    (xSeq (xSet 3 (xOpL dList (xCons (xVar 1) xNil)))
    (xSeq (xFor (xItR1 (xVar 2)) (gSet 4) pb_after_1)
    (xRet (xVar 3)))))
noncomputable def p_after : DF := runP [false, false, false] 5 false pb_after

/-! the plain law -/
def Lt2 (p q : Int × Int) : Prop := p.1 < q.1 ∨ p.1 = q.1 ∧ p.2 < q.2
/-- a picture: its cells in their order, each once -/
def Pic (l : List (Int × Int)) : Prop := l.Pairwise Lt2
theorem Pic.nodup {l : List (Int × Int)} (h : Pic l) : l.Nodup := h.imp fun {p q} z e => by
  subst e
  unfold Lt2 at z
  omega
theorem Pic.sort {l : List (Int × Int)} (h : Pic l) : sortE l = l := sort_lt h
theorem pic_of {l : List (Int × Int)} (hn : l.Nodup) : Pic (sortE l) := by
  have h1 := sortE_pw l
  have h2 : (sortE l).Nodup := ((sortE_perm l).nodup_iff).mpr hn
  exact (h1.and h2).imp fun {p q} z => by
    obtain ⟨z1, z2⟩ := z
    rw [leE_pair, decide_eq_true_eq] at z1
    rcases z1 with z1 | ⟨z1, z3⟩
    · exact .inl z1
    · rcases Int.lt_or_eq_of_le z3 with z4 | z4
      · exact .inr ⟨z1, z4⟩
      · exact absurd (Prod.ext z1 z4) z2
theorem pic_sort {l : List (Int × Int)} (hn : l.Nodup) (hs : sortE l = l) : Pic l := hs ▸ pic_of hn
theorem Pic.ext {l m : List (Int × Int)} (hl : Pic l) (hm : Pic m) (e : ∀ p, p ∈ l ↔ p ∈ m) : l = m := by
  have := sortE_cong ((List.perm_ext_iff_of_nodup hl.nodup hm.nodup).mpr e)
  rwa [hl.sort, hm.sort] at this
theorem Pic.sub {l m : List (Int × Int)} (h : Pic l) (s : m.Sublist l) : Pic m := List.Pairwise.sublist s h
theorem ddS_pic (cs : List (Int × Int)) : Pic (ddS cs) := pic_of (nodup_dd cs)
def imgsP (k : Int) (live : List (Int × Int)) : List (Int × Int) := live.flatMap fun p => (near k).map fun d => sh d p
def livesP (k : Int) (live : List (Int × Int)) (c : Int × Int) : Nat := live.countP fun p => decide ((c.1 - p.1, c.2 - p.2) ∈ near k)
theorem near_nodup (k : Int) : (near k).Nodup := by
  unfold near
  split <;> decide
theorem imgsP_count (k : Int) (live : List (Int × Int)) (c : Int × Int) : (imgsP k live).count c = livesP k live c := by
  unfold imgsP livesP
  induction live with
  | nil => rfl
  | cons p l ih =>
    rw [List.flatMap_cons, List.count_append, ih, List.countP_cons, Nat.add_comm]
    congr 1
    rw [List.count_eq_countP, List.countP_map]
    have e : (near k).countP ((fun x => x == c) ∘ fun d => sh d p) = (near k).count (c.1 - p.1, c.2 - p.2) := by
      rw [List.count_eq_countP]
      refine List.countP_congr fun d _ => ?_
      show (sh d p == c) = true ↔ (d == (c.1 - p.1, c.2 - p.2)) = true
      rw [beq_iff_eq, beq_iff_eq]
      unfold sh
      constructor
      · rintro rfl
        apply Prod.ext <;> simp only <;> omega
      · intro z
        rw [z]
        apply Prod.ext <;> simp only <;> omega
    rw [e]
    by_cases hm : (c.1 - p.1, c.2 - p.2) ∈ near k
    · rw [if_pos (decide_eq_true hm)]
      have h1 := List.nodup_iff_count.mp (near_nodup k) (c.1 - p.1, c.2 - p.2)
      have h2 := List.count_pos_iff.mpr hm
      omega
    · rw [if_neg (by simpa using hm)]
      exact List.count_eq_zero.mpr hm
def cond (k : Int) (bs ss : List Int) (live : List (Int × Int)) (c : Int × Int) : Bool := decide (((livesP k live c : Nat) : Int) ∈ if c ∈ live then ss else bs)
/-- the next turn in the plane -/
def nextP (k : Int) (bs ss : List Int) (live : List (Int × Int)) : List (Int × Int) := (ddS ((cntT (imgsP k live)).map (·.1) ++ live)).filter (cond k bs ss live)
theorem nextP_pic (k : Int) (bs ss : List Int) (live : List (Int × Int)) : Pic (nextP k bs ss live) := (ddS_pic _).sub List.filter_sublist
theorem cntT_keys (l : List (Int × Int)) (c : Int × Int) : c ∈ (cntT l).map (·.1) ↔ c ∈ l := by
  unfold cntT
  suffices ∀ (l : List (Int × Int)) (T : List ((Int × Int) × Int)), c ∈ (l.foldl (fun T c => ptA T c ((lkA T c).getD 0 + 1)) T).map (·.1) ↔ c ∈ T.map (·.1) ∨ c ∈ l by
    rw [this]
    simp
  intro l
  induction l with
  | nil => intro T; simp
  | cons a l ih =>
    intro T
    rw [List.foldl_cons, ih, ptA_keys, List.mem_cons]
    constructor
    · rintro ((h | h) | h)
      · exact .inr (.inl h)
      · exact .inl h
      · exact .inr (.inr h)
    · rintro (h | h | h)
      · exact .inl (.inr h)
      · exact .inl (.inl h)
      · exact .inr h
theorem mem_nextP {k : Int} {bs : List Int} (hq : 0 ∉ bs) (ss : List Int) (live : List (Int × Int)) (c : Int × Int) : c ∈ nextP k bs ss live ↔ cond k bs ss live c = true := by
  unfold nextP
  rw [List.mem_filter, mem_ddS, List.mem_append, cntT_keys]
  refine ⟨fun h => h.2, fun h => ⟨?_, h⟩⟩
  by_cases hl : c ∈ live
  · exact .inr hl
  · refine .inl (Classical.byContradiction fun hi => ?_)
    unfold cond at h
    rw [if_neg hl, decide_eq_true_eq, ← imgsP_count, List.count_eq_zero.mpr hi] at h
    exact hq h
theorem nextP_ext {k : Int} {bs : List Int} (hq : 0 ∉ bs) (ss : List Int) (live : List (Int × Int)) {l : List (Int × Int)} (hl : Pic l) (h : ∀ c, c ∈ l ↔ cond k bs ss live c = true) : l = nextP k bs ss live :=
  hl.ext (nextP_pic k bs ss live) fun c => (h c).trans (mem_nextP hq ss live c).symm
def afterP (k : Int) (bs ss : List Int) (live : List (Int × Int)) : Nat → List (Int × Int)
  | 0 => live
  | n + 1 => nextP k bs ss (afterP k bs ss live n)
theorem afterP_pic {k : Int} {bs ss : List Int} {live : List (Int × Int)} (h : Pic live) (n : Nat) : Pic (afterP k bs ss live n) := by
  cases n with
  | zero => exact h
  | succ n => exact nextP_pic _ _ _ _
/-! boxes -/
def Bx (l t : Int) (w h : Nat) (live : List (Int × Int)) : Prop := ∀ p ∈ live, (l ≤ p.1 ∧ p.1 < l + w) ∧ t ≤ p.2 ∧ p.2 < t + h
theorem Bx.len {l t : Int} {w h : Nat} {live : List (Int × Int)} (b : Bx l t w h live) (hn : live.Nodup) : live.length ≤ w * h := by
  have nd : (live.map (sh (-l, -t))).Nodup := List.pairwise_map.mpr (hn.imp fun {p q} z e => z (by
    unfold sh at e
    injection e with e1 e2
    apply Prod.ext <;> omega))
  have := nodup_len nd (m := ringL w h) fun p hp => by
    obtain ⟨q, hq, rfl⟩ := List.mem_map.mp hp
    obtain ⟨⟨h1, h2⟩, h3, h4⟩ := b q hq
    refine mem_ringL.mpr ⟨⟨?_, ?_⟩, ?_, ?_⟩ <;> (unfold sh; simp only; omega)
  rwa [List.length_map, ringL_len] at this
theorem near_small {k : Int} {d : Int × Int} (h : d ∈ near k) : (-1 ≤ d.1 ∧ d.1 ≤ 1) ∧ -1 ≤ d.2 ∧ d.2 ≤ 1 := by
  have key : ∀ d ∈ N8, (-1 ≤ d.1 ∧ d.1 ≤ 1) ∧ -1 ≤ d.2 ∧ d.2 ≤ 1 := by decide
  have k4 : ∀ d ∈ N4, d ∈ N8 := by decide
  have k6 : ∀ d ∈ N6, d ∈ N8 := by decide
  unfold near at h
  split at h
  · exact key d (k4 d h)
  · exact key d (k6 d h)
  · exact key d h
theorem Bx.imgs {l t : Int} {w h : Nat} {live : List (Int × Int)} (b : Bx l t w h live) (k : Int) : Bx (l - 1) (t - 1) (w + 2) (h + 2) (imgsP k live) := fun c hc => by
  unfold imgsP at hc
  obtain ⟨p, hp, hc⟩ := List.mem_flatMap.mp hc
  obtain ⟨d, hd, rfl⟩ := List.mem_map.mp hc
  obtain ⟨⟨h1, h2⟩, h3, h4⟩ := b p hp
  obtain ⟨⟨g1, g2⟩, g3, g4⟩ := near_small hd
  unfold sh
  simp only
  omega
theorem Bx.next {l t : Int} {w h : Nat} {live : List (Int × Int)} (b : Bx l t w h live) (k : Int) (bs ss : List Int) : Bx (l - 1) (t - 1) (w + 2) (h + 2) (nextP k bs ss live) := fun c hc => by
  have hm := (List.mem_filter.mp hc).1
  rw [mem_ddS, List.mem_append, cntT_keys] at hm
  rcases hm with hm | hm
  · exact b.imgs k c hm
  · obtain ⟨⟨h1, h2⟩, h3, h4⟩ := b c hm
    omega
theorem Bx.after {l t : Int} {w h : Nat} {live : List (Int × Int)} (b : Bx l t w h live) (k : Int) (bs ss : List Int) : ∀ n : Nat, Bx (l - n) (t - n) (w + 2 * n) (h + 2 * n) (afterP k bs ss live n)
  | 0 => by
    intro c hc
    obtain ⟨⟨h1, h2⟩, h3, h4⟩ := b c hc
    omega
  | n + 1 => by
    have := (b.after k bs ss n).next k bs ss
    intro c hc
    obtain ⟨⟨h1, h2⟩, h3, h4⟩ := this c hc
    omega
/-! turned and moved -/
def actP (t : Q4) (m : Int × Int) (live : List (Int × Int)) : List (Int × Int) := (turnP t live).map (sh m)
theorem actP_perm (t : Q4) (m : Int × Int) (live : List (Int × Int)) : (actP t m live).Perm (live.map fun p => sh m (app t p)) := by
  unfold actP turnP
  have := (sortE_perm (live.map (app t))).map (sh m)
  rwa [List.map_map] at this
theorem actP_len (t : Q4) (m : Int × Int) (live : List (Int × Int)) : (actP t m live).length = live.length := by
  unfold actP
  rw [List.length_map, turnP_len]
theorem inv_inv_small : ∀ t ∈ T4 ++ T6, app (inv t) = app (inv t) := fun _ _ => rfl
theorem app_inj {k : Int} {t : Q4} (ht : t ∈ turns k) {p q : Int × Int} (e : app t p = app t q) : p = q := by
  have := congrArg (app (inv t)) e
  rwa [app_inv ht, app_inv ht] at this
theorem sh_inj {m p q : Int × Int} (e : sh m p = sh m q) : p = q := by
  have := congrArg (sh (neg2 m)) e
  rwa [sh_neg, sh_neg] at this
theorem actP_pic {k : Int} {t : Q4} (ht : t ∈ turns k) (m : Int × Int) {live : List (Int × Int)} (h : Pic live) : Pic (actP t m live) := by
  refine pic_sort ?_ ?_
  · refine (actP_perm t m live).nodup_iff.mpr (List.pairwise_map.mpr (h.nodup.imp fun {p q} z e => z (app_inj ht (sh_inj e))))
  · unfold actP
    rw [sortE_sh, turnP_sort]
theorem mem_actP {k : Int} {t : Q4} (ht : t ∈ turns k) (m : Int × Int) (live : List (Int × Int)) (p : Int × Int) : sh m (app t p) ∈ actP t m live ↔ p ∈ live := by
  rw [(actP_perm t m live).mem_iff, List.mem_map]
  constructor
  · rintro ⟨q, hq, e⟩
    exact app_inj ht (sh_inj e) ▸ hq
  · exact fun h => ⟨p, h, rfl⟩
theorem near_or (k : Int) : (near k = N6 ∧ turns k = T6) ∨ ((near k = N4 ∨ near k = N8) ∧ turns k = T4) := by
  by_cases h4 : k = 4
  · subst h4
    exact .inr ⟨.inl rfl, rfl⟩
  · by_cases h6 : k = 6
    · subst h6
      exact .inl ⟨rfl, rfl⟩
    · refine .inr ⟨.inr ?_, ?_⟩
      · unfold near
        split
        · exact (h4 rfl).elim
        · exact (h6 rfl).elim
        · rfl
      · unfold turns
        split
        · exact (h6 rfl).elim
        · rfl
theorem near_app {k : Int} {t : Q4} (ht : t ∈ turns k) (d : Int × Int) : app t d ∈ near k ↔ d ∈ near k := by
  have fwd : ∀ t ∈ turns k, ∀ d ∈ near k, app t d ∈ near k := by
    rcases near_or k with ⟨e1, e2⟩ | ⟨e1 | e1, e2⟩ <;> rw [e1, e2]
    · decide
    · decide
    · decide
  refine ⟨fun h => ?_, fwd t ht d⟩
  have := fwd _ (turns_inv ht) _ h
  rwa [app_inv ht] at this
theorem app_sub (t : Q4) (m p q : Int × Int) : ((sh m (app t q)).1 - (sh m (app t p)).1, (sh m (app t q)).2 - (sh m (app t p)).2) = app t (q.1 - p.1, q.2 - p.2) := by
  unfold sh app
  simp only [Int.mul_sub]
  apply Prod.ext <;> simp only <;> omega
theorem livesP_act {k : Int} {t : Q4} (ht : t ∈ turns k) (m : Int × Int) (live : List (Int × Int)) (c : Int × Int) : livesP k (actP t m live) (sh m (app t c)) = livesP k live c := by
  unfold livesP
  rw [(actP_perm t m live).countP_eq, List.countP_map]
  refine List.countP_congr fun p _ => ?_
  show decide (((sh m (app t c)).1 - (sh m (app t p)).1, (sh m (app t c)).2 - (sh m (app t p)).2) ∈ near k) = true ↔ _
  rw [app_sub, decide_eq_true_eq, decide_eq_true_eq, near_app ht]
theorem cond_act {k : Int} {t : Q4} (ht : t ∈ turns k) (bs ss : List Int) (m : Int × Int) (live : List (Int × Int)) (c : Int × Int) : cond k bs ss (actP t m live) (sh m (app t c)) = cond k bs ss live c := by
  unfold cond
  rw [livesP_act ht]
  have e : (sh m (app t c) ∈ actP t m live) = (c ∈ live) := propext (mem_actP ht m live c)
  simp only [e]
theorem app_inv' {k : Int} {t : Q4} (ht : t ∈ turns k) (p : Int × Int) : app t (app (inv t) p) = p := by
  have h2 := turns_inv ht
  have e : app (inv (inv t)) = app t := by
    have key : ∀ t ∈ T6 ++ T4, inv (inv t) = t := by decide
    rw [key t (by
      rcases turns_or k with e | e <;> rw [e] at ht
      · exact List.mem_append_left _ ht
      · exact List.mem_append_right _ ht)]
  have := app_inv h2 p
  rwa [e] at this
theorem next_act {k : Int} {t : Q4} (ht : t ∈ turns k) {bs : List Int} (hq : 0 ∉ bs) (ss : List Int) (m : Int × Int) (live : List (Int × Int)) : nextP k bs ss (actP t m live) = actP t m (nextP k bs ss live) := by
  refine ((nextP_ext hq ss (actP t m live) (actP_pic ht m (nextP_pic k bs ss live)) fun c => ?_)).symm
  obtain ⟨q, rfl⟩ : ∃ q, c = sh m (app t q) := ⟨app (inv t) (sh (neg2 m) c), by rw [app_inv' ht, sh_neg']⟩
  rw [mem_actP ht, mem_nextP hq, cond_act ht]
theorem after_act {k : Int} {t : Q4} (ht : t ∈ turns k) {bs : List Int} (hq : 0 ∉ bs) (ss : List Int) (m : Int × Int) (live : List (Int × Int)) (n : Nat) : afterP k bs ss (actP t m live) n = actP t m (afterP k bs ss live n) := by
  induction n with
  | zero => rfl
  | succ n ih =>
    show nextP k bs ss _ = actP t m (nextP k bs ss _)
    rw [ih, next_act ht hq]
/-! the walk's terms -/
theorem quiet_is (k : Int) {bs : List Int} (hq : 0 ∉ bs) (ss : List Int) : p_ask_quiet [ruleD k bs ss] = .ok .non [] := by
  have e : p_is_quiet [ruleD k bs ss] = .ok (.bl true) [] := by
    have h := zho 0 bs
    rw [decide_eq_false hq] at h
    unfold p_is_quiet pb_is_quiet
    simp! [ruleD, h]
  unfold p_ask_quiet pb_ask_quiet
  simp! [ruleD] at e ⊢
  simp! [e]
theorem loud_is (k : Int) {bs : List Int} (hq : 0 ∈ bs) (ss : List Int) : p_ask_quiet [ruleD k bs ss] = .exc "Loud" [] := by
  have e : p_is_quiet [ruleD k bs ss] = .ok (.bl false) [] := by
    have h := zho 0 bs
    rw [decide_eq_true hq] at h
    unfold p_is_quiet pb_is_quiet
    simp! [ruleD, h]
  unfold p_ask_quiet pb_ask_quiet
  simp! [ruleD] at e ⊢
  simp! [e]
theorem counts_is {k : Int} (hk : Kind k) (live : List (Int × Int)) (hl : live.length ≤ 1600) : p_counts [.int k, cells live] = .ok (.dicT false (encE D.int (cntT (imgsP k live)))) [] := by
  unfold p_counts pb_counts
  have ho := off_is k hk
  obtain ⟨ρ', e, s5, s6, s7, s8, s9, rfl⟩ := for_list (g := gsTup 2 (gsCons (gSet 4) (gsCons (gSet 5) gsNil))) (body := pb_counts_2) (e := cellP) (fun i ρ => ∃ s5 s6 s7 s8 s9, ρ = [.val (.int k), .rd (cells live), .val (cells (near k)), .own (.dicT false (encE D.int (cntT (imgsP k (live.take i))))), s5, s6, s7, s8, s9]) (l := live) (ρ := [.val (.int k), .rd (cells live), .val (cells (near k)), .own (.dicT false []), .emp, .emp, .emp, .emp, .emp]) ⟨_, _, _, _, _, rfl⟩ (fun i p ρ hi hρ => by
    obtain ⟨s5, s6, s7, s8, s9, rfl⟩ := hρ
    obtain ⟨x, y⟩ := p
    refine ⟨_, rfl, ?_⟩
    have l1 : i < live.length := (List.getElem?_eq_some_iff.mp hi).1
    have lb : (imgsP k (live.take i)).length ≤ i * 8 := by
      have := flat_le (fun p => (near k).map fun d => sh d p) 8 (live.take i) (fun p => by rw [List.length_map]; exact near_len k)
      rw [List.length_take] at this
      exact Nat.le_trans this (Nat.mul_le_mul (by omega) (Nat.le_refl _))
    obtain ⟨ρ', e, s7, s8, s9, rfl⟩ := for_list (g := gsTup 2 (gsCons (gSet 6) (gsCons (gSet 7) gsNil))) (body := pb_counts_1) (e := cellP) (fun j ρ => ∃ s7 s8 s9, ρ = [.val (.int k), .rd (cells live), .val (cells (near k)), .own (.dicT false (encE D.int (cntT (imgsP k (live.take i) ++ ((near k).take j).map fun d => sh d (x, y))))), .val (.int x), .val (.int y), s7, s8, s9]) (l := near k) (ρ := [.val (.int k), .rd (cells live), .val (cells (near k)), .own (.dicT false (encE D.int (cntT (imgsP k (live.take i))))), .val (.int x), .val (.int y), s7, s8, s9]) ⟨_, _, _, by rw [List.take_zero, List.map_nil, List.append_nil]⟩ (fun j d ρ hj hρ => by
      obtain ⟨s7, s8, s9, rfl⟩ := hρ
      obtain ⟨u, v⟩ := d
      refine ⟨_, rfl, ?_⟩
      have l2 : j < (near k).length := (List.getElem?_eq_some_iff.mp hj).1
      have l3 := near_len k
      generalize hL : imgsP k (live.take i) ++ ((near k).take j).map (fun d => sh d (x, y)) = L
      have lL : L.length ≤ 20000 := by
        rw [← hL, List.length_append, List.length_map, List.length_take]
        omega
      have hz : (encE D.int (cntT L)).length < sizeLine := by
        rw [encE_len]
        exact szBl (Nat.le_trans (cntT_len L) lL)
      have hx : imgsP k (live.take i) ++ ((near k).take (j + 1)).map (fun d => sh d (x, y)) = L ++ [(x + u, y + v)] := by
        rw [take_snoc hj, List.map_append, ← List.append_assoc, hL]
        rfl
      rw [hx, cntT_snoc]
      unfold pb_counts_1
      simp! [cells, cellP, hz, lk_int, pt_int]
      exact ⟨_, .inl rfl, _, _, _, rfl⟩)
    have hx : imgsP k (live.take (i + 1)) = imgsP k (live.take i) ++ (near k).map fun d => sh d (x, y) := by
      rw [take_snoc hi]
      unfold imgsP
      rw [List.flatMap_append]
      simp
    rw [List.take_length, ← hx] at e
    unfold pb_counts_2
    simp! [cells] at e ⊢
    simp! [e]
    exact ⟨_, .inl rfl, _, _, _, _, _, rfl⟩)
  rw [List.take_length] at e
  simp! [cells] at e ho ⊢
  simp! [ho, e]
theorem keys_enc (T : List ((Int × Int) × Int)) : (encE D.int T).map (fun e => D.tup (e.1.map dKey)) = (T.map (·.1)).map cellP := by
  unfold encE
  rw [List.map_map, List.map_map]
  rfl
theorem imgsP_len (k : Int) (live : List (Int × Int)) : (imgsP k live).length ≤ live.length * 8 := flat_le _ 8 live fun p => by rw [List.length_map]; exact near_len k
theorem next_turn_is {k : Int} (hk : Kind k) {bs : List Int} (hq : 0 ∉ bs) (ss : List Int) (live : List (Int × Int)) (hl : live.length ≤ 440) : p_next_turn [ruleD k bs ss, cells live] = .ok (cells (nextP k bs ss live)) [] := by
  unfold p_next_turn pb_next_turn
  have e1 := quiet_is k hq ss
  have e2 := counts_is hk live (by omega)
  obtain ⟨ρ', e, s4, hs, rfl⟩ := for_list (g := gSet 4) (body := pb_next_turn_1) (e := cellP) (fun i ρ => ∃ s4, notOwn (some s4) = true ∧ ρ = [.val (ruleD k bs ss), .val (cells live), .val (.dicT false (encE D.int (cntT (imgsP k live)))), .own (.dicT false (encE D.bl (allT (live.take i)))), s4, .emp]) (l := live) (ρ := [.val (ruleD k bs ss), .val (cells live), .val (.dicT false (encE D.int (cntT (imgsP k live)))), .own (.dicT false []), .emp, .emp]) ⟨_, rfl, rfl⟩ (fun i p ρ hi hρ => by
    obtain ⟨s4, _, rfl⟩ := hρ
    obtain ⟨x, y⟩ := p
    refine ⟨_, rfl, ?_⟩
    have l1 : i < live.length := (List.getElem?_eq_some_iff.mp hi).1
    have hz : (encE D.bl (allT (live.take i))).length < sizeLine := by
      have := allT_len (live.take i)
      rw [List.length_take] at this
      rw [encE_len]
      exact szBl (by omega)
    rw [take_snoc hi, allT_snoc]
    unfold pb_next_turn_1
    simp! [cellP, hz, pt_bl]
    exact ⟨_, .inl rfl, _, rfl, rfl⟩)
  rw [List.take_length] at e
  have hlen : ((cntT (imgsP k live)).map (·.1) ++ live).length ≤ manyS := by
    have h1 := cntT_len (imgsP k live)
    have h2 := imgsP_len k live
    rw [List.length_append, List.length_map]
    unfold manyS
    omega
  have hss := dSSG_cells _ hlen
  rw [List.map_append] at hss
  have hz1 : (((cntT (imgsP k live)).map (·.1)).map cellP).length + (live.map cellP).length ≤ sizeLine := by
    rw [List.length_append, List.length_map] at hlen
    rw [List.length_map, List.length_map, List.length_map]
    exact szB (by unfold manyS at hlen; omega)
  have hz2 : ((ddS ((cntT (imgsP k live)).map (·.1) ++ live)).map cellP).length ≤ sizeLine := by
    rw [List.length_map]
    refine szB ?_
    have := dd_le ((cntT (imgsP k live)).map (·.1) ++ live)
    unfold ddS
    rw [sortE_length]
    unfold manyS at hlen
    omega
  simp! [cells, ruleD] at e1 e2 e ⊢
  simp! [e1, e2, e, hs, zgV, zgW, keys_enc, hz1, hss, hz2]
  rw [lcFilt cellP (cond k bs ss live) id]
  · rw [List.map_id]
    rfl
  · intro c _
    have q := comes_is k ((livesP k live c : Nat) : Int) bs ss (decide (c ∈ live))
    have q2 := cntT_lk (imgsP k live) c
    rw [imgsP_count] at q2
    obtain ⟨a, b⟩ := c
    simp! [ruleD, decide_eq_true_eq] at q
    simp! [cellP, lk_int, lk_some, allT_lk, q2, q]
    unfold cond
    by_cases hm : ((livesP k live (a, b) : Nat) : Int) ∈ if (a, b) ∈ live then ss else bs
    · simp! [hm, id]
    · simp! [hm, id]
theorem after_is {k : Int} (hk : Kind k) {bs : List Int} (hq : 0 ∉ bs) (ss : List Int) (live : List (Int × Int)) (n : Nat) {N : Int} (eN : (n : Int) = N) (hN : n ≤ 1000) (hl : ∀ i, i < n → (afterP k bs ss live i).length ≤ 440) : p_after [ruleD k bs ss, cells live, .int N] = .ok (cells (afterP k bs ss live n)) [] := by
  unfold p_after pb_after
  have e1 := quiet_is k hq ss
  have hb : inR N = true := inR_of (by omega)
  have hN2 : N.toNat = n := by omega
  obtain ⟨ρ', e, s4, rfl⟩ := for_range_inv (g := gSet 4) (body := pb_after_1) (lo := 0) (n := n)
    (fun i ρ => ∃ s4, ρ = [.val (ruleD k bs ss), .val (cells live), .val (.int N), .val (cells (afterP k bs ss live i)), s4]) (ρ := [.val (ruleD k bs ss), .val (cells live), .val (.int N), .val (cells live), .emp]) ⟨_, rfl⟩ (fun i ρ hi hρ => by
      obtain ⟨s4, rfl⟩ := hρ
      refine ⟨_, rfl, ?_⟩
      have e2 := next_turn_is hk hq ss _ (hl i hi)
      unfold pb_after_1
      simp! [ruleD, cells] at e2 ⊢
      simp! [e2]
      exact ⟨_, .inl rfl, _, rfl⟩)
  simp! [cells, ruleD] at e1 e ⊢
  simp! [e1, hb, hN2, e]
end G

set_option maxHeartbeats 4000000
namespace G
open PySem PySem.Spec PyProof.Rows L2
local macro_rules | `(tactic| simp! [$ls,*] $[$loc:location]?) => `(tactic| simp only [zaa, zab, zac, zad, zae, zaf, zag, zah, zai, zaj, zak, zal, zam, zan, zao, zap, zaq, zar, zas, zat, zau, zav, zaw, zax, zay, zaz, zaA, zaB, zaC, zaD, zaE, zaF, zaG, zaH, zaI, zaJ, zaK, zaL, zaM, zaN, zaO, zaP, zaQ, zaR, zaS, zaT, zaU, zaV, zaW, zaX, zaY, zaZ, zba, zbb, zbc, zbd, zbe, zbf, zbg, zbh, zbi, zbj, zbk, zbl, zbm, zbn, zbo, zbp, zbq, zbr, zbs, zbt, zbu, zbv, zbw, zbx, zby, zbz, zbA, zbB, zbC, zbD, zbE, zbF, zbG, zbH, zbI, zbJ, zbK, zbL, zbM, zbN, zbO, zbP, zbQ, zbR, zbS, zbT, zbU, zbV, zbW, zbX, zbY, zbZ, zca, zcb, zcc, zcd, zce, zcf, zcg, zch, zci, zcj, zck, zcl, zcm, zcn, zco, zcp, zcq, zcr, zcs, zct, zcu, zcv, zcw, zcx, zcy, zcz, zcA, zcB, zcC, zcD, zcE, zcF, zcG, zcH, zcI, zcJ, zcK, zcL, zcM, zcN, zcO, zcP, zcQ, zcR, zcS, zcT, zcU, zcV, zcW, zcX, zcY, zcZ, zda, zdb, zdc, zdd, zde, zdf, zdg, zdh, zdi, zdj, zdk, zdl, zdm, zdn, zdo, zdp, zdq, zdr, zds, zdt, zdu, zdv, zdw, zdx, zdy, zdz, zdA, zdB, zdC, zdD, zdE, zdF, zdG, zdH, zdI, zdJ, zdK, zdL, zdM, zdN, zdO, zdP, zdQ, zdR, zdS, zdT, zdU, zdV, G.of_f, G.of_t, zdW, zdX, zdY, zdZ, zea, zeb, zec, zed, zee, zef, zeg, zeh, zei, zej, zek, zel, zem, zen, zeo, zep, zeq, zer, zes, zet, zeu, zev, zew, zex, zey, zez, zeA, zeB, zeC, zeD, zeE, zeF, zeG, zeH, zeI, zeJ, zeK, zeL, zeM, zeN, zeO, zeP, zeQ, zeR, zeS, zeT, zeU, zeV, zeW, zeX, zeY, zeZ, zfa, zfb, zfc, G.sz_1, G.sz_2, G.sz_3, G.sz_4, G.sz_0, zfd, zfe, zff, zfg, zfh, zfi, zfj, zfk, zfl, zfm, zfn, zfo, zfp, zfq, zfr, zfs, zft, zfu, zfv, zfw, G.nc_0, G.nc_1, G.nc_2, G.nc_3, G.nc_4, G.nc_5, G.nc_6, G.nc_7, G.nc_8, G.nc_9, zfx, zfy, zfz, zfA, zfB, zfC, zfD, zfE, zfF, zfG, zfH, zfI, zfJ, zfK, zfL, zfM, zfN, zfO, zfP, zfQ, zfR, zfS, zfT, zfU, zfV, zfW, zfX, zfY, zfZ, zga, zgb, zgc, zgd, zge, zgf, zgg, zgh, zgi, zgj, zgk, zgl, zgm, zgn, zgo, zgp, zgq, zgr, zgs, zgt, zgu, zgv, zgw, zgx, zgy, zgz, zgA, zgB, zgC, zgD, zgE, zgF, zgG, zgH, zgI, zgJ, zgK, zgL, zgM, zgN, zgO, zgP, zgQ, zgR, zgS, zgT, zgU, zgV, zgW, zgX, zgY, zgZ, zha, zhb, zhc, zhd, zhe, zhf, zhg, zhh, zhi, zhj, zhk, zhl, zhm, zhn, zho, List.getElem?_cons_zero, List.getElem?_cons_succ, List.set_cons_zero, List.set_cons_succ, G.atI_0, G.atI_1, G.atI_2, G.atI_3, Option.map_some, Option.bind_some, G.eqD_int, G.eqD_cell, G.eqD_bl, List.length_cons, List.length_nil, List.getD_cons_zero, List.getD_cons_succ, Bool.and_true, Bool.and_self, decide_true, decide_false, Bool.not_true, Bool.not_false, List.append_nil, List.nil_append, List.cons_append, if_true, if_false, Bool.false_eq_true, reduceIte, Int.reduceLT, Int.reduceLE, Int.reduceToNat, Int.reducePow, Int.reduceNeg, Int.reduceAdd, Int.reduceSub, Int.reduceMul, Nat.reduceAdd, Int.reduceEq, List.replicate, Nat.reduceSub, and_self, and_true, true_and, $ls,*] $[$loc]?)

/-! ### far numbers, small pictures, as the laws of the worlds draw them -/
noncomputable def bFar2 : XS := (xSeq (xIfS (xTest (xOp2 (dCmp fun i j => decide (j < i)) (xCallB fDraw2 0 (xCons (xC (.int 6)) xNil)) (xC (.int 0))))
    (xRet (xOp2 dSub (xCallB fDraw2 0 (xCons (xC (.int 9)) xNil)) (xC (.int 4))))
    xNext)
    (xRet (xOp2 dMul (xOp2 dSub (xOp2 dPow (xC (.int 10)) (xC (.int 40))) (xCallB fDraw2 0 (xCons (xC (.int 9)) xNil))) (xOp2 dSub (xC (.int 1)) (xOp2 dMul (xC (.int 2)) (xCallB fDraw2 0 (xCons (xC (.int 2)) xNil)))))))
noncomputable def fFar2 : DF := runB [] 1 false bFar2
theorem far2_ex {n : Nat} {p : D} (hp : PenOk n p) (hn : n + 20 < 2 ^ 60) : ∃ (x : Int) (p' : D), fFar2 [p] = .ok (.int x) [p'] ∧ PenOk (n + 3) p' := by
  unfold fFar2 bFar2
  have c1 : CPow 10 40 := cpow10 ⟨by decide, by decide⟩
  obtain ⟨x, p1, e1, a1, b1, h1⟩ := draw2_ex hp (by omega) (m := 6) (by decide) (by decide)
  obtain ⟨y, p2, e2, a2, b2, h2⟩ := draw2_ex h1 (by omega) (m := 9) (by decide) (by decide)
  by_cases hx : 0 < x
  · simp! [e1, hx, e2]
    exact ⟨_, _, rfl, h2.mono (by omega)⟩
  · obtain ⟨z, p3, e3, a3, b3, h3⟩ := draw2_ex h2 (by omega) (m := 2) (by decide) (by decide)
    have m1 : CMulA 2 z := CMulA.l _ ⟨by decide, by decide⟩
    have m2 : ∀ v : Int, CMulA v (1 - 2 * z) := fun v => CMulA.r _ ⟨by omega, by omega⟩
    simp! [e1, hx, e2, e3, c1, m1, m2]
    exact ⟨_, _, rfl, h3.mono (by omega)⟩
/-- cells drawn into a box, one after the other -/
noncomputable def bIn2 (s w h : Nat) : XS := (xSeq (xSet (s + 2) (xOpL dTup (xCons (xOp2 dAdd (xVar 1) (xCallB fDraw2 0 (xCons (xVar w) xNil))) (xCons (xOp2 dAdd (xVar 2) (xCallB fDraw2 0 (xCons (xVar h) xNil))) xNil))))
    (xIfS (xTest (xCmpO dNotInX (xVar (s + 2)) s))
    (xAppend s (xVar (s + 2)))
    xNext))
theorem notin_cells (x y : Int) (cs : List (Int × Int)) : dBl dNotInX (.tup [.int x, .int y]) (.lst (cs.map cellP)) = some (!decide ((x, y) ∈ cs)) := by
  rw [zgJ, zgH, in_cells]
  rfl
/-- (the box is W by H, its corner at l, t) -/
theorem in2_step {n : Nat} {p : D} {l t W H : Int} (hW : 0 < W ∧ W ≤ 2 ^ 180) (hH : 0 < H ∧ H ≤ 2 ^ 180) {cs : List (Int × Int)} (hc : cs.Nodup) (hcl : cs.length ≤ 1000) (hb : ∀ p ∈ cs, (l ≤ p.1 ∧ p.1 < l + W) ∧ t ≤ p.2 ∧ p.2 < t + H) (hp : PenOk n p) (hn : n + 10 < 2 ^ 60) (s6 s7 : Slot) :
    ∃ (ds : List (Int × Int)) (p' : D) (s7' : Slot), bIn2 5 3 4 [.own p, .val (.int l), .val (.int t), .val (.int W), .val (.int H), .own (cells cs), s6, s7] = .nx [.own p', .val (.int l), .val (.int t), .val (.int W), .val (.int H), .own (cells ds), s6, s7'] ∧
      ds.Nodup ∧ ds.length ≤ cs.length + 1 ∧ (∀ p ∈ ds, (l ≤ p.1 ∧ p.1 < l + W) ∧ t ≤ p.2 ∧ p.2 < t + H) ∧ PenOk (n + 2) p' := by
  unfold bIn2
  obtain ⟨x, p1, e1, a1, b1, h1⟩ := draw2_ex hp (by omega) (m := W) hW.1 (by omega)
  obtain ⟨y, p2, e2, a2, b2, h2⟩ := draw2_ex h1 (by omega) (m := H) hH.1 (by omega)
  have hz : (cs.map cellP).length < sizeLine := szl hcl
  by_cases hm : (l + x, t + y) ∈ cs
  · simp! [cells, e1, e2, in_cells, hm]
    exact ⟨_, _, _, rfl, hc, by omega, hb, h2⟩
  · simp! [cells, e1, e2, in_cells, hm, hz]
    refine ⟨cs ++ [(l + x, t + y)], _, _, by rw [List.map_append]; rfl, ?_, by rw [List.length_append]; exact Nat.le_refl _, fun q hq => ?_, h2⟩
    · refine List.nodup_append.mpr ⟨hc, by simp, fun a ha b hb e => ?_⟩
      rw [List.mem_singleton.mp hb] at e
      exact hm (e ▸ ha)
    · rcases List.mem_append.mp hq with hq | hq
      · exact hb q hq
      · rw [List.mem_singleton.mp hq]
        simp only
        omega
/-- the drawn rule whose dead cells with no living neighbour may wake or not -/
theorem rule_of {k : Int} (hk : Kind k) (lo : Int) (bs : List Int) (h : ∀ x ∈ bs, lo ≤ x ∧ x ≤ k) (h0 : 0 < lo) : 0 ∉ bs := fun z => by
  have := h 0 z
  omega
end G

set_option maxHeartbeats 4000000
namespace G
open PySem PySem.Spec PyProof.Rows L2
local macro_rules | `(tactic| simp! [$ls,*] $[$loc:location]?) => `(tactic| simp only [zaa, zab, zac, zad, zae, zaf, zag, zah, zai, zaj, zak, zal, zam, zan, zao, zap, zaq, zar, zas, zat, zau, zav, zaw, zax, zay, zaz, zaA, zaB, zaC, zaD, zaE, zaF, zaG, zaH, zaI, zaJ, zaK, zaL, zaM, zaN, zaO, zaP, zaQ, zaR, zaS, zaT, zaU, zaV, zaW, zaX, zaY, zaZ, zba, zbb, zbc, zbd, zbe, zbf, zbg, zbh, zbi, zbj, zbk, zbl, zbm, zbn, zbo, zbp, zbq, zbr, zbs, zbt, zbu, zbv, zbw, zbx, zby, zbz, zbA, zbB, zbC, zbD, zbE, zbF, zbG, zbH, zbI, zbJ, zbK, zbL, zbM, zbN, zbO, zbP, zbQ, zbR, zbS, zbT, zbU, zbV, zbW, zbX, zbY, zbZ, zca, zcb, zcc, zcd, zce, zcf, zcg, zch, zci, zcj, zck, zcl, zcm, zcn, zco, zcp, zcq, zcr, zcs, zct, zcu, zcv, zcw, zcx, zcy, zcz, zcA, zcB, zcC, zcD, zcE, zcF, zcG, zcH, zcI, zcJ, zcK, zcL, zcM, zcN, zcO, zcP, zcQ, zcR, zcS, zcT, zcU, zcV, zcW, zcX, zcY, zcZ, zda, zdb, zdc, zdd, zde, zdf, zdg, zdh, zdi, zdj, zdk, zdl, zdm, zdn, zdo, zdp, zdq, zdr, zds, zdt, zdu, zdv, zdw, zdx, zdy, zdz, zdA, zdB, zdC, zdD, zdE, zdF, zdG, zdH, zdI, zdJ, zdK, zdL, zdM, zdN, zdO, zdP, zdQ, zdR, zdS, zdT, zdU, zdV, G.of_f, G.of_t, zdW, zdX, zdY, zdZ, zea, zeb, zec, zed, zee, zef, zeg, zeh, zei, zej, zek, zel, zem, zen, zeo, zep, zeq, zer, zes, zet, zeu, zev, zew, zex, zey, zez, zeA, zeB, zeC, zeD, zeE, zeF, zeG, zeH, zeI, zeJ, zeK, zeL, zeM, zeN, zeO, zeP, zeQ, zeR, zeS, zeT, zeU, zeV, zeW, zeX, zeY, zeZ, zfa, zfb, zfc, G.sz_1, G.sz_2, G.sz_3, G.sz_4, G.sz_0, zfd, zfe, zff, zfg, zfh, zfi, zfj, zfk, zfl, zfm, zfn, zfo, zfp, zfq, zfr, zfs, zft, zfu, zfv, zfw, G.nc_0, G.nc_1, G.nc_2, G.nc_3, G.nc_4, G.nc_5, G.nc_6, G.nc_7, G.nc_8, G.nc_9, zfx, zfy, zfz, zfA, zfB, zfC, zfD, zfE, zfF, zfG, zfH, zfI, zfJ, zfK, zfL, zfM, zfN, zfO, zfP, zfQ, zfR, zfS, zfT, zfU, zfV, zfW, zfX, zfY, zfZ, zga, zgb, zgc, zgd, zge, zgf, zgg, zgh, zgi, zgj, zgk, zgl, zgm, zgn, zgo, zgp, zgq, zgr, zgs, zgt, zgu, zgv, zgw, zgx, zgy, zgz, zgA, zgB, zgC, zgD, zgE, zgF, zgG, zgH, zgI, zgJ, zgK, zgL, zgM, zgN, zgO, zgP, zgQ, zgR, zgS, zgT, zgU, zgV, zgW, zgX, zgY, zgZ, zha, zhb, zhc, zhd, zhe, zhf, zhg, zhh, zhi, zhj, zhk, zhl, zhm, zhn, zho, List.getElem?_cons_zero, List.getElem?_cons_succ, List.set_cons_zero, List.set_cons_succ, G.atI_0, G.atI_1, G.atI_2, G.atI_3, Option.map_some, Option.bind_some, G.eqD_int, G.eqD_cell, G.eqD_bl, List.length_cons, List.length_nil, List.getD_cons_zero, List.getD_cons_succ, Bool.and_true, Bool.and_self, decide_true, decide_false, Bool.not_true, Bool.not_false, List.append_nil, List.nil_append, List.cons_append, if_true, if_false, Bool.false_eq_true, reduceIte, Int.reduceLT, Int.reduceLE, Int.reduceToNat, Int.reducePow, Int.reduceNeg, Int.reduceAdd, Int.reduceSub, Int.reduceMul, Nat.reduceAdd, Int.reduceEq, List.replicate, Nat.reduceSub, and_self, and_true, true_and, $ls,*] $[$loc]?)

/-! ### worlds wrapped to rings -/
theorem mod_inj {w x y : Int} (hw : 0 < w) (e : x % w = y % w) (h1 : x - y < w) (h2 : y - x < w) : x = y := by
  have ex := Int.mul_ediv_add_emod x w
  have ey := Int.mul_ediv_add_emod y w
  rw [e] at ex
  rcases Int.lt_trichotomy (x / w) (y / w) with h | h | h
  · have : w * (x / w + 1) ≤ w * (y / w) := Int.mul_le_mul_of_nonneg_left (by omega) (by omega)
    rw [Int.mul_add, Int.mul_one] at this
    omega
  · rw [h] at ex
    omega
  · have : w * (y / w + 1) ≤ w * (x / w) := Int.mul_le_mul_of_nonneg_left (by omega) (by omega)
    rw [Int.mul_add, Int.mul_one] at this
    omega
theorem onR_inj {w h : Nat} {p q : Int × Int} (hw : 0 < w) (hh : 0 < h) (e : onR w h p = onR w h q) (h1 : p.1 - q.1 < w ∧ q.1 - p.1 < w) (h2 : p.2 - q.2 < h ∧ q.2 - p.2 < h) : p = q := by
  unfold onR at e
  injection e with e1 e2
  exact Prod.ext (mod_inj (by omega) e1 h1.1 h1.2) (mod_inj (by omega) e2 h2.1 h2.2)
def wrapR (w h : Nat) (live : List (Int × Int)) : List (Int × Int) := sortE (live.map (onR w h))
theorem wrap_nodup {l t : Int} {a b w h : Nat} (hw : 0 < w) (hh : 0 < h) {live : List (Int × Int)} (hb : Bx l t a b live) (hn : live.Nodup) (ha : a ≤ w) (hb2 : b ≤ h) : (live.map (onR w h)).Nodup :=
  List.pairwise_map.mpr (hn.imp_of_mem fun {p q} hp hq z e => z (by
    obtain ⟨⟨p1, p2⟩, p3, p4⟩ := hb p hp
    obtain ⟨⟨q1, q2⟩, q3, q4⟩ := hb q hq
    exact onR_inj hw hh e (by omega) (by omega)))
theorem wrap_onring {l t : Int} {a b w h : Nat} (hw : 0 < w) (hh : 0 < h) {live : List (Int × Int)} (hb : Bx l t a b live) (hn : live.Nodup) (ha : a ≤ w) (hb2 : b ≤ h) : OnRing w h (wrapR w h live) :=
  onring_sort (wrap_nodup hw hh hb hn ha hb2) fun p hp => by
    obtain ⟨q, _, rfl⟩ := List.mem_map.mp hp
    exact onR_mem hw hh q
theorem mem_wrap {w h : Nat} {live : List (Int × Int)} {r : Int × Int} : r ∈ wrapR w h live ↔ ∃ p ∈ live, onR w h p = r := by
  unfold wrapR
  rw [mem_sortE, List.mem_map]
/-- near the picture the ring's cells are the plane's -/
theorem wrap_mem {l t : Int} {a b w h : Nat} (hw : 0 < w) (hh : 0 < h) {live : List (Int × Int)} (hb : Bx l t a b live) {c : Int × Int} (h1 : l - 2 ≤ c.1 ∧ c.1 < l + a + 2) (h2 : t - 2 ≤ c.2 ∧ c.2 < t + b + 2) (ha : a + 2 ≤ w) (hb2 : b + 2 ≤ h) : onR w h c ∈ wrapR w h live ↔ c ∈ live := by
  rw [mem_wrap]
  constructor
  · rintro ⟨p, hp, e⟩
    obtain ⟨⟨p1, p2⟩, p3, p4⟩ := hb p hp
    exact onR_inj hw hh e (by omega) (by omega) ▸ hp
  · exact fun hc => ⟨c, hc, rfl⟩
theorem steps_mem {k : Int} (hk : Kind k) {d : Int × Int} : d ∈ stepsL k ↔ neg2 d ∈ near k := by
  rw [← (steps_perm hk).mem_iff, List.mem_map]
  have nn : ∀ d : Int × Int, neg2 (neg2 d) = d := fun d => by
    unfold neg2
    apply Prod.ext <;> simp only <;> omega
  constructor
  · rintro ⟨e, he, rfl⟩
    rw [nn]
    exact he
  · exact fun h => ⟨neg2 d, h, nn d⟩
theorem steps_small {k : Int} (hk : Kind k) {d : Int × Int} (h : d ∈ stepsL k) : (-1 ≤ d.1 ∧ d.1 ≤ 1) ∧ -1 ≤ d.2 ∧ d.2 ≤ 1 := by
  have := near_small ((steps_mem hk).mp h)
  unfold neg2 at this
  simp only at this
  omega
theorem livesP_steps {k : Int} (hk : Kind k) {live : List (Int × Int)} (hn : live.Nodup) (c : Int × Int) : livesP k live c = (stepsL k).countP fun d => decide (sh d c ∈ live) := by
  rw [← imgsP_count]
  unfold imgsP
  rw [count_flat (fun p d => sh d p), ← (steps_perm hk).countP_eq, List.countP_map]
  refine sum_ite _ _ _ fun d _ => ?_
  have e : (live.countP fun p => decide (sh d p = c)) = live.count (sh (neg2 d) c) := by
    rw [List.count_eq_countP]
    refine List.countP_congr fun p _ => ?_
    rw [decide_eq_true_eq, beq_iff_eq]
    constructor
    · rintro rfl
      rw [sh_neg]
    · rintro rfl
      rw [sh_neg']
  rw [e]
  show _ = if decide (sh (neg2 d) c ∈ live) = true then 1 else 0
  by_cases hm : sh (neg2 d) c ∈ live
  · rw [if_pos (decide_eq_true hm)]
    have h1 := List.nodup_iff_count.mp hn (sh (neg2 d) c)
    have h2 := List.count_pos_iff.mpr hm
    omega
  · rw [if_neg (by simpa using hm)]
    exact List.count_eq_zero.mpr hm
theorem lives_wrap {l t : Int} {a b w h : Nat} (hw : 0 < w) (hh : 0 < h) {k : Int} (hk : Kind k) {live : List (Int × Int)} (hb : Bx l t a b live) (hn : live.Nodup) {c : Int × Int} (h1 : l - 1 ≤ c.1 ∧ c.1 < l + a + 1) (h2 : t - 1 ≤ c.2 ∧ c.2 < t + b + 1) (ha : a + 2 ≤ w) (hb2 : b + 2 ≤ h) : lives w h k (wrapR w h live) (onR w h c) = livesP k live c := by
  rw [livesP_steps hk hn]
  unfold lives
  refine List.countP_congr fun d hd => ?_
  obtain ⟨⟨d1, d2⟩, d3, d4⟩ := steps_small hk hd
  rw [onR_sh, decide_eq_true_eq, decide_eq_true_eq]
  refine wrap_mem hw hh hb ?_ ?_ ha hb2 <;> (unfold sh; simp only; omega)
theorem next_wrap {l t : Int} {a b w h : Nat} (hw : 0 < w) (hh : 0 < h) {k : Int} (hk : Kind k) {bs : List Int} (hq : 0 ∉ bs) (ss : List Int) {live : List (Int × Int)} (hb : Bx l t a b live) (hn : live.Nodup) (ha : a + 2 ≤ w) (hb2 : b + 2 ≤ h) : nextR w h k bs ss (wrapR w h live) = wrapR w h (nextP k bs ss live) := by
  have hbx := hb.next k bs ss
  refine (nextR_onring w h k bs ss _).ext (wrap_onring hw hh hbx (nextP_pic k bs ss live).nodup ha hb2) fun r => ?_
  have at_ : ∀ c : Int × Int, (l - 1 ≤ c.1 ∧ c.1 < l + a + 1) → (t - 1 ≤ c.2 ∧ c.2 < t + b + 1) → ((((lives w h k (wrapR w h live) (onR w h c) : Nat) : Int) ∈ if onR w h c ∈ wrapR w h live then ss else bs) ↔ cond k bs ss live c = true) := fun c h1 h2 => by
    unfold cond
    rw [lives_wrap hw hh hk hb hn h1 h2 ha hb2, decide_eq_true_eq]
    have e : (onR w h c ∈ wrapR w h live) = (c ∈ live) := propext (wrap_mem hw hh hb (by omega) (by omega) ha hb2)
    simp only [e]
  unfold nextR
  rw [List.mem_filter, decide_eq_true_eq, mem_wrap (live := nextP k bs ss live)]
  constructor
  · rintro ⟨hr, hc⟩
    obtain ⟨c, h1, h2, rfl⟩ : ∃ c : Int × Int, (l - 1 ≤ c.1 ∧ c.1 < l + a + 1) ∧ (t - 1 ≤ c.2 ∧ c.2 < t + b + 1) ∧ onR w h c = r := by
      by_cases hm : r ∈ wrapR w h live
      · obtain ⟨p, hp, e⟩ := mem_wrap.mp hm
        obtain ⟨⟨p1, p2⟩, p3, p4⟩ := hb p hp
        exact ⟨p, by omega, by omega, e⟩
      · rw [if_neg hm] at hc
        have pos : lives w h k (wrapR w h live) r ≠ 0 := fun z => by
          rw [z] at hc
          exact hq hc
        obtain ⟨d, hd, hdm⟩ := List.countP_pos_iff.mp (Nat.pos_of_ne_zero pos)
        obtain ⟨p, hp, e⟩ := mem_wrap.mp (of_decide_eq_true hdm)
        obtain ⟨⟨p1, p2⟩, p3, p4⟩ := hb p hp
        obtain ⟨⟨d1, d2⟩, d3, d4⟩ := steps_small hk hd
        refine ⟨sh (neg2 d) p, by unfold sh neg2; simp only; omega, by unfold sh neg2; simp only; omega, ?_⟩
        have := congrArg (fun q => onR w h (sh (neg2 d) q)) e
        simp only [onR_sh, sh_neg] at this
        rw [this, onR_id hr]
    exact ⟨c, (mem_nextP hq ss live c).mpr ((at_ c h1 h2).mp hc), rfl⟩
  · rintro ⟨c, hc, rfl⟩
    obtain ⟨⟨c1, c2⟩, c3, c4⟩ := hbx c hc
    exact ⟨onR_mem hw hh c, (at_ c (by omega) (by omega)).mpr ((mem_nextP hq ss live c).mp hc)⟩
theorem after_wrap {l t : Int} {a b w h : Nat} (hw : 0 < w) (hh : 0 < h) {k : Int} (hk : Kind k) {bs : List Int} (hq : 0 ∉ bs) (ss : List Int) {live : List (Int × Int)} (hb : Bx l t a b live) (hp : Pic live) : ∀ n : Nat, a + 2 * n ≤ w → b + 2 * n ≤ h → afterR w h k bs ss (wrapR w h live) n = wrapR w h (afterP k bs ss live n)
  | 0, _, _ => rfl
  | n + 1, h1, h2 => by
    show nextR w h k bs ss _ = wrapR w h (nextP k bs ss _)
    rw [after_wrap hw hh hk hq ss hb hp n (by omega) (by omega)]
    exact next_wrap hw hh hk hq ss (hb.after k bs ss n) (afterP_pic hp n).nodup (by omega) (by omega)
/-! the walk's terms -/
noncomputable def pb_wrapped_1 : XS := (xSeq (xSet 5 (xCall p_on_ring (xCons (xVar 0) (xCons (xVar 3) (xCons (xVar 4) xNil)))))
    (xSeq (xIfS (xTest (xCmpO dInX (xVar 5) 2))
    (xRaise "Folded")
    xNext)
    (xDPut 2 (xVar 5) (xC (.bl true)))))
noncomputable def pb_wrapped : XS := (xSeq (xDrop (xCall p_ask_ring (xCons (xVar 0) xNil)))
    (xSeq (xSetO 2 (xC (.dicT false [])))
    (xSeq (xFor (xItO 1) (gsTup 2 (gsCons (gSet 3) (gsCons (gSet 4) gsNil))) pb_wrapped_1)
    (xRet (xOpL dSorted (xCons (xKeysD 2) xNil))))))
noncomputable def p_wrapped : DF := runP [false, true] 6 true pb_wrapped
theorem keys_encB (T : List ((Int × Int) × Bool)) : (encE D.bl T).map (fun e => D.tup (e.1.map dKey)) = (T.map (·.1)).map cellP := by
  unfold encE
  rw [List.map_map, List.map_map]
  rfl
theorem ptA_new {α : Type} (l : List ((Int × Int) × α)) (k : Int × Int) (v : α) (h : k ∉ l.map (·.1)) : ptA l k v = l ++ [(k, v)] := by
  unfold ptA
  rw [if_neg]
  rw [lkA_any]
  intro z
  exact h ((mem_keys l k).mpr z)
theorem allT_keys : ∀ {l : List (Int × Int)}, l.Nodup → (allT l).map (·.1) = l := by
  intro l
  suffices ∀ (l : List (Int × Int)) (T : List ((Int × Int) × Bool)), l.Nodup → (∀ c ∈ l, c ∉ T.map (·.1)) → (l.foldl (fun T c => ptA T c true) T).map (·.1) = T.map (·.1) ++ l by
    intro h
    have := this l [] h (by simp)
    unfold allT
    simpa using this
  intro l
  induction l with
  | nil => intro T _ _; simp
  | cons a l ih =>
    intro T hn hT
    obtain ⟨n1, n2⟩ := List.nodup_cons.mp hn
    rw [List.foldl_cons, ptA_new T a true (hT a (by simp)), ih _ n2 (fun c hc => by
      rw [List.map_append, List.mem_append]
      rintro (z | z)
      · exact hT c (by simp [hc]) z
      · have : c = a := by simpa using z
        exact n1 (this ▸ hc))]
    simp
theorem wrapped_is {w h : Nat} {W H : Int} (eW : (w : Int) = W) (eH : (h : Int) = H) (hw : 3 ≤ w ∧ w ≤ 40) (hh : 3 ≤ h ∧ h ≤ 40) {live : List (Int × Int)} (hn : (live.map (onR w h)).Nodup) (hl : live.length ≤ 1600) : p_wrapped [.tup [.int W, .int H], cells live] = .ok (cells (wrapR w h live)) [] := by
  unfold p_wrapped pb_wrapped
  have e1 := ask_ring_is hw hh
  obtain ⟨ρ', e, s3, s4, s5, rfl⟩ := for_list (g := gsTup 2 (gsCons (gSet 3) (gsCons (gSet 4) gsNil))) (body := pb_wrapped_1) (e := cellP) (fun i ρ => ∃ s3 s4 s5, ρ = [.val (.tup [.int W, .int H]), .rd (cells live), .own (.dicT false (encE D.bl (allT ((live.map (onR w h)).take i)))), s3, s4, s5]) (l := live) (ρ := [.val (.tup [.int W, .int H]), .rd (cells live), .own (.dicT false []), .emp, .emp, .emp]) ⟨_, _, _, rfl⟩ (fun i p ρ hi hρ => by
    obtain ⟨s3, s4, s5, rfl⟩ := hρ
    obtain ⟨x, y⟩ := p
    refine ⟨_, rfl, ?_⟩
    have l1 : i < live.length := (List.getElem?_eq_some_iff.mp hi).1
    have hz : (encE D.bl (allT ((live.map (onR w h)).take i))).length < sizeLine := by
      have := allT_len ((live.map (onR w h)).take i)
      rw [List.length_take, List.length_map] at this
      rw [encE_len]
      exact szBl (by omega)
    have e2 := on_ring_is (w := w) (h := h) (by omega) (by omega) x y
    have hi2 : (live.map (onR w h))[i]? = some (onR w h (x, y)) := by rw [List.getElem?_map, hi]; rfl
    have hnew : onR w h (x, y) ∉ (live.map (onR w h)).take i := fun z => by
      have t1 := take_snoc hi2
      have t2 := hn.sublist (List.take_sublist (i + 1) _)
      rw [t1] at t2
      exact (List.nodup_append.mp t2).2.2 _ z _ (by simp) rfl
    rw [take_snoc hi2, allT_snoc]
    generalize onR w h (x, y) = c at *
    obtain ⟨u, v⟩ := c
    unfold pb_wrapped_1
    simp! [sizeD, cellP, cells] at e2 ⊢
    rw [eW, eH] at e2
    simp! [e2, hz, pt_bl, lk_some, allT_lk, hnew, zgI, zgG]
    exact ⟨_, .inl rfl, _, _, _, rfl⟩)
  have tl : (live.map (onR w h)).take live.length = live.map (onR w h) := List.take_of_length_le (by rw [List.length_map]; exact Nat.le_refl _)
  rw [tl] at e
  simp! [cells, sizeD] at e1 e ⊢
  rw [eW, eH] at e1
  simp! [e1, e, zgW, keys_encB, allT_keys hn, sorted_cells]
  rfl
end G

set_option maxHeartbeats 4000000
namespace G
open PySem PySem.Spec PyProof.Rows L2

/-! ### for k in d: the dict is locked from then on -/
def tFrz (t : TS) : TS := fun C σ H => t C σ H ∨ ∃ d u, H d = some u ∧ Mut (some u) ∧ ∀ od, t C σ (upd H d (.frz od u))
theorem ps_frz {X : Cx} {st : Stmt} {t : TS} (h : PS X st t) : PS X st (tFrz t) := by
  refine ⟨fun pins s σ H D I hw => ?_⟩
  rcases hw with hw | ⟨d, u, hd, mu, hw⟩
  · exact h.run pins s σ _ _ I hw
  · obtain ⟨od, I1⟩ := I.lock hd mu
    exact h.run pins s σ _ _ I1 (hw od)
def tFrzE (t : TE) : TE := fun σ H Q => t σ H Q ∨ ∃ d u, H d = some u ∧ Mut (some u) ∧ ∀ od, t σ (upd H d (.frz od u)) Q
theorem pe_frz {X : Cx} {e : Expr} {t : TE} (h : PE X e t) : PE X e (tFrzE t) := by
  refine ⟨fun pins s σ H Q I hw => ?_⟩
  rcases hw with hw | ⟨d, u, hd, mu, hw⟩
  · exact h.run pins s σ _ _ I hw
  · obtain ⟨od, I1⟩ := I.lock hd mu
    exact h.run pins s σ _ _ I1 (hw od)
/-- the slots once the dict at i is locked -/
def frzR (i : Nat) (ρ : Rho) : Option Rho := match ownD i ρ with
  | some (.dicT false es) => some (ρ.set i (.own (.dicT true es)))
  | some (.dicK false es) => some (ρ.set i (.own (.dicK true es)))
  | some (.dicT true _) => some ρ
  | some (.dicK true _) => some ρ
  | _ => none
def frzS (i : Nat) (t : XS) : XS := fun ρ => match frzR i ρ with
  | some ρ1 => t ρ1
  | none => .bad
def frzV {α : Type} (i : Nat) (t : Rho → Res α) : Rho → Res α := fun ρ => match frzR i ρ with
  | some ρ1 => t ρ1
  | none => .bad
section
variable {X : Cx} {E : EW} {fr : Bool} {pos : Pos}
theorem frz_of {K : PySem.W.Frag} {i : Nat} {ρ ρ1 : Rho} {σ : L2.St} {F H : Hp} (r : Rel K F H ρ σ) (e : frzR i ρ = some ρ1) :
    ρ1 = ρ ∨ ∃ d u, H d = some u ∧ Mut (some u) ∧ ∀ od, Go K ρ σ F H ρ1 σ F (upd H d (.frz od u)) := by
  unfold frzR at e
  split at e
  · rename_i es q
    cases e
    obtain ⟨p, o, s0, f0, h0, ro⟩ := r.own (ownD_of q)
    cases ro with
    | @dicT _ _ kvs _ hk hr => exact .inr ⟨p, _, h0, trivial, fun od => Go.mut r (ownD_of q) s0 f0 h0 (Ro.dicT (z := true) (o := od) hk hr)⟩
  · rename_i es q
    cases e
    obtain ⟨p, o, s0, f0, h0, ro⟩ := r.own (ownD_of q)
    cases ro with
    | @dicK _ _ kvs _ hk hr => exact .inr ⟨p, _, h0, trivial, fun od => Go.mut r (ownD_of q) s0 f0 h0 (Ro.dicK (z := true) (o := od) hk hr)⟩
  · cases e; exact .inl rfl
  · cases e; exact .inl rfl
  · cases e
theorem xs_frz (i : Nat) {s : Stmt} {t : XS} (h : PS X s (lS X.K E fr t)) : PS X s (lS X.K E fr (frzS i t)) := ps_imp (ps_frz h) fun C σ H h => by
  obtain ⟨F, ρ, r, p⟩ := h
  cases e : frzR i ρ with
  | none =>
    unfold PendS frzS at p
    simp only [e] at p
  | some ρ1 =>
    have p : PendS X.K E fr (fun _ => t ρ1) ρ σ F H C := by
      unfold PendS frzS at p
      simp only [e] at p
      unfold PendS
      exact p
    rcases frz_of r e with rfl | ⟨d, u, hd, mu, g⟩
    · exact .inl ⟨F, _, r, p⟩
    · exact .inr ⟨d, u, hd, mu, fun od => ⟨F, ρ1, (g od).rel, PendS.go r (g od) p⟩⟩
/-! the walk itself -/
def dKeysT : D → Option (List D)
  | .dicT true es => some (es.map fun e => .tup (e.1.map dKey))
  | _ => none
def xItK (i : Nat) : XA := fun ρ => match ρ[i]? with
  | some (.rd d) => lift dKeysT d ρ
  | _ => .bad
theorem iters_keysT {K : PySem.W.Frag} {ρ : Rho} {σ : L2.St} {F H : Hp} {a : Addr} {o : Obj} {kvs : List (List Key × V)} {es : List (List Key × D)} (hk : kvs.map (·.1) = es.map (·.1)) (h : ∀ ρ2 σ2 F2 H2, Go K ρ σ F H ρ2 σ2 F2 H2 → H2 a = some (.frz o (.dT kvs))) : Iters K ρ σ F H (es.map fun e => .tup (e.1.map dKey)) (Itkt a o kvs) := fun ρ2 σ2 F2 H2 g => by
  have hlen : kvs.length = es.length := by
    have := congrArg List.length hk
    simpa using this
  refine ⟨fun i d hd => ?_, fun i hi => ⟨h ρ2 σ2 F2 H2 g, by rw [List.length_map] at hi; omega⟩⟩
  rw [List.getElem?_map] at hd
  obtain ⟨e, he, rfl⟩ := Option.map_eq_some_iff.mp hd
  have hi : i < es.length := (List.getElem?_eq_some_iff.mp he).1
  refine ⟨⟨h ρ2 σ2 F2 H2 g, by omega⟩, fun x H3 y => ?_⟩
  obtain ⟨rfl, k, v, q, hkv, rfl, hq⟩ := y
  have ek : k = e.1 := by
    have h1 : (kvs.map (·.1))[i]? = some k := by rw [List.getElem?_map, hkv]; rfl
    rw [hk, List.getElem?_map, he] at h1
    exact (Option.some.inj h1).symm
  subst ek
  obtain ⟨F3, f1, f2, f3, f4⟩ := keys_known (K := K) (kvs := [(e.1, v)]) (es := [e]) (bs := [q]) g.rel.ex rfl (.cons hq .nil)
  refine ⟨F3, ⟨f1, Same.refl _, f2, f3⟩, ?_⟩
  cases f4 with
  | cons r _ => exact r
theorem xi_keys {tg : Expr} {i : Nat} {x : Str} {xp : Pos} (ho : PE X (.Name x xp) (tVar i)) : PI X tg (.Name x xp) (lI X.K E (xItK i)) := pi_imp (pi_keys ho) fun σ H R h => by
  obtain ⟨F, ρ, r, p⟩ := h
  unfold Pend xItK at p
  split at p <;> rename_i e
  · split at e
    · rename_i ρ' d q
      have hd : rdD i ρ = some d := by unfold rdD; rw [q]
      obtain ⟨v, s1, ra⟩ := r.rd hd
      refine ⟨v, s1, ?_⟩
      unfold lift at e
      split at e
      · rename_i ds hds
        cases e
        unfold dKeysT at hds
        split at hds
        · cases hds
          cases ra with
          | val rv nf =>
            cases rv with
            | dicT hf hk hr => exact ⟨_, _, rfl, .inr ⟨_, r.ex _ _ hf, p F H (Go.refl r) _ (iters_keysT hk fun ρ2 σ2 F2 H2 g => g.rel.ex _ _ (g.ex _ _ hf))⟩⟩
          | own f1 h1 ro =>
            have nO := r.rdis i _ _ q s1
            cases ro with
            | dicT hk hr => exact ⟨_, _, rfl, .inr ⟨_, h1, p F H (Go.refl r) _ (iters_keysT hk fun ρ2 σ2 F2 H2 g => (g.keep _ _ h1 f1 nO).1)⟩⟩
        · cases hds
      · cases e
    · cases e
  · split at e
    · unfold lift at e
      split at e <;> cases e
    · cases e
  · exact p.elim
end
/-! the plain side -/
section
variable {α : Type} (ρ : Rho) (i : Nat) (t : XS) (u : Rho → Res α)
def frzO (i : Nat) (ρ : Rho) (o : Option D) : Option Rho := match o with
  | some (.dicT false es) => some (ρ.set i (.own (.dicT true es)))
  | some (.dicK false es) => some (ρ.set i (.own (.dicK true es)))
  | some (.dicT true _) => some ρ
  | some (.dicK true _) => some ρ
  | _ => none
theorem zhp : frzR i ρ = frzO i ρ (ownD i ρ) := rfl
theorem zhq (es : List (List Key × D)) : frzO i ρ (some (.dicT false es)) = some (ρ.set i (.own (.dicT true es))) := rfl
theorem zhr (es : List (List Key × D)) : frzO i ρ (some (.dicT true es)) = some ρ := rfl
def frzS1 (t : XS) (o : Option Rho) : Fl := match o with
  | some ρ1 => t ρ1
  | none => .bad
theorem zhs : frzS i t ρ = frzS1 t (frzR i ρ) := rfl
theorem zht : frzS1 t (some ρ) = t ρ := rfl
def itKO (o : Option Slot) (ρ : Rho) : Res (List D) := match o with
  | some (.rd d) => lift dKeysT d ρ
  | _ => .bad
theorem zhu : xItK i ρ = itKO ρ[i]? ρ := rfl
theorem zhv (d : D) : itKO (some (.rd d)) ρ = liftO (dKeysT d) ρ := rfl
theorem zhw (es : List (List Key × D)) : dKeysT (.dicT true es) = some (es.map fun e => .tup (e.1.map dKey)) := rfl
end
end G

set_option maxHeartbeats 4000000
namespace G
open PySem PySem.Spec PyProof.Rows L2

/-! ### tuple(range(n)), range(a, b, c), enumerate -/
def dTRg1 (x : D) : Option D := match x with
  | .int n => if 0 ≤ n ∧ n ≤ 16777216 then some (.tup (rangeD 0 n.toNat)) else none
  | _ => none
def enumF : Nat → List D → List D
  | _, [] => []
  | n, d :: r => .tup [.int (n : Nat), d] :: enumF (n + 1) r
theorem enumF_get : ∀ (ds : List D) (n i : Nat), (enumF n ds)[i]? = ds[i]?.map fun d => .tup [.int ((n + i : Nat) : Int), d]
  | [], n, i => by simp [enumF]
  | d :: r, n, 0 => rfl
  | d :: r, n, i + 1 => by
    show (enumF (n + 1) r)[i]? = _
    rw [enumF_get r (n + 1) i, List.getElem?_cons_succ, show n + 1 + i = n + (i + 1) by omega]
theorem enumF_len : ∀ (ds : List D) (n : Nat), (enumF n ds).length = ds.length
  | [], _ => rfl
  | d :: r, n => by
    show (enumF (n + 1) r).length + 1 = r.length + 1
    rw [enumF_len r (n + 1)]
def rangeS (a c : Int) (n : Nat) : List D := (List.range n).map fun i => D.int (a + ((i : Nat) : Int) * c)
/-- how many steps of c from a stay below b -/
def stepsN (a b c : Int) : Nat := ((b - a + c - 1) / c).toNat
def dRange3 (x y z : D) : Option (List D) := match x, y, z with
  | .int a, .int b, .int c => if 0 < c ∧ c ≤ 1000 ∧ Builtin.Range.small a b c = true ∧ Builtin.Range.rangeSize a b c = (stepsN a b c : Nat) then some (rangeS a c (stepsN a b c)) else none
  | _, _, _ => none
section
variable {X : Cx} {E : EW} {fr : Bool} {pos : Pos}
theorem xe_tupR1 {e : Expr} {te : XV} {p p2 pos2 : Pos} (hc : X.calm = true) (hg : Gl X "tuple") (hm : X.mg "tuple" = none) (hg2 : Gl X "range") (hm2 : X.mg "range" = none) (he : PE X e (lE X.K E te))
    (s1 : starEach [e] X.env = (false, eval e X.env) :: starEach [] X.env := by rfl) (s2 : starEach [.Call (.Name "range" p2) [e] [] pos2] X.env = (false, eval (.Call (.Name "range" p2) [e] [] pos2) X.env) :: starEach [] X.env := by rfl) :
    PE X (.Call (.Name "tuple" p) [.Call (.Name "range" p2) [e] [] pos2] [] pos) (lE X.K E (xOp1 dTRg1 te)) := by
  refine pe_imp (pe_tupRg hc hg hm (prg_1 hg2 hm2 he s1) s2) fun σ H Q h => ?_
  obtain ⟨F, ρ, r, p⟩ := h
  refine ⟨F, ρ, r, (Pend.bind r p).mono fun x ρ1 F1 H1 g1 q v rv => ?_⟩
  obtain ⟨d, ed, q2⟩ := q.lift
  have o := outV_of g1.rel q2
  unfold dTRg1 at ed
  split at ed
  · rename_i n
    split at ed
    · rename_i hz
      cases ed
      cases rv
      refine ⟨n, rfl, RgOk.of_le (by decide) hz.2 (by decide) hz.1, fun q hq => o.new g1.rel.ex hq (.tup upd_same ?_)⟩
      have := rg_all (K := X.K) (F := F1) 0 n
      rw [Int.sub_zero] at this
      exact this.mono (Gr.new (o := .tup _) g1.rel.ex hq).ex
    · cases ed
  · cases ed
def r3k2 (x y : D) : D → Rho → Res (List D) := fun z ρ1 => lift (dRange3 x y) z ρ1
def r3k1 (tc : XV) (x : D) : D → Rho → Res (List D) := fun y ρ1 => (tc ρ1).bind (r3k2 x y)
def r3k0 (tb tc : XV) : D → Rho → Res (List D) := fun x ρ1 => (tb ρ1).bind (r3k1 tc x)
def xItR3 (ta tb tc : XV) : XA := fun ρ => (ta ρ).bind (r3k0 tb tc)
theorem iters_step {K : PySem.W.Frag} {ρ : Rho} {σ : L2.St} {F H : Hp} {lo c : Int} {n : Nat} : Iters K ρ σ F H (rangeS lo c n) (Itc lo c n) := fun ρ2 σ2 F2 H2 g =>
  ⟨fun i d hd => by
    unfold rangeS at hd
    rw [List.getElem?_map] at hd
    obtain ⟨j, hj, rfl⟩ := Option.map_eq_some_iff.mp hd
    have hi := (List.getElem?_eq_some_iff.mp hj).1
    rw [List.length_range] at hi
    rw [List.getElem?_range hi] at hj
    cases hj
    exact ⟨hi, fun x H3 y => by
      obtain ⟨rfl, rfl⟩ := y
      exact ⟨F2, Gr.refl g.rel.ex, .int _⟩⟩, fun i hi => by
    unfold rangeS at hi
    rw [List.length_map, List.length_range] at hi
    exact hi⟩
theorem dRange3_of {x y z : D} {ds : List D} (e : dRange3 x y z = some ds) : ∃ i j k : Int, x = .int i ∧ y = .int j ∧ z = .int k ∧ (0 < k ∧ k ≤ 1000 ∧ Builtin.Range.small i j k = true ∧ Builtin.Range.rangeSize i j k = (stepsN i j k : Nat)) ∧ ds = rangeS i k (stepsN i j k) := by
  unfold dRange3 at e
  split at e
  · split at e
    · rename_i hz
      cases e
      exact ⟨_, _, _, rfl, rfl, rfl, hz, rfl⟩
    · cases e
  · cases e
theorem xi_range3 {tg a b c : Expr} {p : Pos} {ta tb tc : XV} (hg : Gl X "range") (hm : X.mg "range" = none) (ha : PE X a (lE X.K E ta)) (hb : PE X b (lE X.K E tb)) (hc : PE X c (lE X.K E tc))
    (hs : starEach [a, b, c] X.env = (false, eval a X.env) :: starEach [b, c] X.env := by rfl) (hs2 : starEach [b, c] X.env = (false, eval b X.env) :: starEach [c] X.env := by rfl) (hs3 : starEach [c] X.env = [(false, eval c X.env)] := by rfl)
    (hpl : (backTo pos (starEach [b, c] X.env)).any (·.1) = false := by rfl) :
    PI X tg (.Call (.Name "range" p) [a, b, c] [] pos) (lI X.K E (xItR3 ta tb tc)) := pi_imp (pi_range3 hg hm (pa_cons ha (pa_cons hb (pa_cons hc pa_nil hs3) hs2) hs) hs hpl) fun σ H R h => by
  obtain ⟨F, ρ, r, p⟩ := h
  refine ⟨F, ρ, r, (Pend.bind r p).mono fun x ρ1 F1 H1 g1 q v rv => ⟨F1, ρ1, g1.rel, (Pend.bind g1.rel q).mono fun y ρ2 F2 H2 g2 q w rw1 => ⟨F2, ρ2, g2.rel, (Pend.bind g2.rel q).mono fun z ρ3 F3 H3 g3 q u ru => ?_⟩⟩⟩
  obtain ⟨d, e, q⟩ := Pend.lift (f := dRange3 x y) (x := z) q
  obtain ⟨i, j, k, rfl, rfl, rfl, hz, rfl⟩ := dRange3_of e
  cases rv
  cases rw1
  cases ru
  have := q F3 H3 (Go.refl g3.rel) _ iters_step
  exact ⟨i, j, k, _, rfl, ⟨by omega, by omega, hz.2.2.1, hz.2.2.2⟩, this⟩
end
/-! the plain side -/
section
variable (ρ : Rho) (ta tb tc : XV)
theorem zhx {n : Int} (h : 0 ≤ n ∧ n ≤ 16777216) : dTRg1 (.int n) = some (.tup (rangeD 0 n.toNat)) := if_pos h
theorem zhy {a b c : Int} (h : 0 < c ∧ c ≤ 1000 ∧ Builtin.Range.small a b c = true ∧ Builtin.Range.rangeSize a b c = (stepsN a b c : Nat)) : dRange3 (.int a) (.int b) (.int c) = some (rangeS a c (stepsN a b c)) := if_pos h
theorem zhz : xItR3 ta tb tc ρ = (ta ρ).bind (r3k0 tb tc) := rfl
theorem zhA (x : D) : r3k0 tb tc x ρ = (tb ρ).bind (r3k1 tc x) := rfl
theorem zhB (x y : D) : r3k1 tc x y ρ = (tc ρ).bind (r3k2 x y) := rfl
theorem zhC (x y z : D) : r3k2 x y z ρ = liftO (dRange3 x y z) ρ := rfl
end
end G

set_option maxHeartbeats 4000000
namespace G
open PySem PySem.Spec PyProof.Rows L2

/-! ### tuple * 0, tuple * 1 -/
theorem tup_mul1 (l : Addr) (items : Array Value) (n : Nat) (dd : Option Addr) (sl : Array (Option Value)) (u : Tok) :
    Meets (Builtin.«tuple.__mul__» ⟨[.ref l, .int 1 u], []⟩) (fun _ R s => s.heap.get? l = some { cls := .type "tuple", dict := dd, data := .seq items n, slots := sl } ∧ R (.ok (.ret (Value.ref l))) s) :=
  .of_wp fun prog w A R s h => by
    obtain ⟨hp, g, d, tk, os⟩ := s
    obtain ⟨hl, h⟩ := h
    have f1 := AutoSeq1.idx_int
    wp_walk using wpAny_loadPart' hl
    repeat (first
      | (refine wpAny_ite_false (decide_eq_false (by decide)) ?_; wp_walk using wpAny_loadPart' hl)
      | (refine wpAny_ite_true (decide_eq_true (by simp)) ?_; wp_walk using wpAny_loadPart' hl))
    exact ⟨_, rfl, h⟩
theorem tup_mul0 (l : Addr) (items : Array Value) (hi : items.isEmpty = false) (n : Nat) (dd : Option Addr) (sl : Array (Option Value)) (u : Tok) :
    Meets (Builtin.«tuple.__mul__» ⟨[.ref l, .int 0 u], []⟩) (fun _ R s => s.heap.get? l = some { cls := .type "tuple", dict := dd, data := .seq items n, slots := sl } ∧
      R (.ok (.ret (Value.ref s.heap.objs.size))) { s with heap := s.heap.push { cls := Value.type "tuple", data := Data.seq #[] }, toks := s.toks }) :=
  .of_wp fun prog w A R s h => by
    obtain ⟨hp, g, d, tk, os⟩ := s
    obtain ⟨hl, h⟩ := h
    have f1 := AutoSeq1.idx_int
    wp_walk using wpAny_loadPart' hl
    repeat (first
      | (refine wpAny_ite_false (decide_eq_false (by decide)) ?_; wp_walk using wpAny_loadPart' hl)
      | (refine wpAny_ite_false (decide_eq_false (by rw [hi]; decide)) ?_; wp_walk using wpAny_loadPart' hl)
      | (refine wpAny_ite_true (decide_eq_true (by simp)) ?_; wp_walk using wpAny_loadPart' hl))
    exact ⟨_, rfl, h⟩
/-- tuple * int for few repetitions -/
def rRep01 (K : PySem.W.Frag) : R2 := fun x y H Q => ∃ l k xs, x = .ref l ∧ y = .int k ∧ SqT K H l xs ∧ xs ≠ [] ∧ ((k = 1 ∧ Q (.ref l) H) ∨ (k = 0 ∧ ∀ p, H p = none → Q (.ref p) (upd H p (.tup []))))
theorem op_rep01 {X : Cx} : OpR X (binaryOp .Mult) (rRep01 X.K) := by
  intro pins s σ H x y v u Q I rx ry h
  obtain ⟨l, k, xs, rfl, rfl, hT, hne, h⟩ := h
  cases rx
  obtain ⟨t, rfl⟩ := ry
  obtain ⟨its, r, ⟨⟨cls, dd, data, sl⟩, ho, hc, n, hd⟩, hs⟩ := I.tuple hT
  simp only at hc hd
  subst hc hd
  have hle : its.length = xs.length := r.length.symm
  have hn : its ≠ [] := fun e => hne (by
    rw [e] at hle
    exact List.eq_nil_of_length_eq_zero hle.symm)
  have hi : its.toArray.isEmpty = false := by
    cases its with
    | nil => exact absurd rfl hn
    | cons a b => rfl
  rcases h with ⟨rfl, q⟩ | ⟨rfl, q⟩
  · exact wpAny_binaryOp_repeat_ref (T := "tuple") (U := "int") (by decide) ⟨_, ho, rfl⟩ (fun s' => typeIs_int s' 1 t) noFill_tuple_mul F.fills_int_mul F.slot_int_rmul repeat_tuple F.slot_int_index.lookup
      (call_meets F.slot_int_rmul (typeIs_int s 1 t) F.entry_int_rmul (F.args_int_rmul_2 _ _) (int_rmul_tuple 1 t l its.toArray n dd sl)
        ⟨ho, rfl, ⟨_, ho, rfl⟩, call_meets F.slot_tuple_mul ⟨_, ho, rfl⟩ F.entry_tuple_mul (F.args_tuple_mul_2 _ _) (tup_mul1 l its.toArray n dd sl t) ⟨ho, ⟨.ref l, H, I, rfl, q⟩⟩⟩)
  · refine wpAny_binaryOp_repeat_ref (T := "tuple") (U := "int") (by decide) ⟨_, ho, rfl⟩ (fun s' => typeIs_int s' 0 t) noFill_tuple_mul F.fills_int_mul F.slot_int_rmul repeat_tuple F.slot_int_index.lookup
      (call_meets F.slot_int_rmul (typeIs_int s 0 t) F.entry_int_rmul (F.args_int_rmul_2 _ _) (int_rmul_tuple 0 t l its.toArray n dd sl)
        ⟨ho, rfl, ⟨_, ho, rfl⟩, call_meets F.slot_tuple_mul ⟨_, ho, rfl⟩ F.entry_tuple_mul (F.args_tuple_mul_2 _ _) (tup_mul0 l its.toArray hi n dd sl t) ⟨ho, ?_⟩⟩)
    refine ⟨.ref s.heap.objs.size, _, I.laid (t' := s.toks) (o := .tup []) (fun b ob q => Heap.get?_push_of_some _ q) (Nat.le_refl _) ?_, rfl, q _ (I.hok.fresh (Nat.le_refl _))⟩
    exact ⟨Nat.zero_le _, [], .nil, IsTup.new _ _⟩
def dMulT : D → D → Option D
  | .int i, .int j => if CMulA i j then some (.int (i * j)) else none
  | .tup (d :: ds), .int 1 => some (.tup (d :: ds))
  | .tup (_ :: _), .int 0 => some (.tup [])
  | _, _ => none
def rMulT (K : PySem.W.Frag) : R2 := fun x y H Q => rI CMulA (fun i j => .int (i * j)) x y H Q ∨ rRep01 K x y H Q
theorem op_mulT {X : Cx} : OpR X (binaryOp .Mult) (rMulT X.K) := op_mulA.or op_rep01
theorem imp_mulT {K : PySem.W.Frag} : Imp2 K dMulT (rMulT K) := fun F H v w x y d Q ex rv rw1 e o => by
  unfold dMulT at e
  split at e
  · split at e
    · rename_i hc
      cases e; cases rv; cases rw1
      exact .inl ⟨_, _, rfl, rfl, hc, o.here ex (.int _)⟩
    · cases e
  · cases e; cases rw1
    have rv' := rv
    cases rv with
    | tup hf ra =>
      refine .inr ⟨_, _, _, rfl, rfl, SqT.of (ex _ _ hf), fun z => ?_, .inl ⟨rfl, o.here ex rv'⟩⟩
      subst z
      cases ra
  · cases e; cases rw1
    cases rv with
    | tup hf ra =>
      refine .inr ⟨_, _, _, rfl, rfl, SqT.of (ex _ _ hf), fun z => ?_, .inr ⟨rfl, fun p hp => o.new ex hp (.tup upd_same .nil)⟩⟩
      subst z
      cases ra
  · cases e
/-! the plain side -/
theorem zhD (d : D) (ds : List D) : dMulT (.tup (d :: ds)) (.int 1) = some (.tup (d :: ds)) := rfl
theorem zhE (d : D) (ds : List D) : dMulT (.tup (d :: ds)) (.int 0) = some (.tup []) := rfl
end G

set_option maxHeartbeats 4000000
namespace G
open PySem PySem.Spec PyProof.Rows L2

/-! ### for i, x in enumerate(list) -/
def dEnum : D → Option (List D)
  | .lst ds => some (enumF 0 ds)
  | _ => none
theorem iters_enum {K : PySem.W.Frag} {ρ : Rho} {σ : L2.St} {F H : Hp} {a : Addr} {xs : List V} {ds : List D} (h : ∀ ρ2 σ2 F2 H2, Go K ρ σ F H ρ2 σ2 F2 H2 → SqL K H2 a xs) (r : RpAll K F xs ds) : Iters K ρ σ F H (enumF 0 ds) (Ite K a) := fun ρ2 σ2 F2 H2 g =>
  ⟨fun i d hd => by
    rw [enumF_get, Nat.zero_add] at hd
    obtain ⟨e, he, rfl⟩ := Option.map_eq_some_iff.mp hd
    obtain ⟨v, hv, rv⟩ := r.get he
    exact ⟨⟨xs, v, h ρ2 σ2 F2 H2 g, hv⟩, fun x H3 y => by
      obtain ⟨T, x', rfl, hT, rfl, y⟩ := y
      have := y xs (h ρ2 σ2 F2 _ g)
      rw [hv] at this
      cases this
      exact ⟨_, Gr.new g.rel.ex hT, .tup upd_same (.cons (.int _) (.cons (rv.mono (g.ex.trans (Gr.new (o := .tup _) g.rel.ex hT).ex)) .nil))⟩⟩, fun i hi => ⟨xs, h ρ2 σ2 F2 H2 g, by rw [r.length]; rw [enumF_len] at hi; exact hi⟩⟩
section
variable {X : Cx} {E : EW} {fr : Bool} {pos : Pos}
def xItE (t : XV) : XA := fun ρ => (t ρ).bind (lift dEnum)
def xItEO (i : Nat) : XA := fun ρ => match ρ[i]? with
  | some (.rd d) => lift dEnum d ρ
  | _ => .bad
theorem xi_enum {e : Expr} {t : XV} {p tpos : Pos} {elts : List Expr} {kk : Nat} (hg : Gl X "enumerate") (hm : X.mg "enumerate" = none) (ha : PE X e (lE X.K E t)) (hs : starEach [e] X.env = [(false, eval e X.env)] := by rfl) :
    PI X (.Tuple elts kk tpos) (.Call (.Name "enumerate" p) [e] [] pos) (lI X.K E (xItE t)) := pi_imp (pi_enum hg hm (pa_cons ha pa_nil hs) hs) fun σ H R h => by
  obtain ⟨F, ρ, r, p⟩ := h
  refine ⟨F, ρ, r, (Pend.bind r p).mono fun x ρ1 F1 H1 g1 q v rv => ?_⟩
  obtain ⟨d, e, q⟩ := q.lift
  unfold dEnum at e
  split at e
  · cases e
    cases rv with
    | lst hf ra => exact ⟨_, _, rfl, SqL.of (g1.rel.ex _ _ hf), q F1 H1 (Go.refl g1.rel) _ (iters_enum (fun ρ2 σ2 F2 H2 g => SqL.of (g.rel.ex _ _ (g.ex _ _ hf))) ra)⟩
  · cases e
theorem xi_enumO {i : Nat} {x : Str} {xp p tpos : Pos} {elts : List Expr} {kk : Nat} (hg : Gl X "enumerate") (hm : X.mg "enumerate" = none) (ho : PE X (.Name x xp) (tVar i)) (hs : starEach [.Name x xp] X.env = [(false, eval (.Name x xp) X.env)] := by rfl) :
    PI X (.Tuple elts kk tpos) (.Call (.Name "enumerate" p) [.Name x xp] [] pos) (lI X.K E (xItEO i)) := pi_imp (pi_enum hg hm (pa_cons ho pa_nil hs) hs) fun σ H R h => by
  obtain ⟨F, ρ, r, p⟩ := h
  unfold Pend xItEO at p
  split at p <;> rename_i e
  · split at e
    · rename_i ρ' d q
      have hd : rdD i ρ = some d := by unfold rdD; rw [q]
      obtain ⟨v, s1, ra⟩ := r.rd hd
      refine ⟨v, s1, ?_⟩
      unfold lift at e
      split at e
      · rename_i ds hds
        cases e
        unfold dEnum at hds
        split at hds
        · cases hds
          cases ra with
          | val rv nf =>
            cases rv with
            | lst hf ra => exact ⟨_, _, rfl, SqL.of (r.ex _ _ hf), p F H (Go.refl r) _ (iters_enum (fun ρ2 σ2 F2 H2 g => SqL.of (g.rel.ex _ _ (g.ex _ _ hf))) ra)⟩
          | own f1 h1 ro =>
            have nO := r.rdis i _ _ q s1
            cases ro with
            | lst ra => exact ⟨_, _, rfl, SqL.of h1, p F H (Go.refl r) _ (iters_enum (fun ρ2 σ2 F2 H2 g => SqL.of (g.keep _ _ h1 f1 nO).1) ra)⟩
        · cases hds
      · cases e
    · cases e
  · split at e
    · unfold lift at e
      split at e <;> cases e
    · cases e
  · exact p.elim
end
/-! the plain side -/
section
variable (ρ : Rho) (i : Nat) (t : XV)
theorem zhF : xItE t ρ = (t ρ).bind (G.lift dEnum) := rfl
theorem zhG (ds : List D) : dEnum (.lst ds) = some (enumF 0 ds) := rfl
def itEO (o : Option Slot) (ρ : Rho) : Res (List D) := match o with
  | some (.rd d) => lift dEnum d ρ
  | _ => .bad
theorem zhH : xItEO i ρ = itEO ρ[i]? ρ := rfl
theorem zhI (d : D) : itEO (some (.rd d)) ρ = liftO (dEnum d) ρ := rfl
end
end G

set_option maxHeartbeats 4000000
namespace G
open PySem PySem.Spec PyProof.Rows L2

/-! ### t + u, t may be empty -/
def dAddA : D → D → Option D
  | .tup a, .tup b => if a.length + b.length ≤ sizeLine then some (.tup (a ++ b)) else none
  | _, _ => none
theorem imp_addA {K : PySem.W.Frag} : Imp2 K dAddA (rCatA K) := fun F H v w x y d Q ex rv rw e o => by
  unfold dAddA at e
  split at e
  · split at e
    · rename_i a b hc
      cases e
      cases rv with
      | tup hf ra =>
        rename_i p xs
        have rw' := rw
        cases rw with
        | tup hf' rb =>
          rename_i q ys
          refine ⟨p, q, xs, ys, rfl, rfl, SqT.of (ex _ _ hf), SqT.of (ex _ _ hf'), by rw [ra.length, rb.length]; exact hc, fun hn => ?_, fun _ hn => ?_, fun _ _ r hr => ?_⟩
          · subst hn
            cases ra
            exact o.here ex rw'
          · subst hn
            cases rb
            rw [List.append_nil] at o
            exact o.here ex (.tup hf ra)
          · have g := Gr.new (o := .tup (xs ++ ys)) ex hr
            exact o.new ex hr (.tup upd_same ((ra.append rb).mono g.ex))
    · cases e
  · cases e
theorem dAddA_ap {a b : List D} (h : a.length + b.length ≤ sizeLine) : dAddA (.tup a) (.tup b) = some (.tup (a ++ b)) := if_pos h
end G

set_option maxHeartbeats 4000000
namespace G
open PySem PySem.Spec PyProof.Rows L2

/-! ### tables filled by adding (k19 to k24: the law's own next turn keeps nought for a cell that lives) -/
def opT (T : List ((Int × Int) × Int)) (o : (Int × Int) × Int) : List ((Int × Int) × Int) := ptA T o.1 ((lkA T o.1).getD 0 + o.2)
def opsT (os : List ((Int × Int) × Int)) : List ((Int × Int) × Int) := os.foldl opT []
def sumAt (os : List ((Int × Int) × Int)) (c : Int × Int) : Int := os.foldr (fun o s => (if o.1 = c then o.2 else 0) + s) 0
theorem opsT_snoc (os : List ((Int × Int) × Int)) (o : (Int × Int) × Int) : opsT (os ++ [o]) = ptA (opsT os) o.1 ((lkA (opsT os) o.1).getD 0 + o.2) := by
  unfold opsT
  rw [List.foldl_append]
  rfl
theorem opsT_val (os : List ((Int × Int) × Int)) (c : Int × Int) : (lkA (opsT os) c).getD 0 = sumAt os c := by
  unfold opsT
  suffices ∀ (os : List ((Int × Int) × Int)) (T : List ((Int × Int) × Int)), (lkA (os.foldl opT T) c).getD 0 = (lkA T c).getD 0 + sumAt os c by
    rw [this, lkA_nil]
    show (0 : Int) + _ = _
    omega
  intro os
  induction os with
  | nil => intro T; show _ = _ + (0 : Int); simp
  | cons o os ih =>
    intro T
    rw [List.foldl_cons, ih]
    show _ = _ + ((if o.1 = c then o.2 else 0) + sumAt os c)
    unfold opT
    rw [lkA_pt]
    by_cases h : o.1 = c
    · rw [if_pos h.symm, if_pos h, ← h]
      show (lkA T o.1).getD 0 + o.2 + _ = _
      omega
    · rw [if_neg (fun z => h z.symm), if_neg h]
      omega
theorem opsT_keys (os : List ((Int × Int) × Int)) (c : Int × Int) : c ∈ (opsT os).map (·.1) ↔ c ∈ os.map (·.1) := by
  unfold opsT
  suffices ∀ (os : List ((Int × Int) × Int)) (T : List ((Int × Int) × Int)), c ∈ (os.foldl opT T).map (·.1) ↔ c ∈ T.map (·.1) ∨ c ∈ os.map (·.1) by
    rw [this]
    simp
  intro os
  induction os with
  | nil => intro T; simp
  | cons o os ih =>
    intro T
    rw [List.foldl_cons, ih, List.map_cons, List.mem_cons]
    unfold opT
    rw [ptA_keys]
    constructor
    · rintro ((h | h) | h)
      · exact .inr (.inl h)
      · exact .inl h
      · exact .inr (.inr h)
    · rintro (h | h | h)
      · exact .inl (.inr h)
      · exact .inl (.inl h)
      · exact .inr h
theorem opsT_nodup (os : List ((Int × Int) × Int)) : ((opsT os).map (·.1)).Nodup := by
  unfold opsT
  suffices ∀ (os : List ((Int × Int) × Int)) (T : List ((Int × Int) × Int)), (T.map (·.1)).Nodup → ((os.foldl opT T).map (·.1)).Nodup from this os [] (by simp)
  intro os
  induction os with
  | nil => intro T h; exact h
  | cons o os ih => intro T h; exact ih _ (ptA_nodup _ _ _ h)
theorem opsT_len (os : List ((Int × Int) × Int)) : (opsT os).length ≤ os.length := by
  unfold opsT
  suffices ∀ (os : List ((Int × Int) × Int)) (T : List ((Int × Int) × Int)), (os.foldl opT T).length ≤ T.length + os.length by
    have := this os []
    simpa using this
  intro os
  induction os with
  | nil => intro T; simp
  | cons o os ih =>
    intro T
    rw [List.foldl_cons]
    have h1 := ih (opT T o)
    have h2 : (opT T o).length ≤ T.length + 1 := ptA_len _ _ _
    rw [List.length_cons]
    omega
theorem sumAt_app (a b : List ((Int × Int) × Int)) (c : Int × Int) : sumAt (a ++ b) c = sumAt a c + sumAt b c := by
  induction a with
  | nil => show _ = (0 : Int) + _; simp
  | cons o a ih =>
    show (if o.1 = c then o.2 else 0) + sumAt (a ++ b) c = (if o.1 = c then o.2 else 0) + sumAt a c + sumAt b c
    rw [ih]
    omega
theorem sumAt_ones (l : List (Int × Int)) (c : Int × Int) : sumAt (l.map fun d => (d, (1 : Int))) c = ((l.count c : Nat) : Int) := by
  induction l with
  | nil => rfl
  | cons d l ih =>
    show (if d = c then (1 : Int) else 0) + sumAt (l.map fun d => (d, (1 : Int))) c = _
    rw [ih, List.count_cons]
    by_cases h : d = c
    · rw [if_pos h, if_pos (by rw [h]; exact beq_self_eq_true c)]
      omega
    · rw [if_neg h, if_neg (by simpa using h)]
      omega
/-- the cells of a picture with nought, each with the cells about it with one -/
def opsL (L : List (Int × Int)) (live : List (Int × Int)) : List ((Int × Int) × Int) := live.flatMap fun p => (p, 0) :: (L.map fun d => sh d p).map fun c => (c, 1)
theorem opsL_sum (L live : List (Int × Int)) (c : Int × Int) : sumAt (opsL L live) c = (((live.flatMap fun p => L.map fun d => sh d p).count c : Nat) : Int) := by
  unfold opsL
  induction live with
  | nil => rfl
  | cons p live ih =>
    rw [List.flatMap_cons, List.flatMap_cons, List.count_append, sumAt_app, ih]
    have h : sumAt ((p, 0) :: (L.map fun d => sh d p).map fun c => (c, (1 : Int))) c = sumAt ((L.map fun d => sh d p).map fun c => (c, (1 : Int))) c := by
      show (if p = c then (0 : Int) else 0) + sumAt ((L.map fun d => sh d p).map fun c => (c, (1 : Int))) c = _
      split <;> omega
    rw [h, sumAt_ones]
    omega
theorem opsL_lives {k : Int} {L : List (Int × Int)} (hL : L.Perm (near k)) (live : List (Int × Int)) (c : Int × Int) : (lkA (opsT (opsL L live)) c).getD 0 = ((livesP k live c : Nat) : Int) := by
  rw [opsT_val, opsL_sum, ← imgsP_count]
  unfold imgsP
  congr 1
  induction live with
  | nil => rfl
  | cons p live ih =>
    rw [List.flatMap_cons, List.flatMap_cons, List.count_append, List.count_append, ih, (hL.map fun d => sh d p).count_eq]
theorem opsL_keys {k : Int} {L : List (Int × Int)} (hL : L.Perm (near k)) (live : List (Int × Int)) (c : Int × Int) : c ∈ (opsT (opsL L live)).map (·.1) ↔ c ∈ live ∨ c ∈ imgsP k live := by
  rw [opsT_keys]
  unfold opsL imgsP
  rw [List.mem_map]
  simp only [List.mem_flatMap, List.mem_cons, List.mem_map]
  constructor
  · rintro ⟨o, ⟨p, hp, h | ⟨d, ⟨e, he, rfl⟩, rfl⟩⟩, rfl⟩
    · subst h; exact .inl hp
    · exact .inr ⟨p, hp, e, hL.mem_iff.mp he, rfl⟩
  · rintro (h | ⟨p, hp, e, he, rfl⟩)
    · exact ⟨(c, 0), ⟨c, h, .inl rfl⟩, rfl⟩
    · exact ⟨(sh e p, 1), ⟨p, hp, .inr ⟨sh e p, ⟨e, hL.mem_iff.mpr he, rfl⟩, rfl⟩⟩, rfl⟩
/-- the law's own next turn is the next turn -/
theorem opsL_next {k : Int} {L : List (Int × Int)} (hL : L.Perm (near k)) {bs : List Int} (hq : 0 ∉ bs) (ss : List Int) (live : List (Int × Int)) : sortE (((opsT (opsL L live)).map (·.1)).filter (cond k bs ss live)) = nextP k bs ss live := by
  refine nextP_ext hq ss live (pic_of ((opsT_nodup _).filter _)) fun c => ?_
  rw [mem_sortE, List.mem_filter, opsL_keys hL]
  constructor
  · exact fun h => h.2
  · intro h
    refine ⟨?_, h⟩
    have := (mem_nextP hq ss live c).mpr h
    unfold nextP at this
    have := (List.mem_filter.mp this).1
    rw [mem_ddS, List.mem_append, cntT_keys] at this
    exact this.symm
theorem opsL_len {k : Int} {L : List (Int × Int)} (hL : L.length ≤ 8) (live : List (Int × Int)) : (opsT (opsL L live)).length ≤ 9 * live.length := by
  refine Nat.le_trans (opsT_len _) ?_
  unfold opsL
  induction live with
  | nil => simp
  | cons p live ih =>
    rw [List.flatMap_cons, List.length_append, List.length_cons, List.length_map, List.length_map, List.length_cons]
    omega
/-! loops that return at the first that fits -/
section
variable {g : XG} {body : XS}
theorem forRun_find {α : Type} {e : α → D} {p : α → Bool} {v : α → D} (I : Rho → Prop) : ∀ (l : List α) (ρ : Rho), I ρ → (∀ a ∈ l, ∀ ρ, I ρ → ∃ ρ1, g (e a) ρ = some ρ1 ∧ ∃ ρ2, I ρ2 ∧ ((p a = false ∧ (body ρ1 = .nx ρ2 ∨ body ρ1 = .cnt ρ2)) ∨ (p a = true ∧ body ρ1 = .ret (v a) ρ2))) →
    ∃ ρ', I ρ' ∧ ((l.find? p = none ∧ forRun g body (l.map e) ρ = .nx ρ') ∨ ∃ a, l.find? p = some a ∧ forRun g body (l.map e) ρ = .ret (v a) ρ')
  | [], ρ, h, _ => ⟨ρ, h, .inl ⟨rfl, rfl⟩⟩
  | a :: l, ρ, h, hs => by
    obtain ⟨ρ1, e1, ρ2, h2, hb⟩ := hs a (List.mem_cons_self ..) ρ h
    rcases hb with ⟨hp, hb⟩ | ⟨hp, hb⟩
    · obtain ⟨ρ', h3, h4⟩ := forRun_find (p := p) (v := v) I l ρ2 h2 fun b hb => hs b (List.mem_cons_of_mem _ hb)
      refine ⟨ρ', h3, ?_⟩
      have e3 : forRun g body ((a :: l).map e) ρ = forRun g body (l.map e) ρ2 := by
        rw [List.map_cons, zcK, e1]
        rcases hb with hb | hb
        · rw [zcL, hb, zcM]
        · rw [zcL, hb, zcN]
      rw [e3, List.find?_cons, hp]
      exact h4
    · refine ⟨ρ2, h2, .inr ⟨a, by rw [List.find?_cons, hp], ?_⟩⟩
      rw [List.map_cons, zcK, e1, zcL, hb, zcP]
/-- the first answer of r at i, i + 1, .. (n of them) -/
def first (r : Nat → Option D) : Nat → Nat → Option D
  | _, 0 => none
  | i, n + 1 => (r i).or (first r (i + 1) n)
theorem forRun_first {α : Type} {e : α → D} (I : Nat → Rho → Prop) (r : Nat → Option D) : ∀ (l : List α) (k : Nat) (ρ : Rho), I k ρ → (∀ (i : Nat) (a : α) (ρ : Rho), l[i]? = some a → I (k + i) ρ → ∃ ρ1, g (e a) ρ = some ρ1 ∧ ∃ ρ2, (r (k + i) = none ∧ (body ρ1 = .nx ρ2 ∨ body ρ1 = .cnt ρ2) ∧ I (k + i + 1) ρ2) ∨ ∃ v, r (k + i) = some v ∧ body ρ1 = .ret v ρ2) →
    ∃ ρ', (first r k l.length = none ∧ forRun g body (l.map e) ρ = .nx ρ' ∧ I (k + l.length) ρ') ∨ ∃ v, first r k l.length = some v ∧ forRun g body (l.map e) ρ = .ret v ρ'
  | [], k, ρ, h, _ => ⟨ρ, .inl ⟨rfl, rfl, h⟩⟩
  | a :: l, k, ρ, h, hs => by
    obtain ⟨ρ1, e1, ρ2, hb⟩ := hs 0 a ρ rfl h
    rcases hb with ⟨hr, hb, h2⟩ | ⟨v, hr, hb⟩
    · obtain ⟨ρ', h4⟩ := forRun_first I r l (k + 1) ρ2 h2 fun i b ρ hi hI => by
        have := hs (i + 1) b ρ hi (by rw [show k + (i + 1) = k + 1 + i by omega]; exact hI)
        rwa [show k + (i + 1) = k + 1 + i by omega] at this
      refine ⟨ρ', ?_⟩
      have e3 : forRun g body ((a :: l).map e) ρ = forRun g body (l.map e) ρ2 := by
        rw [List.map_cons, zcK, e1]
        rcases hb with hb | hb
        · rw [zcL, hb, zcM]
        · rw [zcL, hb, zcN]
      have e4 : first r k (a :: l).length = first r (k + 1) l.length := by
        show (r k).or (first r (k + 1) l.length) = _
        rw [show r k = none from hr]
        rfl
      rw [e3, e4, show k + (a :: l).length = k + 1 + l.length by rw [List.length_cons]; omega]
      exact h4
    · refine ⟨ρ2, .inr ⟨v, ?_, ?_⟩⟩
      · show (r k).or (first r (k + 1) l.length) = _
        rw [show r k = some v from hr]
        rfl
      · rw [List.map_cons, zcK, e1, zcL, hb, zcP]
end
/-! ### [.. for k in d ..]: the dict is locked from then on -/
section
variable {X : Cx} {E : EW}
theorem xn_frz (i : Nat) {e : Expr} {t : XV} (h : PE X e (lN X.K E t)) : PE X e (lN X.K E (frzV i t)) := pe_imp (pe_frz h) fun σ H Q h => by
  obtain ⟨F, ρ, r, p⟩ := h
  cases e1 : frzR i ρ with
  | none =>
    unfold Pend frzV at p
    simp only [e1] at p
  | some ρ1 =>
    have p : Pend X.K E (fun _ => t ρ1) ρ σ F H fun d ρ' F' H' => ∀ p o, F' p = none → H' p = some o → Ro X.K F' p o d → ¬ Own ρ' σ p → (Own ρ σ p ∨ H p = none) → Q (.ref p) H' := by
      unfold Pend frzV at p
      simp only [e1] at p
      unfold Pend
      exact p
    rcases frz_of r e1 with rfl | ⟨d, u, hd, mu, g⟩
    · exact .inl ⟨F, _, r, p⟩
    · refine .inr ⟨d, u, hd, mu, fun od => ⟨F, ρ1, (g od).rel, (Pend.go r (g od) p).mono fun a ρ' F' H' _ q w o h1 h2 h3 h4 h5 => q w o h1 h2 h3 h4 ?_⟩⟩
      rcases h5 with z | z
      · exact (g od).4 w z
      · refine .inr ?_
        by_cases hw : w = d
        · subst hw
          rw [upd_same] at z
          cases z
        · unfold upd at z
          rw [if_neg hw] at z
          exact z
end
section
variable {i : Nat} {ρ : Rho}
/-! the plain side -/
def frzV1 {α : Type} (t : Rho → Res α) (o : Option Rho) : Res α := match o with
  | some ρ1 => t ρ1
  | none => .bad
theorem zhJ {α : Type} (t : Rho → Res α) : frzV i t ρ = frzV1 t (frzR i ρ) := rfl
theorem zhK {α : Type} (t : Rho → Res α) : frzV1 t (some ρ) = t ρ := rfl
end
end G

set_option maxHeartbeats 4000000
namespace G
open PySem PySem.Spec PyProof.Rows L2

/-! ### dicts whose keys are nested tuples of whole numbers -/
mutual
/-- the value v is the key k, of nested tuples that are tracked -/
inductive NKV (H : Hp) : NestedKey → V → Prop
  | num (i : Int) : NKV H (.num i) (.int i)
  | tup {b : Addr} {vs : List V} {ks : List NestedKey} : H b = some (.tup vs) → NKA H ks vs → NKV H (.tup ks) (.ref b)
inductive NKA (H : Hp) : List NestedKey → List V → Prop
  | nil : NKA H [] []
  | cons {k : NestedKey} {v : V} {ks : List NestedKey} {vs : List V} : NKV H k v → NKA H ks vs → NKA H (k :: ks) (v :: vs)
end
mutual
theorem NKV.mono {H H' : Hp} (e : ∀ b xs, H b = some (.tup xs) → H' b = some (.tup xs)) : ∀ {k : NestedKey} {v : V}, NKV H k v → NKV H' k v
  | _, _, .num i => .num i
  | _, _, .tup h r => .tup (e _ _ h) (NKA.mono e r)
theorem NKA.mono {H H' : Hp} (e : ∀ b xs, H b = some (.tup xs) → H' b = some (.tup xs)) : ∀ {k : List NestedKey} {v : List V}, NKA H k v → NKA H' k v
  | _, _, .nil => .nil
  | _, _, .cons a b => .cons (NKV.mono e a) (NKA.mono e b)
end
mutual
theorem NKV.hash {H : Hp} (w w' : World) : ∀ {k : NestedKey} {v : V}, NKV H k v → k.hash w = k.hash w'
  | _, _, .num i => by simp only [NestedKey.hash]
  | _, _, .tup h r => by simp only [NestedKey.hash]; rw [NKA.hash w w' r]
theorem NKA.hash {H : Hp} (w w' : World) : ∀ {k : List NestedKey} {v : List V}, NKA H k v → NestedKey.hashes w k = NestedKey.hashes w' k
  | _, _, .nil => by simp only [NestedKey.hashes]
  | _, _, .cons a b => by simp only [NestedKey.hashes]; rw [NKV.hash w w' a, NKA.hash w w' b]
end
mutual
theorem NKV.is {P : Program} {w : World} {H : Hp} {h : Heap} (ok : HOk P w H h) : ∀ {k : NestedKey} {v : V} {u : Value}, NKV H k v → RelV v u → NestedIs h k u
  | _, _, _, .num i, r => by
    obtain ⟨t, q⟩ := (show ∃ t, _ = Value.int i t from r)
    subst q
    exact .int i t
  | _, _, _, .tup (b := b) (vs := vs) hb ra, r => by
    obtain rfl : _ = Value.ref b := r
    obtain ⟨_, its, rel, o, h1, h2, n, h3⟩ := (show ObjOk P w H h b (.tup vs) from ok b _ hb)
    exact .tup h1 h2 h3 (by simpa using NKA.is ok ra rel)
theorem NKA.is {P : Program} {w : World} {H : Hp} {h : Heap} (ok : HOk P w H h) : ∀ {k : List NestedKey} {v : List V} {u : List Value}, NKA H k v → Vals v u → NestedAll h k u
  | _, _, _, .nil, .nil => .nil
  | _, _, _, .cons a b, .cons r1 r2 => .cons (NKV.is ok a r1) (NKA.is ok b r2)
end
theorem nkDs_some {ds : List D} {k : NestedKey} (h : nkD (.tup ds) = some k) : ∃ ks, nkDs ds = some ks ∧ k = .tup ks := by
  unfold nkD at h
  obtain ⟨ks, h1, h2⟩ := Option.map_eq_some_iff.mp h
  exact ⟨ks, h1, h2.symm⟩
theorem nkDs_cons {d : D} {ds : List D} {ks : List NestedKey} (h : nkDs (d :: ds) = some ks) : ∃ k r, nkD d = some k ∧ nkDs ds = some r ∧ ks = k :: r := by
  rw [nkDs] at h
  cases q : nkD d with
  | none => rw [q] at h; cases h
  | some k =>
    rw [q] at h
    obtain ⟨r, h1, h2⟩ := Option.map_eq_some_iff.mp (show (nkDs ds).map (k :: ·) = some ks from h)
    exact ⟨k, r, rfl, h1, h2.symm⟩
mutual
theorem nk_rp {K : PySem.W.Frag} {F : Hp} : ∀ {v : V} {d : D} {k : NestedKey}, Rp K F v d → nkD d = some k → NKV F k v
  | _, _, _, .non, h => by simp [nkD] at h
  | _, _, _, .bl _, h => by simp [nkD] at h
  | _, _, _, .int i, h => by
    have : nkD (.int i) = some (.num i) := by simp [nkD]
    rw [this] at h
    cases h
    exact .num i
  | _, _, _, .str _, h => by simp [nkD] at h
  | _, _, _, .ty _, h => by simp [nkD] at h
  | _, _, _, .tup hf ra, h => by
    obtain ⟨ks, h1, rfl⟩ := nkDs_some h
    exact .tup hf (nks_rp ra h1)
  | _, _, _, .lst _ _, h => by simp [nkD] at h
  | _, _, _, .fix _ _, h => by simp [nkD] at h
  | _, _, _, .dicK _ _ _, h => by simp [nkD] at h
  | _, _, _, .dicT _ _ _, h => by simp [nkD] at h
  | _, _, _, .dicN _ _ _ _, h => by simp [nkD] at h
theorem nks_rp {K : PySem.W.Frag} {F : Hp} : ∀ {v : List V} {d : List D} {k : List NestedKey}, RpAll K F v d → nkDs d = some k → NKA F k v
  | _, _, _, .nil, h => by
    have : nkDs [] = some [] := by simp [nkDs]
    rw [this] at h
    cases h
    exact .nil
  | _, _, _, .cons a b, h => by
    obtain ⟨k, r, h1, h2, rfl⟩ := nkDs_cons h
    exact .cons (nk_rp a h1) (nks_rp b h2)
end
/-! the dict -/
abbrev NP : List (NestedKey × Addr × V) → List (NestedKey × Addr × Value) → Prop := Paired fun p q => p.1 = q.1 ∧ p.2.1 = q.2.1 ∧ RelV p.2.2 q.2.2
def valN (kvs : List (NestedKey × Addr × V)) (k : NestedKey) : Option V := (kvs.find? fun e => decide (e.1 = k)).map (·.2.2)
def putN (kvs : List (NestedKey × Addr × V)) (k : NestedKey) (b : Addr) (v : V) : List (NestedKey × Addr × V) :=
  if (valN kvs k).isSome = true then kvs.map (fun e => if e.1 = k then (e.1, e.2.1, v) else e) else kvs ++ [(k, b, v)]
theorem NP.val {kvs : List (NestedKey × Addr × V)} {xs : List (NestedKey × Addr × Value)} (r : NP kvs xs) (k : NestedKey) : RelO (valN kvs k) ((atKey xs k).map (·.2)) := by
  induction r with
  | nil => exact True.intro
  | @cons p q ps qs h t ih =>
    obtain ⟨h1, _, h2⟩ := h
    by_cases e : p.1 = k
    · have e' : q.1 = k := h1.symm.trans e
      have a : valN (p :: ps) k = some p.2.2 := by simp [valN, List.find?_cons, e]
      have b : atKey (q :: qs) k = some q.2 := by simp [atKey, List.find?_cons, e']
      rw [a, b]; exact h2
    · have e' : ¬ q.1 = k := fun z => e (h1.trans z)
      have a : valN (p :: ps) k = valN ps k := by simp [valN, List.find?_cons, e]
      have b : atKey (q :: qs) k = atKey qs k := by simp [atKey, List.find?_cons, e']
      rw [a, b]; exact ih
theorem NP.repl {kvs : List (NestedKey × Addr × V)} {xs : List (NestedKey × Addr × Value)} (r : NP kvs xs) (k : NestedKey) {y : V} {u : Value} (ry : RelV y u) :
    NP (kvs.map fun e => if e.1 = k then (e.1, e.2.1, y) else e) (xs.map (putAt k u)) := by
  induction r with
  | nil => exact .nil
  | @cons p q ps qs h t ih =>
    rw [List.map_cons, List.map_cons]
    refine .cons ?_ ih
    obtain ⟨h1, h2, h3⟩ := h
    unfold putAt
    by_cases e : p.1 = k
    · rw [if_pos e, if_pos (h1.symm.trans e)]; exact ⟨h1, h2, ry⟩
    · rw [if_neg e, if_neg (fun z => e (h1.trans z))]; exact ⟨h1, h2, h3⟩
theorem NP.put {kvs : List (NestedKey × Addr × V)} {xs : List (NestedKey × Addr × Value)} (r : NP kvs xs) (k : NestedKey) {b : Addr} {y : V} {u : Value} (ry : RelV y u) : NP (putN kvs k b y) (storedH xs k b u) := by
  have e : (valN kvs k).isSome = (atKey xs k).isSome := by
    rw [(r.val k).isSome_eq, Option.isSome_map]
  unfold putN storedH
  rw [e]
  by_cases q : (atKey xs k).isSome = true
  · rw [if_pos q, if_pos q]; exact r.repl k ry
  · rw [if_neg q, if_neg q]; exact Paired.snoc r ⟨rfl, rfl, ry⟩
theorem putN_len (kvs : List (NestedKey × Addr × V)) (k : NestedKey) (b : Addr) (v : V) : (putN kvs k b v).length ≤ kvs.length + 1 := by
  unfold putN
  split
  · rw [List.length_map]; omega
  · rw [List.length_append]; exact Nat.le_refl _
theorem putN_all {kvs : List (NestedKey × Addr × V)} {k : NestedKey} {b : Addr} {v : V} {p : NestedKey × Addr → Prop} (h : ∀ e ∈ kvs, p (e.1, e.2.1)) (hk : p (k, b)) : ∀ e ∈ putN kvs k b v, p (e.1, e.2.1) := fun e he => by
  unfold putN at he
  split at he
  · obtain ⟨q, hq, rfl⟩ := List.mem_map.mp he
    split
    · exact h q hq
    · exact h q hq
  · rcases List.mem_append.mp he with he | he
    · exact h e he
    · rw [List.mem_singleton.mp he]
      exact hk
/-- a dict at a that can be read, its keys' tuples tracked -/
def ND (H : Hp) (a : Addr) (kvs : List (NestedKey × Addr × V)) : Prop := Rd H a (.ext (NDict a kvs)) ∧ ∀ e ∈ kvs, NKV H e.1 (.ref e.2.1)
section
variable {P : Program} {w : World} {H : Hp} {h : Heap} {a b : Addr} {kvs : List (NestedKey × Addr × V)} {k : NestedKey}
theorem nd_phi (ok : HOk P w H h) (e : Rd H a (.ext (NDict a kvs))) : NDict a kvs h := by
  have q : ObjOk P w H h a (.ext (NDict a kvs)) := e.ok ok
  exact q.1
theorem nkind_is (ok : HOk P w H h) (n : NKV H k (.ref b)) (d : k.depth ≤ 8) : (nestedKind P w).is h k b := ⟨NKV.is ok n rfl, d⟩
theorem nd_rd (ok : HOk P w H h) (e : ND H a kvs) : kvs.length ≤ sizeLine ∧ (a == sysModules) = false ∧ (∀ e ∈ kvs, e.1.depth ≤ 8) ∧ ∃ xs, NP kvs xs ∧ h.DictOfH (nestedKind P w) a xs := by
  obtain ⟨z, y, dp, xs, rel, o, es, ep, h1, h2, h3, h4, h5⟩ := nd_phi ok e.1
  refine ⟨z, y, dp, xs, rel, o, es, ep, h1, h2, h3, h4 P w, ?_, h5⟩
  have all : ∀ {l : List (NestedKey × Addr × V)} {m : List (NestedKey × Addr × Value)}, NP l m → (∀ e ∈ l, e.1.depth ≤ 8) → (∀ e ∈ l, NKV H e.1 (.ref e.2.1)) → ∀ x ∈ m, (nestedKind P w).is h x.1 x.2.1 := by
    intro l m q
    induction q with
    | nil => intro _ _ x hx; exact nomatch hx
    | @cons p q ps qs hq t ih =>
      intro g1 g2 x hx
      rcases List.mem_cons.mp hx with e | hx
      · subst e
        rw [← hq.1, ← hq.2.1]
        exact nkind_is ok (g2 p (List.mem_cons_self ..)) (g1 p (List.mem_cons_self ..))
      · exact ih (fun e he => g1 e (List.mem_cons_of_mem _ he)) (fun e he => g2 e (List.mem_cons_of_mem _ he)) x hx
  exact all rel dp e.2
theorem entries_any (q : ∀ x ∈ ([] : List Nat), True) {xs : List (NestedKey × Addr × Value)} (hh : ∀ x ∈ xs, ∀ w w' : World, x.1.hash w = x.1.hash w') {es : List DictEntry} (e : es = xs.map (entryOfKey (nestedKind P w))) (P' : Program) (w' : World) : es = xs.map (entryOfKey (nestedKind P' w')) := by
  rw [e]
  refine List.map_congr_left fun x hx => ?_
  show DictEntry.mk (x.1.hash w) _ _ = DictEntry.mk (x.1.hash w') _ _
  rw [hh x hx w w']
end
theorem room_nk {A : Around} {P : Program} {w : World} (hu : A.units + 65 < cLine) : (nestedKind P w).room A.in1 := by
  show A.units + 1 + 8 < cLine
  omega
section
variable {X : Cx} {pins : List (Addr × Obj)} {σ : L2.St} {H : Hp} {s : Shared} {a b : Addr} {v : V} {r : Value} {A : Around} {E : Value → Shared → Prop} {kvs : List (NestedKey × Addr × V)} {k : NestedKey}
theorem n_in {Q : Value → Shared → Prop} (hu : A.units + 65 < cLine) (I : Inv X pins σ H s) (g : ND H a kvs) (n : NKV H k (.ref b)) (d : k.depth ≤ 8) (h : ∀ s', Inv X pins σ H s' → Q (.bool (valN kvs k).isSome) s') :
    wpAny (model X.prog X.w) A (compareOp .In (.ref b) (.ref a)) Q E s := by
  obtain ⟨z, hd, _, xs, rel, dd⟩ := nd_rd I.hok g
  refine wpAny_in_heap (room_nk hu) (nkind_is I.hok n d) hd dd ?_
  have q := (rel.val k).isSome_eq
  rw [Option.isSome_map] at q
  rw [← q]
  exact h _ (I.tok _)
theorem n_getItem {Q : Value → Shared → Prop} (hu : A.units + 65 < cLine) (I : Inv X pins σ H s) (g : ND H a kvs) (n : NKV H k (.ref b)) (d : k.depth ≤ 8) (l : valN kvs k = some v) (h : ∀ w' s', Inv X pins σ H s' → RelV v w' → Q w' s') :
    wpAny (model X.prog X.w) A (getItem (.ref a) (.ref b)) Q E s := by
  obtain ⟨z, hd, _, xs, rel, dd⟩ := nd_rd I.hok g
  obtain ⟨w', hw, rw'⟩ := RelO.some_of (v := v) (o := (atKey xs k).map (·.2)) (by rw [← l]; exact rel.val k)
  obtain ⟨p, hp, hp2⟩ := Option.map_eq_some_iff.mp hw
  refine wpAny_getItem_heap (room_nk hu) (nkind_is I.hok n d) dd hp ?_
  rw [hp2]
  exact h w' _ (I.tok _) rw'
theorem n_setItem {Q : Unit → Shared → Prop} (hu : A.units + 65 < cLine) (I : Inv X pins σ H s) (g : H a = some (.ext (NDict a kvs))) (ga : ∀ e ∈ kvs, NKV H e.1 (.ref e.2.1)) (n : NKV H k (.ref b)) (d : k.depth ≤ 8) (hl : kvs.length < sizeLine) (rv : RelV v r)
    (h : ∀ s', Inv X pins σ (upd H a (.ext (NDict a (putN kvs k b v)))) s' → Q () s') :
    wpAny (model X.prog X.w) A (setItem (.ref a) (.ref b) r) Q E s := by
  obtain ⟨z, hd, dp, xs, rel, dd⟩ := nd_rd I.hok ⟨.inl g, ga⟩
  have hz : xs.length ≤ sizeLine := by rw [← Paired.length rel]; exact z
  have hl2 : (putN kvs k b v).length ≤ sizeLine := by have := putN_len kvs k b v; omega
  refine wpAny_setItem_heap (hsz := hz) (room_nk hu) (nkind_is I.hok n d) dd fun h' dd' hs => h _ ?_
  obtain ⟨q, es, ep, hq, h2, h3, h4, _, h5⟩ := dd'
  have rel2 := rel.put (b := b) k rv
  have hh : ∀ x ∈ storedH xs k b r, ∀ w w' : World, x.1.hash w = x.1.hash w' := by
    have all : ∀ {l : List (NestedKey × Addr × V)} {m : List (NestedKey × Addr × Value)}, NP l m → (∀ e ∈ l, ∀ w w' : World, e.1.hash w = e.1.hash w') → ∀ x ∈ m, ∀ w w' : World, x.1.hash w = x.1.hash w' := by
      intro l m q
      induction q with
      | nil => intro _ x hx; exact nomatch hx
      | @cons p q ps qs hq t ih =>
        intro g1 x hx
        rcases List.mem_cons.mp hx with e | hx
        · subst e
          rw [← hq.1]
          exact g1 p (List.mem_cons_self ..)
        · exact ih (fun e he => g1 e (List.mem_cons_of_mem _ he)) x hx
    exact all rel2 (putN_all (p := fun q => ∀ w w' : World, q.1.hash w = q.1.hash w') (fun e he w w' => (ga e he).hash w w') (fun w w' => n.hash w w'))
  refine d_write I (by rw [g]; exact True.intro) hs ⟨q, hq⟩ ⟨⟨hl2, hd, putN_all (p := fun q => q.1.depth ≤ 8) dp d, _, rel2, q, es, ep, hq, h2, h3, entries_any (fun _ _ => trivial) hh h4, h5⟩, ⟨q, hq⟩, ?_⟩
  rintro ha hb ⟨p1, p2, p3, ys, p4, o', es', ep', p5, p6⟩ hk
  exact ⟨p1, p2, p3, ys, p4, o', es', ep', hk _ p5, p6⟩
theorem n_typeIs (I : Inv X pins σ H s) (g : ND H a kvs) : s.TypeIs (.ref a) "dict" := by
  obtain ⟨_, _, _, xs, _, dd⟩ := nd_rd I.hok g
  exact dd.typeIs
end
theorem nd_empty {P : Program} {w : World} {H : Hp} (h : Heap) (hb : sysModules < h.objs.size) : ObjOk P w H (h.push { cls := .type "dict", data := .dict #[] }) h.objs.size (.ext (NDict h.objs.size [])) :=
  ⟨⟨Nat.zero_le _, beq_eq_false_iff_ne.mpr (Ne.symm (Nat.ne_of_lt hb)), (by intro e he; cases he), [], .nil, _, #[], 0, Heap.get?_push_size _ rfl, ⟨rfl, rfl, rfl⟩, rfl, fun _ _ => rfl, List.nodup_nil⟩, ⟨_, Heap.get?_push_size _ rfl⟩, by
    rintro ha hb ⟨p1, p2, p3, ys, p4, o', es', ep', p5, p6⟩ hk
    exact ⟨p1, p2, p3, ys, p4, o', es', ep', hk _ p5, p6⟩⟩
/-! readings -/
def tNNew : TE := fun _ H Q => ∀ p, H p = none → Q (.ref p) (upd H p (.ext (NDict p [])))
def rInN : R2 := fun x y H Q => ∃ a kvs k b, y = .ref a ∧ ND H a kvs ∧ x = .ref b ∧ NKV H k (.ref b) ∧ k.depth ≤ 8 ∧ Q (.bl (valN kvs k).isSome) H
def tNGet (td ty : TE) : TE := fun σ H Q => td σ H fun x H1 => ty σ H1 fun y H2 => ∃ a kvs k b v, x = .ref a ∧ ND H2 a kvs ∧ y = .ref b ∧ NKV H2 k (.ref b) ∧ k.depth ≤ 8 ∧ valN kvs k = some v ∧ Q v H2
def sNPut (td ty tv : TE) : TS := fun C σ H => tv σ H fun v H1 => td σ H1 fun x H2 => ty σ H2 fun y H3 => ∃ a kvs k b, x = .ref a ∧ H3 a = some (.ext (NDict a kvs)) ∧ (∀ e ∈ kvs, NKV H3 e.1 (.ref e.2.1)) ∧ y = .ref b ∧ NKV H3 k (.ref b) ∧ k.depth ≤ 8 ∧ kvs.length < sizeLine ∧ C.nx σ (upd H3 a (.ext (NDict a (putN kvs k b v))))
section
variable {X : Cx} {o i e value : Expr} {pos pos' tpos : Pos} {td ty tv : TE}
theorem pe_nnew : PE X (.Dict [] [] pos) tNNew := ⟨fun pins s σ H Q I h =>
  wpAny_Dict_empty ⟨.ref s.heap.objs.size, _, I.laid (a := s.heap.objs.size) (o := .ext (NDict s.heap.objs.size [])) (t' := s.toks) (fun _ _ q => Heap.get?_push_of_some _ q) (Nat.le_refl _) (nd_empty s.heap I.big), rfl, h _ (I.hok.fresh (Nat.le_refl _))⟩⟩
theorem op_inN (hu : X.A.units + 65 < cLine) : OpR X (compareOp .In) rInN := by
  intro pins s σ H x y v u Q I rx ry h
  obtain ⟨a, kvs, k, b, rfl, g, rfl, n, d, q⟩ := h
  obtain rfl : u = Value.ref a := ry
  obtain rfl : v = Value.ref b := rx
  exact n_in hu I g n d fun s3 I3 => ⟨.bl (valN kvs k).isSome, H, I3, rfl, q⟩
theorem pe_nget (hu : X.A.units + 65 < cLine) (ho : PE X o td) (hi : PE X i ty) (hs : NoSl i) : PE X (.Subscript o i pos) (tNGet td ty) := by
  refine ⟨fun pins s σ H Q I h => ?_⟩
  refine subD_of PySem.F.slot_dict_getitem.lookup hs (thn (ho.run pins s σ H _ I h) fun u s1 ⟨x, H1, I1, rx, q1⟩ => thn (hi.run pins s1 σ H1 _ I1 q1) fun iv s2 ⟨y, H2, I2, ry, a, kvs, k, b, v, ex, g, ey, n, d, l, q2⟩ => ?_)
  subst ex ey
  obtain rfl : u = Value.ref a := rx
  obtain rfl : iv = Value.ref b := ry
  exact ⟨n_typeIs I2 g, n_getItem hu I2 g n d l fun w' s3 I3 rw' => ⟨v, H2, I3, rw', q2⟩⟩
theorem ps_nput (hu : X.A.units + 65 < cLine) (ho : PE X o td) (hi : PE X i ty) (hv : PE X value tv) (hs : swapsWith value (some (.Subscript o i pos')) pos.line X.env = pure false) :
    PS X (.Assign [.Subscript o i pos'] value pos) (sNPut td ty tv) := by
  refine ⟨fun pins s σ H D I h => ?_⟩
  refine wpAny_Assign_Subscript (thn (hv.run pins s σ H _ I h) fun r s1 ⟨v, H1, I1, rv, q1⟩ => thn (ho.run pins s1 σ H1 _ I1 q1) fun u s2 ⟨x, H2, I2, rx, q2⟩ => thn (hi.run pins s2 σ H2 _ I2 q2) fun iv s3 ⟨y, H3, I3, ry, a, kvs, k, b, ex, g, ga, ey, n, d, hl, q3⟩ => ?_) hs
  subst ex ey
  obtain rfl : u = Value.ref a := rx
  obtain rfl : iv = Value.ref b := ry
  exact n_setItem hu I3 g ga n d hl rv fun s4 I4 => ⟨σ, _, I4, q3⟩
end
end G

set_option maxHeartbeats 4000000
namespace G
open PySem PySem.Spec PyProof.Rows L2

/-! ### the values of dicts whose keys are nested tuples -/
def nkT : D → Option NestedKey
  | .tup ds => (nkD (.tup ds)).bind fun k => if k.depth ≤ 8 then some k else none
  | _ => none
def lkN (es : List (D × D)) (k : NestedKey) : Option D := (es.find? fun e => decide (nkD e.1 = some k)).map (·.2)
def ptN (es : List (D × D)) (k : NestedKey) (kd d : D) : List (D × D) := if (lkN es k).isSome = true then es.map (fun e => if nkD e.1 = some k then (e.1, d) else e) else es ++ [(kd, d)]
section
variable {K : PySem.W.Frag} {F F' H H' : Hp}
theorem nkT_rp {v : V} {x : D} {k : NestedKey} (r : Rp K F v x) (h : nkT x = some k) : ∃ b, v = .ref b ∧ NKV F k (.ref b) ∧ k.depth ≤ 8 ∧ nkD x = some k := by
  unfold nkT at h
  split at h
  · rename_i ds
    cases q : nkD (.tup ds) with
    | none => rw [q] at h; cases h
    | some k' =>
      rw [q] at h
      simp only [Option.bind_some] at h
      split at h
      · rename_i hd
        cases h
        have n := nk_rp r q
        cases r with
        | tup hf ra => exact ⟨_, rfl, n, hd, rfl⟩
      · cases h
  · cases h
inductive RpN (K : PySem.W.Frag) (F : Hp) : List (NestedKey × Addr × V) → List (D × D) → Prop
  | nil : RpN K F [] []
  | cons {k : NestedKey} {b : Addr} {v : V} {kd d : D} {kvs : List (NestedKey × Addr × V)} {es : List (D × D)} : nkD kd = some k → Rp K F (.ref b) kd → Rp K F v d → RpN K F kvs es → RpN K F ((k, b, v) :: kvs) ((kd, d) :: es)
theorem RpN.of : ∀ {kvs : List (NestedKey × Addr × V)} {es : List (D × D)}, kvs.map (fun e => some e.1) = es.map (fun e => nkD e.1) → RpAll K F (kvs.map fun e => V.ref e.2.1) (es.map (·.1)) → RpAll K F (kvs.map fun e => e.2.2) (es.map (·.2)) → RpN K F kvs es
  | [], [], _, _, _ => .nil
  | [], _ :: _, h, _, _ => by cases h
  | _ :: _, [], h, _, _ => by cases h
  | (k, b, v) :: kvs, (kd, d) :: es, h, r, q => by
    cases r with
    | cons r1 r2 =>
      cases q with
      | cons q1 q2 =>
        rw [List.map_cons, List.map_cons] at h
        obtain ⟨e1, e2⟩ := List.cons.inj h
        exact .cons e1.symm r1 q1 (RpN.of e2 r2 q2)
theorem RpN.keys {kvs : List (NestedKey × Addr × V)} {es : List (D × D)} (h : RpN K F kvs es) : kvs.map (fun e => some e.1) = es.map (fun e => nkD e.1) := by
  induction h with
  | nil => rfl
  | cons e _ _ _ ih => rw [List.map_cons, List.map_cons, ih]; exact congrArg (· :: _) e.symm
theorem RpN.refs {kvs : List (NestedKey × Addr × V)} {es : List (D × D)} (h : RpN K F kvs es) : RpAll K F (kvs.map fun e => V.ref e.2.1) (es.map (·.1)) := by
  induction h with
  | nil => exact .nil
  | cons _ r _ _ ih => exact .cons r ih
theorem RpN.vals {kvs : List (NestedKey × Addr × V)} {es : List (D × D)} (h : RpN K F kvs es) : RpAll K F (kvs.map fun e => e.2.2) (es.map (·.2)) := by
  induction h with
  | nil => exact .nil
  | cons _ _ r _ ih => exact .cons r ih
theorem RpN.len {kvs : List (NestedKey × Addr × V)} {es : List (D × D)} (h : RpN K F kvs es) : kvs.length = es.length := by
  have := congrArg List.length h.keys
  rwa [List.length_map, List.length_map] at this
theorem RpN.append {kvs kvs' : List (NestedKey × Addr × V)} {es es' : List (D × D)} (h : RpN K F kvs es) (h' : RpN K F kvs' es') : RpN K F (kvs ++ kvs') (es ++ es') := by
  induction h with
  | nil => exact h'
  | cons e r q _ ih => exact .cons e r q ih
theorem RpN.lk {kvs : List (NestedKey × Addr × V)} {es : List (D × D)} (h : RpN K F kvs es) (k : NestedKey) : RO K F (valN kvs k) (lkN es k) := by
  induction h with
  | nil => exact True.intro
  | @cons j b v kd d kvs es hk _ r _ ih =>
    by_cases e : j = k
    · have a : valN ((j, b, v) :: kvs) k = some v := by simp [valN, List.find?_cons, e]
      have c : lkN ((kd, d) :: es) k = some d := by
        unfold lkN
        rw [List.find?_cons_of_pos (by simpa [hk] using e)]
        rfl
      rw [a, c]
      exact r
    · have a : valN ((j, b, v) :: kvs) k = valN kvs k := by simp [valN, List.find?_cons, e]
      have c : lkN ((kd, d) :: es) k = lkN es k := by
        unfold lkN
        rw [List.find?_cons_of_neg (by simpa [hk] using e)]
      rw [a, c]
      exact ih
theorem RO.some_eqN {o : Option V} {r : Option D} (h : RO K F o r) : o.isSome = r.isSome := by
  cases o <;> cases r <;> first | rfl | exact h.elim
theorem RpN.repl {kvs : List (NestedKey × Addr × V)} {es : List (D × D)} (h : RpN K F kvs es) (k : NestedKey) {v : V} {d : D} (r : Rp K F v d) : RpN K F (kvs.map fun e => if e.1 = k then (e.1, e.2.1, v) else e) (es.map fun e => if nkD e.1 = some k then (e.1, d) else e) := by
  induction h with
  | nil => exact .nil
  | @cons j b v0 kd d0 kvs es hk r0 q0 _ ih =>
    rw [List.map_cons, List.map_cons]
    by_cases e : j = k
    · have e2 : nkD kd = some k := by rw [hk, e]
      rw [if_pos e, if_pos e2]; exact .cons hk r0 r ih
    · have e2 : ¬ nkD kd = some k := by rw [hk]; intro z; exact e (Option.some.inj z)
      rw [if_neg e, if_neg e2]; exact .cons hk r0 q0 ih
theorem RpN.pt {kvs : List (NestedKey × Addr × V)} {es : List (D × D)} (h : RpN K F kvs es) {k : NestedKey} {b : Addr} {kd : D} {v : V} {d : D} (hk : nkD kd = some k) (rk : Rp K F (.ref b) kd) (r : Rp K F v d) : RpN K F (putN kvs k b v) (ptN es k kd d) := by
  unfold putN ptN
  rw [(h.lk k).some_eqN]
  split
  · exact h.repl k r
  · exact h.append (.cons hk rk r .nil)
theorem RpN.nkv {kvs : List (NestedKey × Addr × V)} {es : List (D × D)} (h : RpN K F kvs es) (e : Same F H) : ∀ x ∈ kvs, NKV H x.1 (.ref x.2.1) := by
  induction h with
  | nil => intro x hx; cases hx
  | @cons j b v0 kd d0 kvs es hk r0 q0 _ ih =>
    intro x hx
    rcases List.mem_cons.mp hx with z | hx
    · subst z
      exact (nk_rp r0 hk).mono fun b xs q => e b _ q
    · exact ih x hx
theorem RpN.mono {kvs : List (NestedKey × Addr × V)} {es : List (D × D)} (e : Same F F') (h : RpN K F kvs es) : RpN K F' kvs es := by
  induction h with
  | nil => exact .nil
  | cons a b c _ ih => exact .cons a (b.mono e) (c.mono e) ih
theorem dicn_ra {v : V} {z : Bool} {es : List (D × D)} (e : Same F H) (r : Ra K F H v (.dicN z es)) : ∃ a kvs, v = .ref a ∧ ND H a kvs ∧ RpN K F kvs es := by
  cases r with
  | val rp _ =>
    cases rp with
    | dicN hf hk hr hv =>
      have q := RpN.of hk hr hv
      exact ⟨_, _, rfl, ⟨rd_frz (e _ _ hf), q.nkv e⟩, q⟩
  | own h1 h2 ro =>
    cases ro with
    | dicN hk hr hv =>
      have q := RpN.of hk hr hv
      exact ⟨_, _, rfl, ⟨rd_frz h2, q.nkv e⟩, q⟩
end
def dInN (x y : D) : Option D := match y with
  | .dicN _ es => (nkT x).map fun k => .bl (lkN es k).isSome
  | _ => none
theorem imp_inN {K : PySem.W.Frag} : Imp2 K dInN rInN := fun F H v w x y d Q ex rv rw' e o => by
  unfold dInN at e
  split at e
  · rename_i z es
    cases q : nkT x with
    | none => rw [q] at e; cases e
    | some k =>
      rw [q] at e
      cases e
      obtain ⟨b, rfl, n, dp, _⟩ := nkT_rp rv q
      obtain ⟨a, kvs, rfl, nd, re⟩ := dicn_ra ex (.val rw' rfl)
      refine ⟨a, kvs, k, b, rfl, nd, rfl, n.mono fun b xs q => ex b _ q, dp, ?_⟩
      rw [(re.lk k).some_eqN]
      exact o.here ex (.bl _)
  · cases e
section
variable {X : Cx} {E : EW} {fr : Bool} {pos : Pos}
theorem xn_dnewN : PE X (.Dict [] [] pos) (lN X.K E (xC (.dicN false []))) := pe_imp pe_nnew fun σ H Q h => by
  obtain ⟨F, ρ, r, p⟩ := h
  unfold Pend xC at p
  intro q hq
  exact p F _ ((Gr.newO r.ex hq).go r) q (.ext (NDict q [])) (r.ex.free hq) upd_same (Ro.dicN (z := false) (o := { cls := .none, data := .fields #[] }) (kvs := []) rfl .nil .nil) (not_own_new r hq) (.inr hq)
def withN {α : Type} (i : Nat) (f : List (D × D) → Rho → Res α) : Rho → Res α := fun ρ => match rdD i ρ with
  | some (.dicN _ es) => f es ρ
  | _ => .bad
theorem Pend.withN {α : Type} {K : PySem.W.Frag} {σ : L2.St} {F H : Hp} {ρ : Rho} {i : Nat} {f : List (D × D) → Rho → Res α} {Q : α → Rho → Hp → Hp → Prop} (h : Pend K E (withN i f) ρ σ F H Q) : ∃ z es, rdD i ρ = some (.dicN z es) ∧ Pend K E (f es) ρ σ F H Q := by
  unfold Pend G.withN at h
  split at h
  · rename_i e
    split at e
    · rename_i z es e2
      refine ⟨z, es, e2, ?_⟩
      unfold Pend
      rw [e]
      exact h
    · cases e
  · rename_i e
    split at e
    · rename_i z es e2
      refine ⟨z, es, e2, ?_⟩
      unfold Pend
      rw [e]
      exact h
    · cases e
  · exact h.elim
def dIxN (es : List (D × D)) (k : D) : Option D := (nkT k).bind fun n => lkN es n
def nixk2 (k : D) : List (D × D) → Rho → Res D := fun es ρ => lift (dIxN es) k ρ
def nixk1 (i : Nat) : D → Rho → Res D := fun k => withN i (nixk2 k)
def nixk0 (i : Nat) (tk : XV) : List (D × D) → Rho → Res D := fun _ ρ => (tk ρ).bind (nixk1 i)
def xNIx (i : Nat) (tk : XV) : XV := withN i (nixk0 i tk)
theorem xe_nix {i : Nat} {x : Str} {k : Expr} {tk : XV} {xp : Pos} (hu : X.A.units + 65 < cLine) (ho : PE X (.Name x xp) (tVar i)) (hk : PE X k (lE X.K E tk)) (hs : NoSl k := by intro _ _; rfl) :
    PE X (.Subscript (.Name x xp) k pos) (lE X.K E (xNIx i tk)) := pe_imp (pe_nget hu ho hk hs) fun σ H Q h => by
  obtain ⟨F, ρ, r, p⟩ := h
  obtain ⟨z0, es0, e0, p⟩ := Pend.withN p
  obtain ⟨v0, s0, ra0⟩ := r.rd e0
  obtain ⟨a, kvs0, ev, _, _⟩ := dicn_ra r.ex ra0
  subst ev
  refine ⟨.ref a, s0, F, ρ, r, (Pend.bind r p).mono fun kd ρ1 F1 H1 g1 q w rw1 => ?_⟩
  obtain ⟨z, es, e2, q⟩ := Pend.withN q
  obtain ⟨v2, s2, ra2⟩ := g1.rel.rd e2
  rw [s0] at s2
  cases s2
  obtain ⟨xx, ex, q⟩ := Pend.lift (f := dIxN es) (x := kd) q
  unfold dIxN at ex
  cases e3 : nkT kd with
  | none => rw [e3] at ex; cases ex
  | some n =>
    rw [e3] at ex
    simp only [Option.bind_some] at ex
    obtain ⟨b, rfl, nk, dp, _⟩ := nkT_rp rw1 e3
    obtain ⟨a', kvs, ea, nd, re⟩ := dicn_ra g1.rel.ex ra2
    cases ea
    have ro := re.lk n
    rw [ex] at ro
    cases ov : valN kvs n with
    | none => rw [ov] at ro; exact ro.elim
    | some v3 =>
      rw [ov] at ro
      exact ⟨a, kvs, n, b, v3, rfl, nd, rfl, nk.mono fun b xs q => g1.rel.ex b _ q, dp, ov, q F1 H1 (Go.refl g1.rel) v3 ro⟩
/-! d[k] = x -/
def nputO (i : Nat) (k d : D) (ρ : Rho) (o : Option D) : Fl := match o with
  | some (.dicN false es) => match nkT k with
    | some n => if es.length < sizeLine then .nx (ρ.set i (.own (.dicN false (ptN es n k d)))) else .bad
    | none => .bad
  | _ => .bad
def isDicN : D → Bool
  | .dicN _ _ => true
  | _ => false
def nputk2 (i : Nat) (d : D) : D → Rho → Fl := fun k ρ => nputO i k d ρ (ownD i ρ)
def nputk1 (i : Nat) (tk : XV) : D → Rho → Fl := fun d ρ => match ownD i ρ with
  | some y => if isDicN y = true then (tk ρ).fl (nputk2 i d) else .bad
  | none => .bad
def xNPut (i : Nat) (tk tv : XV) : XS := fun ρ => (tv ρ).fl (nputk1 i tk)
theorem xs_nput {i : Nat} {x : Str} {k e : Expr} {tk te : XV} {xp sp : Pos} (hu : X.A.units + 65 < cLine) (ho : PE X (.Name x xp) (tVar i)) (hk : PE X k (lE X.K E tk)) (he : PE X e (lE X.K E te))
    (hs : swapsWith e (some (.Subscript (.Name x xp) k sp)) pos.line X.env = pure false := by rfl) : PS X (.Assign [.Subscript (.Name x xp) k sp] e pos) (lS X.K E fr (xNPut i tk te)) := ps_imp (ps_nput hu ho hk he hs) fun C σ H h => by
  obtain ⟨F, ρ, r, p⟩ := h
  refine ⟨F, ρ, r, (PendS.fl r p).mono fun d ρ1 F1 H1 g1 q v rv => ?_⟩
  unfold nputk1 at q
  cases e0 : ownD i ρ1 with
  | none => unfold PendS at q; simp only [e0] at q
  | some y0 =>
    by_cases hd : isDicN y0 = true
    · have q : PendS X.K E fr (fun ρ => (tk ρ).fl (nputk2 i d)) ρ1 σ F1 H1 C := by
        unfold PendS at q ⊢
        simp only [e0, if_pos hd] at q
        exact q
      obtain ⟨a, o0, s0, f0, h0, ro0⟩ := g1.rel.own (ownD_of e0)
      refine ⟨.ref a, s0, F1, ρ1, g1.rel, (PendS.fl g1.rel q).mono fun kd ρ2 F2 H2 g2 q w rw1 => ?_⟩
      unfold PendS nputk2 at q
      cases e1 : ownD i ρ2 with
      | none => simp only [e1, nputO] at q
      | some y =>
        simp only [e1] at q
        obtain ⟨b, o1, s1, f1, h1, ro1⟩ := g2.rel.own (ownD_of e1)
        rw [s0] at s1
        cases s1
        have rv2 := rv.mono g2.ex
        cases y with
        | dicN z es =>
          cases z with
          | true => simp only [nputO] at q
          | false =>
            simp only [nputO] at q
            cases q1 : nkT kd with
            | none => simp only [q1] at q
            | some n =>
              simp only [q1] at q
              by_cases hz : es.length < sizeLine
              · simp only [if_pos hz] at q
                obtain ⟨b2, rfl, nk, dp, hk2⟩ := nkT_rp rw1 q1
                cases ro1 with
                | @dicN _ _ kvs _ hk3 hr hv =>
                  have re := RpN.of hk3 hr hv
                  have rp := re.pt hk2 rw1 rv2
                  exact ⟨a, kvs, n, b2, rfl, h1, re.nkv g2.rel.ex, rfl, nk.mono fun b xs q => g2.rel.ex b _ q, dp, by rw [re.len]; exact hz, q σ F2 _ (Go.mut g2.rel (ownD_of e1) s0 f1 h1 (Ro.dicN (z := false) (o := { cls := .none, data := .fields #[] }) rp.keys rp.refs rp.vals))⟩
              · simp only [if_neg hz] at q
        | _ => simp only [nputO] at q
    · unfold PendS at q
      simp only [e0, if_neg hd] at q
end
/-! the plain side -/
section
variable {α β : Type} {ρ : Rho} {i : Nat} {ta tb : XV}
def withNO (f : List (D × D) → Rho → Res α) (ρ : Rho) (o : Option D) : Res α := match o with
  | some (.dicN _ es) => f es ρ
  | _ => .bad
theorem zhL (f : List (D × D) → Rho → Res α) : withN i f ρ = withNO f ρ (rdD i ρ) := by unfold withN withNO; rfl
theorem zhM (f : List (D × D) → Rho → Res α) (z : Bool) (es : List (D × D)) : withNO f ρ (some (.dicN z es)) = f es ρ := rfl
theorem zhN : xNIx i ta ρ = withN i (nixk0 i ta) ρ := rfl
theorem zhO (es : List (D × D)) : nixk0 i ta es ρ = (ta ρ).bind (nixk1 i) := rfl
theorem zhP (k : D) : nixk1 i k ρ = withN i (nixk2 k) ρ := rfl
theorem zhQ (k : D) (es : List (D × D)) : nixk2 k es ρ = liftO (dIxN es k) ρ := rfl
theorem zhR : xNPut i ta tb ρ = (tb ρ).fl (nputk1 i ta) := rfl
def nputO1 (i : Nat) (tk : XV) (d : D) (ρ : Rho) (o : Option D) : Fl := match o with
  | some y => if isDicN y = true then (tk ρ).fl (nputk2 i d) else .bad
  | none => .bad
theorem zhS (d : D) : nputk1 i ta d ρ = nputO1 i ta d ρ (ownD i ρ) := by unfold nputk1 nputO1; rfl
theorem zhT (d : D) (z : Bool) (es : List (D × D)) : nputO1 i ta d ρ (some (.dicN z es)) = (ta ρ).fl (nputk2 i d) := rfl
theorem zhU (d k : D) : nputk2 i d k ρ = nputO i k d ρ (ownD i ρ) := rfl
theorem zhV {k d : D} {n : NestedKey} {es : List (D × D)} (hn : nkT k = some n) (hz : es.length < sizeLine) : nputO i k d ρ (some (.dicN false es)) = .nx (ρ.set i (.own (.dicN false (ptN es n k d)))) := by
  show (match nkT k with
    | some n => if es.length < sizeLine then Fl.nx (ρ.set i (.own (.dicN false (ptN es n k d)))) else Fl.bad
    | none => Fl.bad) = _
  rw [hn]
  exact if_pos hz
theorem zhW {x : D} {n : NestedKey} (z : Bool) (es : List (D × D)) (hn : nkT x = some n) : dBl dInN x (.dicN z es) = some (lkN es n).isSome := by
  have : dInN x (.dicN z es) = (nkT x).map fun k => .bl (lkN es k).isSome := rfl
  unfold dBl
  rw [this, hn]
  rfl
theorem zhX {k : D} {n : NestedKey} (es : List (D × D)) (hn : nkT k = some n) : dIxN es k = lkN es n := by
  unfold dIxN
  rw [hn]
  rfl
end
end G

set_option maxHeartbeats 4000000
namespace G
open PySem PySem.Spec PyProof.Rows L2
local macro_rules | `(tactic| simp! [$ls,*] $[$loc:location]?) => `(tactic| simp only [zaa, zab, zac, zad, zae, zaf, zag, zah, zai, zaj, zak, zal, zam, zan, zao, zap, zaq, zar, zas, zat, zau, zav, zaw, zax, zay, zaz, zaA, zaB, zaC, zaD, zaE, zaF, zaG, zaH, zaI, zaJ, zaK, zaL, zaM, zaN, zaO, zaP, zaQ, zaR, zaS, zaT, zaU, zaV, zaW, zaX, zaY, zaZ, zba, zbb, zbc, zbd, zbe, zbf, zbg, zbh, zbi, zbj, zbk, zbl, zbm, zbn, zbo, zbp, zbq, zbr, zbs, zbt, zbu, zbv, zbw, zbx, zby, zbz, zbA, zbB, zbC, zbD, zbE, zbF, zbG, zbH, zbI, zbJ, zbK, zbL, zbM, zbN, zbO, zbP, zbQ, zbR, zbS, zbT, zbU, zbV, zbW, zbX, zbY, zbZ, zca, zcb, zcc, zcd, zce, zcf, zcg, zch, zci, zcj, zck, zcl, zcm, zcn, zco, zcp, zcq, zcr, zcs, zct, zcu, zcv, zcw, zcx, zcy, zcz, zcA, zcB, zcC, zcD, zcE, zcF, zcG, zcH, zcI, zcJ, zcK, zcL, zcM, zcN, zcO, zcP, zcQ, zcR, zcS, zcT, zcU, zcV, zcW, zcX, zcY, zcZ, zda, zdb, zdc, zdd, zde, zdf, zdg, zdh, zdi, zdj, zdk, zdl, zdm, zdn, zdo, zdp, zdq, zdr, zds, zdt, zdu, zdv, zdw, zdx, zdy, zdz, zdA, zdB, zdC, zdD, zdE, zdF, zdG, zdH, zdI, zdJ, zdK, zdL, zdM, zdN, zdO, zdP, zdQ, zdR, zdS, zdT, zdU, zdV, G.of_f, G.of_t, zdW, zdX, zdY, zdZ, zea, zeb, zec, zed, zee, zef, zeg, zeh, zei, zej, zek, zel, zem, zen, zeo, zep, zeq, zer, zes, zet, zeu, zev, zew, zex, zey, zez, zeA, zeB, zeC, zeD, zeE, zeF, zeG, zeH, zeI, zeJ, zeK, zeL, zeM, zeN, zeO, zeP, zeQ, zeR, zeS, zeT, zeU, zeV, zeW, zeX, zeY, zeZ, zfa, zfb, zfc, G.sz_1, G.sz_2, G.sz_3, G.sz_4, G.sz_0, zfd, zfe, zff, zfg, zfh, zfi, zfj, zfk, zfl, zfm, zfn, zfo, zfp, zfq, zfr, zfs, zft, zfu, zfv, zfw, G.nc_0, G.nc_1, G.nc_2, G.nc_3, G.nc_4, G.nc_5, G.nc_6, G.nc_7, G.nc_8, G.nc_9, zfx, zfy, zfz, zfA, zfB, zfC, zfD, zfE, zfF, zfG, zfH, zfI, zfJ, zfK, zfL, zfM, zfN, zfO, zfP, zfQ, zfR, zfS, zfT, zfU, zfV, zfW, zfX, zfY, zfZ, zga, zgb, zgc, zgd, zge, zgf, zgg, zgh, zgi, zgj, zgk, zgl, zgm, zgn, zgo, zgp, zgq, zgr, zgs, zgt, zgu, zgv, zgw, zgx, zgy, zgz, zgA, zgB, zgC, zgD, zgE, zgF, zgG, zgH, zgI, zgJ, zgK, zgL, zgM, zgN, zgO, zgP, zgQ, zgR, zgS, zgT, zgU, zgV, zgW, zgX, zgY, zgZ, zha, zhb, zhc, zhd, zhe, zhf, zhg, zhh, zhi, zhj, zhk, zhl, zhm, zhn, zho, zhp, zhq, zhr, zhs, zht, zhu, zhv, zhw, zhx, zhy, zhz, zhA, zhB, zhC, zhD, zhE, zhF, zhG, zhH, zhI, zhJ, zhK, List.getElem?_cons_zero, List.getElem?_cons_succ, List.set_cons_zero, List.set_cons_succ, G.atI_0, G.atI_1, G.atI_2, G.atI_3, Option.map_some, Option.bind_some, G.eqD_int, G.eqD_cell, G.eqD_bl, List.length_cons, List.length_nil, List.getD_cons_zero, List.getD_cons_succ, Bool.and_true, Bool.and_self, decide_true, decide_false, Bool.not_true, Bool.not_false, List.append_nil, List.nil_append, List.cons_append, if_true, if_false, Bool.false_eq_true, reduceIte, Int.reduceLT, Int.reduceLE, Int.reduceToNat, Int.reducePow, Int.reduceNeg, Int.reduceAdd, Int.reduceSub, Int.reduceMul, Nat.reduceAdd, Int.reduceEq, List.replicate, Nat.reduceSub, and_self, and_true, true_and, $ls,*] $[$loc]?)

/-! ### the laws k19 to k30: their own next turn, the move from one picture to another -/
noncomputable def pb_law_steps : XS := (xSeq (xSet 1 (xOpL dLst (xCons (xOpL dTup (xCons (xC (.int 0)) (xCons (xOp1 dNeg (xC (.int 1))) xNil))) (xCons (xOpL dTup (xCons (xOp1 dNeg (xC (.int 1))) (xCons (xC (.int 0)) xNil))) (xCons (xOpL dTup (xCons (xC (.int 1)) (xCons (xC (.int 0)) xNil))) (xCons (xOpL dTup (xCons (xC (.int 0)) (xCons (xC (.int 1)) xNil))) xNil))))))
    (xSeq (xIfS (xTest (xOp2 (dCmp fun i j => decide (j < i)) (xVar 0) (xC (.int 4))))
    (xSet 1 (xOp2 dAdd (xVar 1) (xOpL dLst (xCons (xOpL dTup (xCons (xOp1 dNeg (xC (.int 1))) (xCons (xOp1 dNeg (xC (.int 1))) xNil))) (xCons (xOpL dTup (xCons (xC (.int 1)) (xCons (xC (.int 1)) xNil))) xNil)))))
    xNext)
    (xSeq (xIfS (xTest (xOp2 dEq (xVar 0) (xC (.int 8))))
    (xSet 1 (xOp2 dAdd (xVar 1) (xOpL dLst (xCons (xOpL dTup (xCons (xOp1 dNeg (xC (.int 1))) (xCons (xC (.int 1)) xNil))) (xCons (xOpL dTup (xCons (xC (.int 1)) (xCons (xOp1 dNeg (xC (.int 1))) xNil))) xNil)))))
    xNext)
    (xRet (xVar 1)))))
noncomputable def p_law_steps : DF := runP [false] 2 false pb_law_steps
noncomputable def pb_law_next_1 : XS := (xSeq (xSet 5 (xOpL dTup (xCons (xOp2 dAdd (xOp2 dIx (xVar 3) (xC (.int 0))) (xOp2 dIx (xVar 4) (xC (.int 0)))) (xCons (xOp2 dAdd (xOp2 dIx (xVar 3) (xC (.int 1))) (xOp2 dIx (xVar 4) (xC (.int 1)))) xNil))))
    (xDPut 2 (xVar 5) (xOp2 dAdd (xDGet2 2 (xVar 5) (xC (.int 0))) (xC (.int 1)))))
noncomputable def pb_law_next_2 : XS := (xSeq (xDPut 2 (xVar 3) (xDGet2 2 (xVar 3) (xC (.int 0))))
    (xFor (xIt (xCall p_law_steps (xCons (xOp2 dIx (xVar 0) (xC (.int 0))) xNil))) (gSet 4) pb_law_next_1))
noncomputable def pb_law_next_3 : XS := (xDPut 6 (xVar 3) (xC (.bl true)))
noncomputable def pb_law_next : XS := (xSeq (xSetO 2 (xC (.dicT false [])))
    (xSeq (xFor (xIt (xVar 1)) (gSet 3) pb_law_next_2)
    (xSeq (xSetO 6 (xC (.dicT false [])))
    (xSeq (xFor (xIt (xVar 1)) (gSet 3) pb_law_next_3)
    (xRet (xOpL dSorted (xCons (frzV 2 (lockV 2 (xLC (xItK 2) (gSet 3) (xTest (xOp2 dInX (xDIx 2 (xVar 3)) (xOp2 dIx (xVar 0) (xOp2 dAdd (xC (.int 1)) (xOpL dInt (xCons (xCmpO dInX (xVar 3) 6) xNil)))))) (xVar 3) [3]))) xNil)))))))
noncomputable def p_law_next : DF := runP [false, false] 7 true pb_law_next
noncomputable def pb_law_move : XS := (xSeq (xIfS (xTest (xOp2 dNe (xOpL dLen (xCons (xVar 0) xNil)) (xOpL dLen (xCons (xVar 1) xNil))))
    (xRet (xC .non))
    xNext)
    (xSeq (xSet 2 (xOpL dTup (xCons (xOp2 dSub (xOp2 dIx (xOp2 dIx (xVar 1) (xC (.int 0))) (xC (.int 0))) (xOp2 dIx (xOp2 dIx (xVar 0) (xC (.int 0))) (xC (.int 0)))) (xCons (xOp2 dSub (xOp2 dIx (xOp2 dIx (xVar 1) (xC (.int 0))) (xC (.int 1))) (xOp2 dIx (xOp2 dIx (xVar 0) (xC (.int 0))) (xC (.int 1)))) xNil))))
    (xSeq (xIfS (xTest (xOp2 dNe (xLC (xIt (xVar 0)) (gsTup 2 (gsCons (gSet 3) (gsCons (gSet 4) gsNil))) xYes (xOpL dTup (xCons (xOp2 dAdd (xVar 3) (xOp2 dIx (xVar 2) (xC (.int 0)))) (xCons (xOp2 dAdd (xVar 4) (xOp2 dIx (xVar 2) (xC (.int 1)))) xNil))) [3, 4]) (xVar 1)))
    (xRet (xC .non))
    xNext)
    (xRet (xVar 2)))))
noncomputable def p_law_move : DF := runP [false, false] 5 false pb_law_move
/-! the law's own next turn -/
def L25 : Int → List (Int × Int)
  | 4 => [(0, -1), (-1, 0), (1, 0), (0, 1)]
  | 6 => [(0, -1), (-1, 0), (1, 0), (0, 1)] ++ [(-1, -1), (1, 1)]
  | _ => [(0, -1), (-1, 0), (1, 0), (0, 1)] ++ [(-1, -1), (1, 1)] ++ [(-1, 1), (1, -1)]
theorem st4 : p_law_steps [.int 4] = .ok (cells [(0, -1), (-1, 0), (1, 0), (0, 1)]) [] := by kernel_rfl
theorem st6 : p_law_steps [.int 6] = .ok (cells ([(0, -1), (-1, 0), (1, 0), (0, 1)] ++ [(-1, -1), (1, 1)])) [] := by kernel_rfl
theorem st8 : p_law_steps [.int 8] = .ok (cells ([(0, -1), (-1, 0), (1, 0), (0, 1)] ++ [(-1, -1), (1, 1)] ++ [(-1, 1), (1, -1)])) [] := by kernel_rfl
theorem lst_is {k : Int} (hk : Kind k) : p_law_steps [.int k] = .ok (cells (L25 k)) [] ∧ (L25 k).Perm (near k) ∧ (L25 k).length ≤ 8 := by
  rcases hk with rfl | rfl | rfl
  · exact ⟨st4, by show List.Perm [(0, -1), (-1, 0), (1, 0), (0, 1)] N4; decide, by decide⟩
  · exact ⟨st6, by show List.Perm ([(0, -1), (-1, 0), (1, 0), (0, 1)] ++ [(-1, -1), (1, 1)]) N6; decide, by decide⟩
  · exact ⟨st8, by show List.Perm ([(0, -1), (-1, 0), (1, 0), (0, 1)] ++ [(-1, -1), (1, 1)] ++ [(-1, 1), (1, -1)]) N8; decide, by decide⟩
theorem opsL_length {L : List (Int × Int)} (hL : L.length ≤ 8) (live : List (Int × Int)) : (opsL L live).length ≤ 9 * live.length := by
  unfold opsL
  induction live with
  | nil => simp
  | cons p live ih =>
    rw [List.flatMap_cons, List.length_append, List.length_cons, List.length_map, List.length_map, List.length_cons]
    omega
theorem opsL_snoc (L live : List (Int × Int)) (p : Int × Int) : opsL L (live ++ [p]) = opsL L live ++ [(p, 0)] ++ (L.map fun d => sh d p).map fun c => (c, 1) := by
  unfold opsL
  rw [List.flatMap_append]
  simp
theorem lfill_is {k : Int} (hk : Kind k) (bs ss : List Int) (live : List (Int × Int)) (hl : live.length ≤ 1600) : ∃ s3 s4 s5, notOwn (some s3) = true ∧ forRun (gSet 3) pb_law_next_2 (live.map cellP) [.val (ruleD k bs ss), .val (cells live), .own (.dicT false []), .emp, .emp, .emp, .emp] = .nx [.val (ruleD k bs ss), .val (cells live), .own (.dicT false (encE D.int (opsT (opsL (L25 k) live)))), s3, s4, s5, .emp] := by
  obtain ⟨es, _, l8⟩ := lst_is hk
  obtain ⟨ρ', e, s3, s4, s5, h3, rfl⟩ := for_list (g := gSet 3) (body := pb_law_next_2) (e := cellP) (fun i ρ => ∃ s3 s4 s5, notOwn (some s3) = true ∧ ρ = [.val (ruleD k bs ss), .val (cells live), .own (.dicT false (encE D.int (opsT (opsL (L25 k) (live.take i))))), s3, s4, s5, .emp]) (l := live) (ρ := [.val (ruleD k bs ss), .val (cells live), .own (.dicT false []), .emp, .emp, .emp, .emp]) ⟨_, _, _, rfl, rfl⟩ (fun i p ρ hi hρ => by
    obtain ⟨s3, s4, s5, _, rfl⟩ := hρ
    obtain ⟨x, y⟩ := p
    refine ⟨_, rfl, ?_⟩
    have l1 : i < live.length := (List.getElem?_eq_some_iff.mp hi).1
    have lb : (opsL (L25 k) (live.take i)).length ≤ 9 * 1600 := by
      have := opsL_length l8 (live.take i)
      rw [List.length_take] at this
      omega
    obtain ⟨ρ', e, s4, s5, rfl⟩ := for_list (g := gSet 4) (body := pb_law_next_1) (e := cellP) (fun j ρ => ∃ s4 s5, ρ = [.val (ruleD k bs ss), .val (cells live), .own (.dicT false (encE D.int (opsT (opsL (L25 k) (live.take i) ++ [((x, y), 0)] ++ (((L25 k).take j).map fun d => sh d (x, y)).map fun c => (c, 1))))), .val (.tup [.int x, .int y]), s4, s5, .emp]) (l := L25 k) (ρ := [.val (ruleD k bs ss), .val (cells live), .own (.dicT false (encE D.int (opsT (opsL (L25 k) (live.take i) ++ [((x, y), 0)])))), .val (.tup [.int x, .int y]), s4, s5, .emp]) ⟨s4, s5, by simp⟩ (fun j d ρ hj hρ => by
      obtain ⟨s4, s5, rfl⟩ := hρ
      obtain ⟨u, v⟩ := d
      refine ⟨_, rfl, ?_⟩
      have l2 : j < (L25 k).length := (List.getElem?_eq_some_iff.mp hj).1
      generalize hO : opsL (L25 k) (live.take i) ++ [((x, y), 0)] ++ (((L25 k).take j).map fun d => sh d (x, y)).map (fun c => (c, (1 : Int))) = O
      have lO : O.length ≤ 20000 := by
        rw [← hO, List.length_append, List.length_append, List.length_map, List.length_map, List.length_take, List.length_cons, List.length_nil]
        omega
      have hz : (encE D.int (opsT O)).length < sizeLine := by
        rw [encE_len]
        exact szBl (Nat.le_trans (opsT_len O) lO)
      have hx : opsL (L25 k) (live.take i) ++ [((x, y), 0)] ++ (((L25 k).take (j + 1)).map fun d => sh d (x, y)).map (fun c => (c, (1 : Int))) = O ++ [((x + u, y + v), 1)] := by
        rw [take_snoc hj, List.map_append, List.map_append, ← List.append_assoc, hO]
        rfl
      rw [hx, opsT_snoc]
      unfold pb_law_next_1
      simp! [cells, cellP, hz, lk_int, pt_int]
      exact ⟨_, .inl rfl, _, _, rfl⟩)
    rw [List.take_length, ← opsL_snoc, ← take_snoc hi] at e
    have hz : (encE D.int (opsT (opsL (L25 k) (live.take i)))).length < sizeLine := by
      rw [encE_len]
      exact szBl (Nat.le_trans (opsT_len _) (by omega))
    rw [opsT_snoc] at e
    unfold pb_law_next_2
    simp! [cells, ruleD, Int.add_zero] at e es ⊢
    simp! [cellP, hz, lk_int, pt_int, es, e]
    exact ⟨_, .inl rfl, _, _, _, rfl, rfl⟩)
  rw [List.take_length] at e
  exact ⟨_, _, _, h3, e⟩
theorem lalive_is (T S : D) (live : List (Int × Int)) (hl : live.length ≤ 1600) (U : Slot) (s3 s4 s5 : Slot) (h3 : notOwn (some s3) = true) : ∃ s3', notOwn (some s3') = true ∧ forRun (gSet 3) pb_law_next_3 (live.map cellP) [.val T, .val S, U, s3, s4, s5, .own (.dicT false [])] = .nx [.val T, .val S, U, s3', s4, s5, .own (.dicT false (encE D.bl (allT live)))] := by
  obtain ⟨ρ', e, s3', h3', rfl⟩ := for_list (g := gSet 3) (body := pb_law_next_3) (e := cellP) (fun i ρ => ∃ s3', notOwn (some s3') = true ∧ ρ = [.val T, .val S, U, s3', s4, s5, .own (.dicT false (encE D.bl (allT (live.take i))))]) (l := live) (ρ := [.val T, .val S, U, s3, s4, s5, .own (.dicT false [])]) ⟨_, h3, rfl⟩ (fun i p ρ hi hρ => by
    obtain ⟨s3, _, rfl⟩ := hρ
    obtain ⟨x, y⟩ := p
    refine ⟨_, rfl, ?_⟩
    have l1 : i < live.length := (List.getElem?_eq_some_iff.mp hi).1
    have hz : (encE D.bl (allT (live.take i))).length < sizeLine := by
      have := allT_len (live.take i)
      rw [List.length_take] at this
      rw [encE_len]
      exact szBl (by omega)
    rw [take_snoc hi, allT_snoc]
    unfold pb_law_next_3
    simp! [cellP, hz, pt_bl]
    exact ⟨_, .inl rfl, _, rfl, rfl⟩)
  rw [List.take_length] at e
  exact ⟨_, h3', e⟩
theorem dInt_bl (b : Bool) : dInt [.bl b] = some (.int (if b = true then 1 else 0)) := rfl
theorem law_next_is {k : Int} (hk : Kind k) {bs : List Int} (hq : 0 ∉ bs) (ss : List Int) (live : List (Int × Int)) (hl : live.length ≤ 1600) : p_law_next [ruleD k bs ss, cells live] = .ok (cells (nextP k bs ss live)) [] := by
  unfold p_law_next pb_law_next
  obtain ⟨es, hp, l8⟩ := lst_is hk
  obtain ⟨s3, s4, s5, h3, e1⟩ := lfill_is hk bs ss live hl
  obtain ⟨s3', h3', e2⟩ := lalive_is (ruleD k bs ss) (cells live) live hl (.own (.dicT false (encE D.int (opsT (opsL (L25 k) live))))) s3 s4 s5 h3
  have hz1 : ((opsT (opsL (L25 k) live)).map (·.1)).length ≤ 14400 := by
    have := opsL_len (k := k) l8 live
    rw [List.length_map]
    omega
  have hz2 : (((opsT (opsL (L25 k) live)).map (·.1)).map cellP).length ≤ sizeLine := by
    rw [List.length_map]
    exact szB (by omega)
  have hz3 : ((((opsT (opsL (L25 k) live)).map (·.1)).filter (cond k bs ss live)).map cellP).length ≤ sizeLine := by
    rw [List.length_map]
    exact szB (Nat.le_trans (List.length_filter_le _ _) (by omega))
  have hf := opsL_next hp hq ss live
  simp! [cells, ruleD] at e1 e2 ⊢
  simp! [e1, e2, keys_enc, hz2, h3']
  rw [lcFilt cellP (cond k bs ss live) id]
  · rw [List.map_id]
    simp! [hz3, sorted_cells, hf]
  · intro c hc
    obtain ⟨x, y⟩ := c
    have hv := opsL_lives hp live (x, y)
    obtain ⟨v, ev⟩ : ∃ v, lkA (opsT (opsL (L25 k) live)) (x, y) = some v := Option.isSome_iff_exists.mp ((mem_keys _ _).mp hc)
    rw [ev] at hv
    have hv : v = ((livesP k live (x, y) : Nat) : Int) := hv
    have hl := lk_enc D.int (opsT (opsL (L25 k) live)) (x, y)
    rw [ev] at hl
    have q : cond k bs ss live (x, y) = decide (((livesP k live (x, y) : Nat) : Int) ∈ if (x, y) ∈ live then ss else bs) := rfl
    rw [← hv] at q
    by_cases hm : (x, y) ∈ live
    · rw [if_pos hm] at q
      by_cases hs : v ∈ ss
      · rw [decide_eq_true hs] at q
        rw [if_pos q]
        simp! [cellP, lk_some, allT_lk, hm, dInt_bl, zgA, hl, hs, id_eq]
      · rw [decide_eq_false hs] at q
        rw [if_neg (by rw [q]; decide)]
        simp! [cellP, lk_some, allT_lk, hm, dInt_bl, zgA, hl, hs, id_eq]
    · rw [if_neg hm] at q
      by_cases hs : v ∈ bs
      · rw [decide_eq_true hs] at q
        rw [if_pos q]
        simp! [cellP, lk_some, allT_lk, hm, dInt_bl, zgA, hl, hs, id_eq]
      · rw [decide_eq_false hs] at q
        rw [if_neg (by rw [q]; decide)]
        simp! [cellP, lk_some, allT_lk, hm, dInt_bl, zgA, hl, hs, id_eq]
/-- the move by which one picture with cells is another one -/
def moveL (one other : List (Int × Int)) : Option (Int × Int) := match one, other with
  | p :: _, q :: _ => if one.map (sh (q.1 - p.1, q.2 - p.2)) = other then some (q.1 - p.1, q.2 - p.2) else none
  | _, _ => none
def mvD : Option (Int × Int) → D
  | some m => .tup [.int m.1, .int m.2]
  | none => .non
theorem law_move_is (p q : Int × Int) (one other : List (Int × Int)) (l1 : (p :: one).length ≤ 1600) (l2 : (q :: other).length ≤ 1600) : p_law_move [cells (p :: one), cells (q :: other)] = .ok (mvD (moveL (p :: one) (q :: other))) [] := by
  unfold p_law_move pb_law_move
  obtain ⟨x, y⟩ := p
  obtain ⟨u, v⟩ := q
  by_cases hL : one.length = other.length
  · have hd : decide ((((one.map cellP).length + 1 : Nat) : Int) = (((other.map cellP).length + 1 : Nat) : Int)) = true := decide_eq_true (by rw [List.length_map, List.length_map, hL])
    have hz : (cellP (x, y) :: one.map cellP).length ≤ sizeLine := by
      rw [List.length_cons, List.length_map]
      exact szB (by rw [List.length_cons] at l1; omega)
    have run : ∀ (S : List D), S = ((x, y) :: one).map cellP → lcRun (gsTup 2 (gsCons (gSet 3) (gsCons (gSet 4) gsNil))) xYes (xOpL dTup (xCons (xOp2 dAdd (xVar 3) (xOp2 dIx (xVar 2) (xC (.int 0)))) (xCons (xOp2 dAdd (xVar 4) (xOp2 dIx (xVar 2) (xC (.int 1)))) xNil))) [3, 4] S [] [.val (.lst S), .val (.lst (cellP (u, v) :: other.map cellP)), .val (.tup [.int (u - x), .int (v - y)]), .emp, .emp] = .ok ((((x, y) :: one).map (sh (u - x, v - y))).map cellP) [.val (.lst S), .val (.lst (cellP (u, v) :: other.map cellP)), .val (.tup [.int (u - x), .int (v - y)]), .emp, .emp] := by
      rintro _ rfl
      rw [lcMap cellP (sh (u - x, v - y))]
      intro c hc
      obtain ⟨a, b⟩ := c
      simp! [cellP, sh]
    have run := run (cellP (x, y) :: one.map cellP) rfl
    have hz2 : ((((x, y) :: one).map (sh (u - x, v - y))).map cellP).length ≤ sizeLine := by
      rw [List.length_map, List.length_map]
      exact szB (by omega)
    have he : eqD (.lst ((((x, y) :: one).map (sh (u - x, v - y))).map cellP)) (.lst (cellP (u, v) :: other.map cellP)) = some (decide (((x, y) :: one).map (sh (u - x, v - y)) = (u, v) :: other)) := eq_cells (((x, y) :: one).map (sh (u - x, v - y))) ((u, v) :: other)
    generalize hR : ((x, y) :: one).map (sh (u - x, v - y)) = R at run hz2 he
    have hm : moveL ((x, y) :: one) ((u, v) :: other) = if R = (u, v) :: other then some (u - x, v - y) else none := by rw [← hR]; rfl
    rw [hm]
    simp! [cellP] at run hz he
    by_cases hq : R = (u, v) :: other
    · rw [decide_eq_true hq] at he
      rw [if_pos hq]
      simp! [cells, List.map_cons, cellP, hd, hz, run, hz2, he, mvD]
    · rw [decide_eq_false hq] at he
      rw [if_neg hq]
      simp! [cells, List.map_cons, cellP, hd, hz, run, hz2, he, mvD]
  · have hd : decide ((((one.map cellP).length + 1 : Nat) : Int) = (((other.map cellP).length + 1 : Nat) : Int)) = false := decide_eq_false (by rw [List.length_map, List.length_map]; omega)
    have hm : moveL ((x, y) :: one) ((u, v) :: other) = none := if_neg fun z => hL (by
      have := congrArg List.length z
      simpa using this)
    rw [hm]
    simp! [cells, List.map_cons, cellP, hd, mvD]
end G

set_option maxHeartbeats 4000000
namespace G
open PySem PySem.Spec PyProof.Rows L2
local macro_rules | `(tactic| simp! [$ls,*] $[$loc:location]?) => `(tactic| simp only [zaa, zab, zac, zad, zae, zaf, zag, zah, zai, zaj, zak, zal, zam, zan, zao, zap, zaq, zar, zas, zat, zau, zav, zaw, zax, zay, zaz, zaA, zaB, zaC, zaD, zaE, zaF, zaG, zaH, zaI, zaJ, zaK, zaL, zaM, zaN, zaO, zaP, zaQ, zaR, zaS, zaT, zaU, zaV, zaW, zaX, zaY, zaZ, zba, zbb, zbc, zbd, zbe, zbf, zbg, zbh, zbi, zbj, zbk, zbl, zbm, zbn, zbo, zbp, zbq, zbr, zbs, zbt, zbu, zbv, zbw, zbx, zby, zbz, zbA, zbB, zbC, zbD, zbE, zbF, zbG, zbH, zbI, zbJ, zbK, zbL, zbM, zbN, zbO, zbP, zbQ, zbR, zbS, zbT, zbU, zbV, zbW, zbX, zbY, zbZ, zca, zcb, zcc, zcd, zce, zcf, zcg, zch, zci, zcj, zck, zcl, zcm, zcn, zco, zcp, zcq, zcr, zcs, zct, zcu, zcv, zcw, zcx, zcy, zcz, zcA, zcB, zcC, zcD, zcE, zcF, zcG, zcH, zcI, zcJ, zcK, zcL, zcM, zcN, zcO, zcP, zcQ, zcR, zcS, zcT, zcU, zcV, zcW, zcX, zcY, zcZ, zda, zdb, zdc, zdd, zde, zdf, zdg, zdh, zdi, zdj, zdk, zdl, zdm, zdn, zdo, zdp, zdq, zdr, zds, zdt, zdu, zdv, zdw, zdx, zdy, zdz, zdA, zdB, zdC, zdD, zdE, zdF, zdG, zdH, zdI, zdJ, zdK, zdL, zdM, zdN, zdO, zdP, zdQ, zdR, zdS, zdT, zdU, zdV, G.of_f, G.of_t, zdW, zdX, zdY, zdZ, zea, zeb, zec, zed, zee, zef, zeg, zeh, zei, zej, zek, zel, zem, zen, zeo, zep, zeq, zer, zes, zet, zeu, zev, zew, zex, zey, zez, zeA, zeB, zeC, zeD, zeE, zeF, zeG, zeH, zeI, zeJ, zeK, zeL, zeM, zeN, zeO, zeP, zeQ, zeR, zeS, zeT, zeU, zeV, zeW, zeX, zeY, zeZ, zfa, zfb, zfc, G.sz_1, G.sz_2, G.sz_3, G.sz_4, G.sz_0, zfd, zfe, zff, zfg, zfh, zfi, zfj, zfk, zfl, zfm, zfn, zfo, zfp, zfq, zfr, zfs, zft, zfu, zfv, zfw, G.nc_0, G.nc_1, G.nc_2, G.nc_3, G.nc_4, G.nc_5, G.nc_6, G.nc_7, G.nc_8, G.nc_9, zfx, zfy, zfz, zfA, zfB, zfC, zfD, zfE, zfF, zfG, zfH, zfI, zfJ, zfK, zfL, zfM, zfN, zfO, zfP, zfQ, zfR, zfS, zfT, zfU, zfV, zfW, zfX, zfY, zfZ, zga, zgb, zgc, zgd, zge, zgf, zgg, zgh, zgi, zgj, zgk, zgl, zgm, zgn, zgo, zgp, zgq, zgr, zgs, zgt, zgu, zgv, zgw, zgx, zgy, zgz, zgA, zgB, zgC, zgD, zgE, zgF, zgG, zgH, zgI, zgJ, zgK, zgL, zgM, zgN, zgO, zgP, zgQ, zgR, zgS, zgT, zgU, zgV, zgW, zgX, zgY, zgZ, zha, zhb, zhc, zhd, zhe, zhf, zhg, zhh, zhi, zhj, zhk, zhl, zhm, zhn, zho, zhp, zhq, zhr, zhs, zht, zhu, zhv, zhw, zhx, zhy, zhz, zhA, zhB, zhC, zhD, zhE, zhF, zhG, zhH, zhI, zhJ, zhK, List.getElem?_cons_zero, List.getElem?_cons_succ, List.set_cons_zero, List.set_cons_succ, G.atI_0, G.atI_1, G.atI_2, G.atI_3, Option.map_some, Option.bind_some, G.eqD_int, G.eqD_cell, G.eqD_bl, List.length_cons, List.length_nil, List.getD_cons_zero, List.getD_cons_succ, Bool.and_true, Bool.and_self, decide_true, decide_false, Bool.not_true, Bool.not_false, List.append_nil, List.nil_append, List.cons_append, if_true, if_false, Bool.false_eq_true, reduceIte, Int.reduceLT, Int.reduceLE, Int.reduceToNat, Int.reducePow, Int.reduceNeg, Int.reduceAdd, Int.reduceSub, Int.reduceMul, Nat.reduceAdd, Int.reduceEq, List.replicate, Nat.reduceSub, and_self, and_true, true_and, $ls,*] $[$loc]?)

/-! ### papers of fates -/
noncomputable def pb_moved_pairs_1 : XS := (xExtend 3 (xLC (xItR1 (xVar 4)) (gSet 5) (xTest (xOp2 dEq (xOp2 dIx (xVar 1) (xVar 5)) (xOp2 dIx (xVar 1) (xVar 4)))) (xOpL dTup (xCons (xVar 5) (xCons (xVar 4) xNil))) [5]))
noncomputable def pb_moved_pairs : XS := (xSeq (xSet 1 (xLC (xItO 0) (gSet 2) xYes (xCall p_at_nought (xConsR (xVar 2) xNil)) [2]))
    (xSeq (xSetO 3 (xOpL dLst xNil))
    (xSeq (xFor (xItR1 (xLenO 0)) (gSet 4) pb_moved_pairs_1)
    (xRet (xTake 3)))))
noncomputable def p_moved_pairs : DF := runP [true] 6 true pb_moved_pairs
noncomputable def pb_are_turns_1 : XS := (xIfS (xTest (xOp2 dNe (xCall p_next_turn (xCons (xVar 0) (xCons (xOp2 dIx (xVar 1) (xOp2 dSub (xVar 2) (xC (.int 1)))) xNil))) (xOp2 dIx (xVar 1) (xVar 2))))
    (xRet (xC (.bl false)))
    xNext)
noncomputable def pb_are_turns : XS := (xSeq (xFor (xItR2 (xC (.int 1)) (xOpL dLen (xCons (xVar 1) xNil))) (gSet 2) pb_are_turns_1)
    (xRet (xC (.bl true))))
noncomputable def p_are_turns : DF := runP [false, false] 3 false pb_are_turns
noncomputable def pb_bears_out : XS := (xSeq (xDrop (xCall p_ask_quiet (xCons (xVar 0) xNil)))
    (xSeq (xIfS (xNot (xTest (xCall p_are_turns (xCons (xVar 0) (xCons (xVar 1) xNil)))))
    (xRet (xC (.bl false)))
    xNext)
    (xSeq (xSet 3 (xOp2 dSub (xOpL dLen (xCons (xVar 1) xNil)) (xC (.int 1))))
    (xSeq (xSet 4 (xLC (xItE (xVar 1)) (gsTup 2 (gsCons (gSet 5) (gsCons (gSet 6) gsNil))) (xTest (xOp2 dEq (xVar 6) (xOpL dLst xNil))) (xVar 5) [5, 6]))
    (xSeq (xIfS (xTest (xOp2 dEq (xOp2 dIx (xVar 2) (xC (.int 0))) (xC (.str "gone"))))
    (xRet (xAndV (xOp2 dEq (xOp2 dIx (xVar 2) (xC (.int 1))) (xVar 3)) (xOp2 dEq (xVar 4) (xOpL dLst (xCons (xVar 3) xNil)))))
    xNext)
    (xSeq (xIfS (xTest (xOp2 dNe (xVar 4) (xOpL dLst xNil)))
    (xRet (xC (.bl false)))
    xNext)
    (xSeq (xSet 7 (xCall p_moved_pairs (xConsR (xVar 1) xNil)))
    (xSeq (xIfS (xTest (xOp2 dEq (xOp2 dIx (xVar 2) (xC (.int 0))) (xC (.str "on"))))
    (xRet (xOp2 dEq (xVar 7) (xOpL dLst xNil)))
    xNext)
    (xSeq (xAsg (xSl dSlT (xVar 2) (xpSome (xC (.int 1))) xpNone) (gsTup 3 (gsCons (gSet 8) (gsCons (gSet 9) (gsCons (gSet 10) gsNil)))))
    (xSeq (xIfS (xOr (xTest (xOp2 dLt (xVar 8) (xC (.int 0)))) (xOr (xTest (xOp2 dLt (xVar 9) (xC (.int 1)))) (xTest (xOp2 dNe (xOp2 dAdd (xVar 8) (xVar 9)) (xVar 3)))))
    (xRet (xC (.bl false)))
    xNext)
    (xRet (xAndV (xOp2 dEq (xVar 7) (xOpL dLst (xCons (xOpL dTup (xCons (xVar 8) (xCons (xVar 3) xNil))) xNil))) (xOp2 dEq (xCall p_moved (xConsR (xOp2 dIx (xVar 1) (xVar 8)) (xCons (xVar 10) xNil))) (xOp2 dIx (xVar 1) (xVar 3)))))))))))))))
noncomputable def p_bears_out : DF := runP [false, false, false] 11 false pb_bears_out

/-! the plain law -/
theorem rowsAt (f : Nat → D) {m j : Nat} (hj : j < m) : atI ((List.range m).map f) (j : Int) = some (f j) := by
  refine atI_nat ?_
  rw [List.getElem?_map, List.getElem?_range hj]
  rfl
theorem enum_rows (f : Nat → D) (t : Nat) : enumF 0 ((List.range t).map f) = (List.range t).map fun j : Nat => D.tup [.int (j : Int), f j] := by
  refine List.ext_getElem? fun i => ?_
  rw [enumF_get, Nat.zero_add, List.getElem?_map, List.getElem?_map]
  by_cases hi : i < t
  · rw [List.getElem?_range hi]
    rfl
  · rw [List.getElem?_eq_none (by rw [List.length_range]; omega)]
    rfl
theorem range_at {t i a : Nat} (hi : (List.range t)[i]? = some a) : a = i ∧ i < t := by
  have h1 := (List.getElem?_eq_some_iff.mp hi).1
  rw [List.length_range] at h1
  rw [List.getElem?_range h1] at hi
  exact ⟨(Option.some.inj hi).symm, h1⟩
/-- n rows, numbered -/
def rowsN (f : Nat → List (Int × Int)) (n : Nat) : List D := (List.range n).map fun j => cells (f j)
theorem rowsN_len (f : Nat → List (Int × Int)) (n : Nat) : (rowsN f n).length = n := by unfold rowsN; rw [List.length_map, List.length_range]
theorem rowsN_at (f : Nat → List (Int × Int)) {n j : Nat} (h : j < n) : atI (rowsN f n) (j : Int) = some (cells (f j)) := rowsAt (fun j => cells (f j)) h
theorem rowsN_succ (f : Nat → List (Int × Int)) (n : Nat) : rowsN f n ++ [cells (f n)] = rowsN f (n + 1) := by
  unfold rowsN
  rw [List.range_succ (n := n), List.map_append]
  rfl
theorem rowsN_list (rows : List (List (Int × Int))) : rows.map cells = rowsN (fun j => rows.getD j []) rows.length := by
  refine List.ext_getElem? fun i => ?_
  unfold rowsN
  rw [List.getElem?_map, List.getElem?_map]
  by_cases hi : i < rows.length
  · rw [List.getElem?_range hi, List.getElem?_eq_getElem hi]
    show some _ = some (cells (rows.getD i []))
    rw [List.getD_eq_getElem?_getD, List.getElem?_eq_getElem hi]
    rfl
  · rw [List.getElem?_eq_none (by omega), List.getElem?_eq_none (by rw [List.length_range]; omega)]
    rfl
/-- one picture is the other one moved: just where both are laid at nought alike -/
theorem moveL_some {a b : List (Int × Int)} {m : Int × Int} (h : moveL a b = some m) : a ≠ [] ∧ b ≠ [] ∧ a.map (sh m) = b := by
  cases a with
  | nil => exact absurd (show (none : Option (Int × Int)) = some m from h) (by simp)
  | cons p a =>
    cases b with
    | nil => exact absurd (show (none : Option (Int × Int)) = some m from h) (by simp)
    | cons q b =>
      have h : (if (p :: a).map (sh (q.1 - p.1, q.2 - p.2)) = q :: b then some (q.1 - p.1, q.2 - p.2) else none) = some m := h
      by_cases hq : (p :: a).map (sh (q.1 - p.1, q.2 - p.2)) = q :: b
      · rw [if_pos hq] at h
        rw [← Option.some.inj h]
        exact ⟨by simp, by simp, hq⟩
      · rw [if_neg hq] at h
        exact absurd h (by simp)
theorem moveL_of {a b : List (Int × Int)} {m : Int × Int} (ha : a ≠ []) (h : a.map (sh m) = b) : moveL a b = some m := by
  cases a with
  | nil => exact absurd rfl ha
  | cons p a =>
    subst h
    have e : ((sh m p).1 - p.1, (sh m p).2 - p.2) = m := by
      unfold sh
      apply Prod.ext <;> simp only <;> omega
    show (if (p :: a).map (sh ((sh m p).1 - p.1, (sh m p).2 - p.2)) = sh m p :: a.map (sh m) then some ((sh m p).1 - p.1, (sh m p).2 - p.2) else none) = _
    rw [e]
    exact if_pos rfl
theorem laid_eq {a b : List (Int × Int)} (ha : a ≠ []) (hb : b ≠ []) : laid a = laid b ↔ (moveL a b).isSome = true := by
  constructor
  · intro h
    obtain ⟨d, hd⟩ := laid_ex a
    obtain ⟨e, he⟩ := laid_ex b
    have : a.map (sh (d.1 - e.1, d.2 - e.2)) = b := by
      have h2 : (a.map (sh d)).map (sh (-e.1, -e.2)) = b := by
        rw [← hd, h, he, List.map_map]
        have : (sh (-e.1, -e.2)) ∘ sh e = id := funext fun p => sh_inv e p
        rw [this, List.map_id]
      rw [← h2, List.map_map]
      refine List.map_congr_left fun p _ => ?_
      show _ = sh _ (sh d p)
      rw [sh_sh]
      rfl
    rw [moveL_of ha this]
    rfl
  · intro h
    obtain ⟨m, hm⟩ := Option.isSome_iff_exists.mp h
    obtain ⟨_, _, e⟩ := moveL_some hm
    rw [← e, laid_sh]
def turnsF (k : Int) (bs ss : List Int) (f : Nat → List (Int × Int)) (n : Nat) : Bool := (List.range (n - 1)).all fun i => decide (nextP k bs ss (f i) = f (i + 1))
def emptyF (f : Nat → List (Int × Int)) (n : Nat) : List Int := ((List.range n).filter fun i => decide (f i = [])).map fun i : Nat => (i : Int)
def earlyF (f : Nat → List (Int × Int)) (l : Nat) : List (Int × Int) := ((List.range l).filter fun e => decide (laid (f e) = laid (f l))).map fun e : Nat => ((e : Int), (l : Int))
def pairsF (f : Nat → List (Int × Int)) (n : Nat) : List (Int × Int) := (List.range n).flatMap (earlyF f)
theorem pairsF_succ (f : Nat → List (Int × Int)) (n : Nat) : pairsF f (n + 1) = pairsF f n ++ earlyF f n := by
  unfold pairsF
  rw [List.range_succ, List.flatMap_append, List.flatMap_cons, List.flatMap_nil, List.append_nil]
theorem earlyF_len (f : Nat → List (Int × Int)) (l : Nat) : (earlyF f l).length ≤ l := by
  unfold earlyF
  rw [List.length_map]
  refine Nat.le_trans (List.length_filter_le _ _) ?_
  rw [List.length_range]
  exact Nat.le_refl _
theorem pairsF_len (f : Nat → List (Int × Int)) (n : Nat) : (pairsF f n).length ≤ n * n := by
  induction n with
  | zero => exact Nat.le_refl _
  | succ n ih =>
    rw [pairsF_succ, List.length_append]
    have := earlyF_len f n
    have h : (n + 1) * (n + 1) = n * n + n + n + 1 := by rw [Nat.add_mul, Nat.mul_add]; omega
    omega
inductive FV where
  | on | gone (t : Int) | comes (a b : Int) (m : Int × Int)
deriving DecidableEq
def fvD : FV → D
  | .on => .tup [.str "on"]
  | .gone t => .tup [.str "gone", .int t]
  | .comes a b m => .tup [.str "comes", .int a, .int b, .tup [.int m.1, .int m.2]]
def bearsB (k : Int) (bs ss : List Int) (f : Nat → List (Int × Int)) (n : Nat) : FV → Bool
  | .on => turnsF k bs ss f n && decide (emptyF f n = []) && decide (pairsF f n = [])
  | .gone t => turnsF k bs ss f n && decide (t = (n : Int) - 1) && decide (emptyF f n = [(n : Int) - 1])
  | .comes a b m => turnsF k bs ss f n && decide (emptyF f n = []) && decide (0 ≤ a ∧ 1 ≤ b ∧ a + b = (n : Int) - 1) && decide (pairsF f n = [(a, (n : Int) - 1)]) && decide ((f a.toNat).map (sh m) = f (n - 1))
theorem range_rD (n : Nat) : rangeD 0 n = (List.range n).map fun j : Nat => D.int (j : Int) := by
  unfold rangeD
  refine List.map_congr_left fun j _ => ?_
  rw [Int.zero_add]
theorem moved_pairs_is (f : Nat → List (Int × Int)) (n : Nat) (hn : n ≤ 100) (hl : ∀ j, j < n → (f j).length ≤ 1000) : p_moved_pairs [.lst (rowsN f n)] = .ok (cells (pairsF f n)) [] := by
  have hz : (rowsN f n).length ≤ sizeLine := by rw [rowsN_len]; exact szB (by omega)
  have run : ∀ (R : List D) (s3 s4 s5 : Slot), R = rowsN f n → lcRun (gSet 2) xYes (xCall p_at_nought (xConsR (xVar 2) xNil)) [2] R [] [.rd (.lst R), .emp, .emp, s3, s4, s5] = .ok (rowsN (fun j => laid (f j)) n) [.rd (.lst R), .emp, .emp, s3, s4, s5] := by
    rintro R s3 s4 s5 rfl
    have h := lcMap (g := gSet 2) (tt := xYes) (te := xCall p_at_nought (xConsR (xVar 2) xNil)) (vs := [2]) (ρ := [.rd (.lst (rowsN f n)), .emp, .emp, s3, s4, s5]) (e1 := fun j => cells (f j)) (fun j => cells (laid (f j))) id (l := List.range n) (fun j hj => by
      have e := nought_is (f j) (hl j (List.mem_range.mp hj))
      simp! [cells] at e ⊢
      simp! [e, id_eq])
    rw [List.map_id] at h
    exact h
  have run := run (rowsN f n) .emp .emp .emp rfl
  obtain ⟨ρ', e, s4, s5, h5, rfl⟩ := for_range_inv (g := gSet 4) (body := pb_moved_pairs_1) (lo := 0) (n := n)
    (fun i ρ => ∃ s4 s5, notOwn (some s5) = true ∧ ρ = [.rd (.lst (rowsN f n)), .val (.lst (rowsN (fun j => laid (f j)) n)), .emp, .own (cells (pairsF f i)), s4, s5]) (ρ := [.rd (.lst (rowsN f n)), .val (.lst (rowsN (fun j => laid (f j)) n)), .emp, .own (cells (pairsF f 0)), .emp, .emp]) ⟨_, _, rfl, rfl⟩ (fun i ρ hi hρ => by
      obtain ⟨s4, s5, h5, rfl⟩ := hρ
      refine ⟨_, rfl, ?_⟩
      rw [Int.zero_add]
      have a1 := rowsN_at (fun j => laid (f j)) hi
      have run2 : ∀ (R S : List D) (P : D), S = rowsN (fun j => laid (f j)) n → lcRun (gSet 5) (xTest (xOp2 dEq (xOp2 dIx (xVar 1) (xVar 5)) (xOp2 dIx (xVar 1) (xVar 4)))) (xOpL dTup (xCons (xVar 5) (xCons (xVar 4) xNil))) [5] (rangeD 0 i) [] [.rd (.lst R), .val (.lst S), .emp, .own P, .val (.int (i : Int)), s5] = .ok ((earlyF f i).map cellP) [.rd (.lst R), .val (.lst S), .emp, .own P, .val (.int (i : Int)), s5] := by
        rintro R S P rfl
        rw [range_rD]
        have h := lcFilt (g := gSet 5) (tt := xTest (xOp2 dEq (xOp2 dIx (xVar 1) (xVar 5)) (xOp2 dIx (xVar 1) (xVar 4)))) (te := xOpL dTup (xCons (xVar 5) (xCons (xVar 4) xNil))) (vs := [5]) (ρ := [.rd (.lst R), .val (.lst (rowsN (fun j => laid (f j)) n)), .emp, .own P, .val (.int (i : Int)), s5]) (e1 := fun j : Nat => D.int (j : Int)) cellP (fun e => decide (laid (f e) = laid (f i))) (fun e : Nat => ((e : Int), (i : Int))) (l := List.range i) (fun j hj => by
          have hj := List.mem_range.mp hj
          have a2 := rowsN_at (fun j => laid (f j)) (show j < n by omega)
          have q := eq_cells (laid (f j)) (laid (f i))
          simp! [cells] at a1 a2 q ⊢
          by_cases he : laid (f j) = laid (f i)
          · rw [decide_eq_true he] at q ⊢
            rw [if_pos rfl]
            simp! [a1, a2, q, cellP]
          · rw [decide_eq_false he] at q ⊢
            rw [if_neg (by decide)]
            simp! [a1, a2, q, cellP])
        exact h
      have run2 := run2 (rowsN f n) (rowsN (fun j => laid (f j)) n) (cells (pairsF f i)) rfl
      have hz2 : ((pairsF f i).map cellP).length + ((earlyF f i).map cellP).length ≤ sizeLine := by
        rw [List.length_map, List.length_map]
        have h1 := pairsF_len f i
        have h2 := earlyF_len f i
        have h3 : i * i ≤ 100 * 100 := Nat.mul_le_mul (by omega) (by omega)
        exact szB (by omega)
      have hb : inR (i : Int) = true := inR_of (by omega)
      have hzr : (rangeD 0 i).length ≤ sizeLine := by rw [rangeD_len]; exact szB (by omega)
      have hs : (pairsF f i).map cellP ++ (earlyF f i).map cellP = (pairsF f (i + 1)).map cellP := by rw [pairsF_succ, List.map_append]
      unfold pb_moved_pairs_1
      simp! [cells] at run2 ⊢
      simp! [hb, hzr, h5, Int.toNat_natCast, run2, hz2, hs]
      exact ⟨_, .inl rfl, _, _, h5, rfl⟩)
  have h0 : cells (pairsF f 0) = .lst [] := rfl
  have hb : inR (n : Int) = true := inR_of (by omega)
  have hlen : (((rowsN f n).length : Nat) : Int) = (n : Int) := by rw [rowsN_len]
  rw [h0] at e
  unfold p_moved_pairs pb_moved_pairs
  simp! [cells] at run e ⊢
  simp! [hz, run, hlen, hb, Int.toNat_natCast, e]
theorem are_turns_g {k : Int} (hk : Kind k) {bs : List Int} (hq : 0 ∉ bs) (ss : List Int) (f : Nat → List (Int × Int)) (n : Nat) (hn : n ≤ 100) (hl : ∀ j, j + 1 < n → (f j).length ≤ 440) : p_are_turns [ruleD k bs ss, .lst (rowsN f n)] = .ok (.bl (turnsF k bs ss f n)) [] := by
  obtain ⟨ρ', ⟨s2, rfl⟩, hh⟩ := forRun_test (g := gSet 2) (body := pb_are_turns_1) (e := fun j : Nat => D.int (1 + (j : Int))) (p := fun i => decide (nextP k bs ss (f i) = f (i + 1))) (v := .bl false)
    (fun ρ => ∃ s2, ρ = [.val (ruleD k bs ss), .val (.lst (rowsN f n)), s2]) (List.range (n - 1)) [.val (ruleD k bs ss), .val (.lst (rowsN f n)), .emp] ⟨_, rfl⟩ (fun i hi ρ hρ => by
      obtain ⟨s2, rfl⟩ := hρ
      have hi := List.mem_range.mp hi
      refine ⟨_, rfl, ?_⟩
      have a1 := rowsN_at f (show i < n by omega)
      have a2 := rowsN_at f (show i + 1 < n by omega)
      have q1 : (1 : Int) + (i : Int) - 1 = (i : Int) := by omega
      have q2 : (1 : Int) + (i : Int) = ((i + 1 : Nat) : Int) := by omega
      have e1 := next_turn_is hk hq ss (f i) (hl i (by omega))
      have e2 := eq_cells (nextP k bs ss (f i)) (f (i + 1))
      rw [← q2] at a2
      unfold pb_are_turns_1
      simp! [cells, ruleD] at e1 a1 a2 ⊢
      by_cases h : nextP k bs ss (f i) = f (i + 1)
      · rw [decide_eq_true h] at e2
        refine ⟨_, ⟨.val (.int (1 + (i : Int))), rfl⟩, .inl ⟨decide_eq_true h, .inl ?_⟩⟩
        simp! [q1, a1, a2, e1, e2]
      · rw [decide_eq_false h] at e2
        refine ⟨_, ⟨.val (.int (1 + (i : Int))), rfl⟩, .inr ⟨decide_eq_false h, ?_⟩⟩
        simp! [q1, a1, a2, e1, e2])
  have hlen : (((rowsN f n).length : Nat) : Int) = (n : Int) := by rw [rowsN_len]
  have hb : inR (n : Int) = true := inR_of (by omega)
  have hb1 : G.inR (1 : Int) = true := inR_of (by decide)
  have hr : rangeD 1 ((n : Int) - 1).toNat = (List.range (n - 1)).map fun j : Nat => D.int (1 + (j : Int)) := by
    rw [show ((n : Int) - 1).toNat = n - 1 by omega]
    rfl
  unfold p_are_turns pb_are_turns turnsF
  rcases hh with ⟨h, e⟩ | ⟨h, e⟩
  · rw [h]
    simp! [ruleD] at e ⊢
    simp! [hlen, hb, hb1, hr, e]
  · rw [h]
    simp! [ruleD] at e ⊢
    simp! [hlen, hb, hb1, hr, e]
theorem eq_ints (l m : List Int) : eqD (.lst (l.map D.int)) (.lst (m.map D.int)) = some (decide (l = m)) := eqD_enc (α := List Int) (by decide) l m
theorem s_gg : eqD (.str "gone") (.str "gone") = some true := by kernel_rfl
theorem s_og : eqD (.str "on") (.str "gone") = some false := by kernel_rfl
theorem s_cg : eqD (.str "comes") (.str "gone") = some false := by kernel_rfl
theorem s_oo : eqD (.str "on") (.str "on") = some true := by kernel_rfl
theorem s_co : eqD (.str "comes") (.str "on") = some false := by kernel_rfl
theorem cut_comes (a b c d : D) : cutG [a, b, c, d] (some 1) none = [b, c, d] := rfl
theorem bears_out_is {k : Int} (hk : Kind k) {bs : List Int} (hq : 0 ∉ bs) (ss : List Int) (f : Nat → List (Int × Int)) (n : Nat) (h0 : 0 < n) (hn : n ≤ 100) (hl : ∀ j, j < n → (f j).length ≤ 1000) (h4 : ∀ j, j + 1 < n → (f j).length ≤ 440) (v : FV) : p_bears_out [ruleD k bs ss, .lst (rowsN f n), fvD v] = .ok (.bl (bearsB k bs ss f n v)) [] := by
  have e1 := quiet_is k hq ss
  have e2 := are_turns_g hk hq ss f n hn h4
  have e3 := moved_pairs_is f n hn hl
  have hlen : (((rowsN f n).length : Nat) : Int) = (n : Int) := by rw [rowsN_len]
  have hz : (enumF 0 (rowsN f n)).length ≤ sizeLine := by
    unfold rowsN
    rw [enum_rows, List.length_map, List.length_range]
    exact szB (by omega)
  have run : ∀ (R : List D) (T : D), lcRun (gsTup 2 (gsCons (gSet 5) (gsCons (gSet 6) gsNil))) (xTest (xOp2 dEq (xVar 6) (xOpL dLst xNil))) (xVar 5) [5, 6] (enumF 0 (rowsN f n)) [] [.val (ruleD k bs ss), .val (.lst R), .val T, .val (.int ((n : Int) - 1)), .emp, .emp, .emp, .emp, .emp, .emp, .emp] = .ok ((emptyF f n).map D.int) [.val (ruleD k bs ss), .val (.lst R), .val T, .val (.int ((n : Int) - 1)), .emp, .emp, .emp, .emp, .emp, .emp, .emp] := by
    intro R T
    have h := lcFilt (g := gsTup 2 (gsCons (gSet 5) (gsCons (gSet 6) gsNil))) (tt := xTest (xOp2 dEq (xVar 6) (xOpL dLst xNil))) (te := xVar 5) (vs := [5, 6]) (ρ := [.val (ruleD k bs ss), .val (.lst R), .val T, .val (.int ((n : Int) - 1)), .emp, .emp, .emp, .emp, .emp, .emp, .emp]) (e1 := fun j : Nat => D.tup [.int (j : Int), cells (f j)]) D.int (fun i => decide (f i = [])) (fun i : Nat => (i : Int)) (l := List.range n) (fun j hj => by
      have q := eq_cells_nil (f j)
      simp! [cells] at q ⊢
      by_cases he : f j = []
      · rw [decide_eq_true he] at q ⊢
        rw [if_pos rfl]
        simp! [q]
      · rw [decide_eq_false he] at q ⊢
        rw [if_neg (by decide)]
        simp! [q])
    unfold rowsN
    rw [enum_rows]
    exact h
  have run := run (rowsN f n) (fvD v)
  have q1 := eq_ints (emptyF f n) [(n : Int) - 1]
  have q2 := eq_ints (emptyF f n) []
  have q3 := eq_cells (pairsF f n) []
  unfold p_bears_out pb_bears_out
  cases ht : turnsF k bs ss f n with
  | false =>
    rw [ht] at e2
    have hB : bearsB k bs ss f n v = false := by
      cases v <;> (unfold bearsB; rw [ht]; rfl)
    rw [hB]
    simp! [ruleD, fvD] at e1 e2 ⊢
    cases v <;> simp! [e1, e2, fvD]
  | true =>
    rw [ht] at e2
    cases v with
    | gone t =>
      have hB : bearsB k bs ss f n (.gone t) = (decide (t = (n : Int) - 1) && decide (emptyF f n = [(n : Int) - 1])) := by
        unfold bearsB; rw [ht]; rfl
      rw [hB]
      simp! [ruleD, fvD, List.map_cons, List.map_nil] at e1 e2 run q1 ⊢
      simp! [e1, e2, hlen, hz, run, s_gg]
      by_cases h1 : t = (n : Int) - 1
      · rw [decide_eq_true h1]
        simp! [h1, q1, Bool.true_and]
      · rw [decide_eq_false h1]
        simp! [h1, Bool.false_and]
    | on =>
      have hB : bearsB k bs ss f n .on = (decide (emptyF f n = []) && decide (pairsF f n = [])) := by
        unfold bearsB; rw [ht]; rfl
      rw [hB]
      simp! [ruleD, fvD, List.map_nil, cells] at e1 e2 e3 run q2 q3 ⊢
      simp! [e1, e2, hlen, hz, run, s_og, q2]
      by_cases h1 : emptyF f n = []
      · rw [decide_eq_true h1]
        simp! [e3, s_oo, q3, Bool.true_and]
      · rw [decide_eq_false h1]
        simp! [Bool.false_and]
    | comes a b m =>
      have hB : bearsB k bs ss f n (.comes a b m) = (decide (emptyF f n = []) && decide (0 ≤ a ∧ 1 ≤ b ∧ a + b = (n : Int) - 1) && decide (pairsF f n = [(a, (n : Int) - 1)]) && decide ((f a.toNat).map (sh m) = f (n - 1))) := by
        unfold bearsB; rw [ht]; rfl
      rw [hB]
      simp! [ruleD, fvD, List.map_nil, cells] at e1 e2 e3 run q2 q3 ⊢
      simp! [e1, e2, hlen, hz, run, s_cg, s_co, q2]
      by_cases h1 : emptyF f n = []
      · rw [decide_eq_true h1]
        by_cases ha : a < 0
        · have hn1 : ¬ (0 ≤ a ∧ 1 ≤ b ∧ a + b = (n : Int) - 1) := by omega
          rw [decide_eq_false hn1]
          simp! [e3, s_co, cut_comes, ha, Bool.false_and, Bool.and_false]
        · by_cases hb : b < 1
          · have hn1 : ¬ (0 ≤ a ∧ 1 ≤ b ∧ a + b = (n : Int) - 1) := by omega
            rw [decide_eq_false hn1]
            simp! [e3, s_co, cut_comes, ha, hb, Bool.false_and, Bool.and_false]
          · by_cases hc : a + b = (n : Int) - 1
            · have hn1 : (0 ≤ a ∧ 1 ≤ b ∧ a + b = (n : Int) - 1) := by omega
              rw [decide_eq_true hn1]
              have q4 := eq_cells (pairsF f n) [(a, (n : Int) - 1)]
              simp! [List.map_cons, List.map_nil, cellP] at q4
              simp! [e3, s_co, cut_comes, ha, hb, hc, q4]
              by_cases hp : pairsF f n = [(a, (n : Int) - 1)]
              · rw [decide_eq_true hp]
                have a1 := rowsN_at f (show a.toNat < n by omega)
                rw [show ((a.toNat : Nat) : Int) = a by omega] at a1
                have a2 := rowsN_at f (show n - 1 < n by omega)
                rw [show ((n - 1 : Nat) : Int) = (n : Int) - 1 by omega] at a2
                have e5 := moved_is (f a.toNat) m (hl a.toNat (by omega))
                have q5 := eq_cells ((f a.toNat).map (sh m)) (f (n - 1))
                simp! [cells] at a1 a2 e5 q5
                simp! [a1, a2, e5, q5, Bool.true_and]
              · rw [decide_eq_false hp]
                simp! [Bool.false_and, Bool.and_false]
            · have hn1 : ¬ (0 ≤ a ∧ 1 ≤ b ∧ a + b = (n : Int) - 1) := by omega
              rw [decide_eq_false hn1]
              simp! [e3, s_co, cut_comes, ha, hb, hc, Bool.false_and, Bool.and_false]
      · rw [decide_eq_false h1]
        simp! [Bool.false_and]
theorem bears_out_loud (k : Int) {bs : List Int} (hq : 0 ∈ bs) (ss : List Int) (R T : D) : p_bears_out [ruleD k bs ss, R, T] = .exc "Loud" [] := by
  have e1 := loud_is k hq ss
  unfold p_bears_out pb_bears_out
  simp! [ruleD] at e1 ⊢
  simp! [e1]
end G

set_option maxHeartbeats 4000000
namespace G
open PySem PySem.Spec PyProof.Rows L2
local macro_rules | `(tactic| simp! [$ls,*] $[$loc:location]?) => `(tactic| simp only [zaa, zab, zac, zad, zae, zaf, zag, zah, zai, zaj, zak, zal, zam, zan, zao, zap, zaq, zar, zas, zat, zau, zav, zaw, zax, zay, zaz, zaA, zaB, zaC, zaD, zaE, zaF, zaG, zaH, zaI, zaJ, zaK, zaL, zaM, zaN, zaO, zaP, zaQ, zaR, zaS, zaT, zaU, zaV, zaW, zaX, zaY, zaZ, zba, zbb, zbc, zbd, zbe, zbf, zbg, zbh, zbi, zbj, zbk, zbl, zbm, zbn, zbo, zbp, zbq, zbr, zbs, zbt, zbu, zbv, zbw, zbx, zby, zbz, zbA, zbB, zbC, zbD, zbE, zbF, zbG, zbH, zbI, zbJ, zbK, zbL, zbM, zbN, zbO, zbP, zbQ, zbR, zbS, zbT, zbU, zbV, zbW, zbX, zbY, zbZ, zca, zcb, zcc, zcd, zce, zcf, zcg, zch, zci, zcj, zck, zcl, zcm, zcn, zco, zcp, zcq, zcr, zcs, zct, zcu, zcv, zcw, zcx, zcy, zcz, zcA, zcB, zcC, zcD, zcE, zcF, zcG, zcH, zcI, zcJ, zcK, zcL, zcM, zcN, zcO, zcP, zcQ, zcR, zcS, zcT, zcU, zcV, zcW, zcX, zcY, zcZ, zda, zdb, zdc, zdd, zde, zdf, zdg, zdh, zdi, zdj, zdk, zdl, zdm, zdn, zdo, zdp, zdq, zdr, zds, zdt, zdu, zdv, zdw, zdx, zdy, zdz, zdA, zdB, zdC, zdD, zdE, zdF, zdG, zdH, zdI, zdJ, zdK, zdL, zdM, zdN, zdO, zdP, zdQ, zdR, zdS, zdT, zdU, zdV, G.of_f, G.of_t, zdW, zdX, zdY, zdZ, zea, zeb, zec, zed, zee, zef, zeg, zeh, zei, zej, zek, zel, zem, zen, zeo, zep, zeq, zer, zes, zet, zeu, zev, zew, zex, zey, zez, zeA, zeB, zeC, zeD, zeE, zeF, zeG, zeH, zeI, zeJ, zeK, zeL, zeM, zeN, zeO, zeP, zeQ, zeR, zeS, zeT, zeU, zeV, zeW, zeX, zeY, zeZ, zfa, zfb, zfc, G.sz_1, G.sz_2, G.sz_3, G.sz_4, G.sz_0, zfd, zfe, zff, zfg, zfh, zfi, zfj, zfk, zfl, zfm, zfn, zfo, zfp, zfq, zfr, zfs, zft, zfu, zfv, zfw, G.nc_0, G.nc_1, G.nc_2, G.nc_3, G.nc_4, G.nc_5, G.nc_6, G.nc_7, G.nc_8, G.nc_9, zfx, zfy, zfz, zfA, zfB, zfC, zfD, zfE, zfF, zfG, zfH, zfI, zfJ, zfK, zfL, zfM, zfN, zfO, zfP, zfQ, zfR, zfS, zfT, zfU, zfV, zfW, zfX, zfY, zfZ, zga, zgb, zgc, zgd, zge, zgf, zgg, zgh, zgi, zgj, zgk, zgl, zgm, zgn, zgo, zgp, zgq, zgr, zgs, zgt, zgu, zgv, zgw, zgx, zgy, zgz, zgA, zgB, zgC, zgD, zgE, zgF, zgG, zgH, zgI, zgJ, zgK, zgL, zgM, zgN, zgO, zgP, zgQ, zgR, zgS, zgT, zgU, zgV, zgW, zgX, zgY, zgZ, zha, zhb, zhc, zhd, zhe, zhf, zhg, zhh, zhi, zhj, zhk, zhl, zhm, zhn, zho, zhp, zhq, zhr, zhs, zht, zhu, zhv, zhw, zhx, zhy, zhz, zhA, zhB, zhC, zhD, zhE, zhF, zhG, zhH, zhI, zhJ, zhK, List.getElem?_cons_zero, List.getElem?_cons_succ, List.set_cons_zero, List.set_cons_succ, G.atI_0, G.atI_1, G.atI_2, G.atI_3, Option.map_some, Option.bind_some, G.eqD_int, G.eqD_cell, G.eqD_bl, List.length_cons, List.length_nil, List.getD_cons_zero, List.getD_cons_succ, Bool.and_true, Bool.and_self, decide_true, decide_false, Bool.not_true, Bool.not_false, List.append_nil, List.nil_append, List.cons_append, if_true, if_false, Bool.false_eq_true, reduceIte, Int.reduceLT, Int.reduceLE, Int.reduceToNat, Int.reducePow, Int.reduceNeg, Int.reduceAdd, Int.reduceSub, Int.reduceMul, Nat.reduceAdd, Int.reduceEq, List.replicate, Nat.reduceSub, and_self, and_true, true_and, $ls,*] $[$loc]?)

/-! ### what the laws k19 to k26 draw -/
noncomputable def bRulePick : XS := (xSeq (xSet 2 (xDIxV (xDisp [((xC (.int 4)), (xOpL dLst (xCons (xOpL dTup (xCons (xC (.int 1)) xNil)) (xCons (xOpL dTup (xCons (xC (.int 2)) xNil)) (xCons (xOpL dTup (xCons (xC (.int 1)) (xCons (xC (.int 2)) xNil))) xNil))))), ((xC (.int 6)), (xOpL dLst (xCons (xOpL dTup (xCons (xC (.int 2)) xNil)) (xCons (xOpL dTup (xCons (xC (.int 2)) (xCons (xC (.int 3)) xNil))) (xCons (xOpL dTup (xCons (xC (.int 2)) (xCons (xC (.int 6)) xNil))) xNil))))), ((xC (.int 8)), (xOpL dLst (xCons (xOpL dTup (xCons (xC (.int 3)) xNil)) (xCons (xOpL dTup (xCons (xC (.int 2)) xNil)) (xCons (xOpL dTup (xCons (xC (.int 3)) (xCons (xC (.int 6)) xNil))) xNil)))))]) (xVar 1)))
    (xSeq (xSet 3 (xDIxV (xDisp [((xC (.int 4)), (xOpL dLst (xCons (xOpL dTup xNil) (xCons (xOpL dTup (xCons (xC (.int 1)) (xCons (xC (.int 2)) xNil))) (xCons (xOpL dTup (xCons (xC (.int 2)) (xCons (xC (.int 3)) xNil))) xNil))))), ((xC (.int 6)), (xOpL dLst (xCons (xOpL dTup (xCons (xC (.int 3)) (xCons (xC (.int 4)) xNil))) (xCons (xOpL dTup xNil) (xCons (xOpL dTup (xCons (xC (.int 2)) xNil)) xNil))))), ((xC (.int 8)), (xOpL dLst (xCons (xOpL dTup (xCons (xC (.int 2)) (xCons (xC (.int 3)) xNil))) (xCons (xOpL dTup xNil) (xCons (xOpL dTup (xCons (xC (.int 2)) (xCons (xC (.int 3)) xNil))) xNil)))))]) (xVar 1)))
    (xRet (xOpL dTup (xCons (xVar 1) (xCons (xOp2 dIx (xVar 2) (xCallB fDraw 0 (xCons (xC (.int 3)) xNil))) (xCons (xOp2 dIx (xVar 3) (xCallB fDraw 0 (xCons (xC (.int 3)) xNil))) xNil)))))))
noncomputable def bRuleDrawn : XS := (xSeq (xSet 2 (xOpL dTuple (xCons (xLC (xItR2 (xC (.int 1)) (xOp2 dAdd (xVar 1) (xC (.int 1)))) (gSet 4) (xTest (xOp2 dEq (xCallB fDraw 0 (xCons (xC (.int 2)) xNil)) (xC (.int 0)))) (xVar 4) [4]) xNil)))
    (xRet (xOpL dTup (xCons (xVar 1) (xCons (xVar 2) (xCons (xOpL dTuple (xCons (xLC (xItR1 (xOp2 dAdd (xVar 1) (xC (.int 1)))) (gSet 4) (xTest (xOp2 dEq (xCallB fDraw 0 (xCons (xC (.int 2)) xNil)) (xC (.int 0)))) (xVar 4) [4]) xNil)) xNil))))))
noncomputable def fRuleT (t : XT) : DF := runB [] 5 false (xSeq (xSet 1 (xOp2 dIx (xOpL dLst (xCons (xC (.int 4)) (xCons (xC (.int 6)) (xCons (xC (.int 8)) xNil)))) (xCallB fDraw 0 (xCons (xC (.int 3)) xNil))))
    (xSeq (xIfS t bRulePick xNext) bRuleDrawn))
noncomputable def bNumL (c : Int) : XS := (xSeq (xSet 1 (xCallB fDraw 0 (xCons (xC (.int 12)) xNil)))
    (xSeq (xIfS (xTest (xOp2 dLt (xVar 1) (xC (.int 9))))
    (xRet (xOp2 dSub (xCallB fDraw 0 (xCons (xC (.int 9)) xNil)) (xC (.int 4))))
    xNext)
    (xSeq (xIfS (xTest (xOp2 dEq (xVar 1) (xC (.int 9))))
    (xRet (xOp2 dSub (xCallB fDraw 0 (xCons (xOp2 dPow (xC (.int 10)) (xC (.int 9))) xNil)) (xOp2 dMul (xC (.int 5)) (xOp2 dPow (xC (.int 10)) (xC (.int 8))))))
    xNext)
    (xRet (xOp2 dMul (xOp2 dSub (xOp2 dSub (xOp2 dPow (xC (.int 10)) (xC (.int 60))) (xC (.int c))) (xCallB fDraw 0 (xCons (xC (.int 3)) xNil))) (xOp2 dSub (xC (.int 1)) (xOp2 dMul (xC (.int 2)) (xCallB fDraw 0 (xCons (xC (.int 2)) xNil)))))))))
noncomputable def fNumL (c : Int) : DF := runB [] 2 false (bNumL c)
noncomputable def bCells21_1 : XS := (xSeq (xSet 6 (xOpL dTup (xCons (xCallB fDraw 0 (xCons (xVar 4) xNil)) (xCons (xCallB fDraw 0 (xCons (xVar 4) xNil)) xNil))))
    (xIfS (xTest (xCmpO dNotInX (xVar 6) 5))
    (xAppend 5 (xVar 6))
    xNext))
noncomputable def bCells21 : XS := (xSeq (xSet 1 (xCallB fDraw 0 (xCons (xC (.int 4)) xNil)))
    (xSeq (xIfS (xTest (xOp2 dEq (xVar 1) (xC (.int 0))))
    (xRet (xLC (xItR1 (xC (.int 9))) (gSet 2) (xTest (xOp2 dEq (xCallB fDraw 0 (xCons (xC (.int 2)) xNil)) (xC (.int 0)))) (xOpL dTup (xCons (xOp2 dDiv (xVar 2) (xC (.int 3))) (xCons (xOp2 dMod (xVar 2) (xC (.int 3))) xNil))) [2]))
    xNext)
    (xSeq (xIfS (xTest (xOp2 dEq (xVar 1) (xC (.int 1))))
    (xSeq (xSet 3 (xOpL dLst (xCons (xOpL dTup (xCons (xC (.int 0)) (xCons (xC (.int 2)) xNil))) (xCons (xOpL dTup (xCons (xC (.int 1)) (xCons (xC (.int 0)) xNil))) (xCons (xOpL dTup (xCons (xC (.int 1)) (xCons (xC (.int 2)) xNil))) (xCons (xOpL dTup (xCons (xC (.int 2)) (xCons (xC (.int 1)) xNil))) (xCons (xOpL dTup (xCons (xC (.int 2)) (xCons (xC (.int 2)) xNil))) xNil)))))))
    (xRet (xOp2 dIx (xOpL dLst (xCons (xVar 3) (xCons (xOpL dLst (xCons (xOpL dTup (xCons (xC (.int 0)) (xCons (xC (.int 0)) xNil))) (xCons (xOpL dTup (xCons (xC (.int 1)) (xCons (xC (.int 0)) xNil))) (xCons (xOpL dTup (xCons (xC (.int 2)) (xCons (xC (.int 0)) xNil))) xNil)))) (xCons (xOpL dLst (xCons (xOpL dTup (xCons (xC (.int 0)) (xCons (xC (.int 0)) xNil))) (xCons (xOpL dTup (xCons (xC (.int 0)) (xCons (xC (.int 1)) xNil))) (xCons (xOpL dTup (xCons (xC (.int 1)) (xCons (xC (.int 0)) xNil))) (xCons (xOpL dTup (xCons (xC (.int 1)) (xCons (xC (.int 1)) xNil))) xNil))))) (xCons (xOpL dLst xNil) xNil))))) (xCallB fDraw 0 (xCons (xC (.int 4)) xNil)))))
    xNext)
    (xSeq (xSet 4 (xOp2 dAdd (xC (.int 1)) (xCallB fDraw 0 (xCons (xC (.int 5)) xNil))))
    (xSeq (xSetO 5 (xOpL dLst xNil))
    (xSeq (xFor (xItR1 (xCallB fDraw 0 (xCons (xC (.int 11)) xNil))) (gSet 2) bCells21_1)
    (xRet (xOpL dSorted (xConsO 5 xNil)))))))))
noncomputable def fCells21 : DF := runB [] 7 false bCells21
noncomputable def bPic21 (c : Int) : XS := (xSeq (xSet 1 (xCallB fCells21 0 xNil))
    (xSeq (xSet 2 (xCallB (fNumL c) 0 xNil))
    (xSeq (xSet 3 (xCallB (fNumL c) 0 xNil))
    (xRet (xLC (xIt (xVar 1)) (gsTup 2 (gsCons (gSet 4) (gsCons (gSet 5) gsNil))) xYes (xOpL dTup (xCons (xOp2 dAdd (xVar 4) (xVar 2)) (xCons (xOp2 dAdd (xVar 5) (xVar 3)) xNil))) [4, 5])))))
noncomputable def fPic21 (c : Int) : DF := runB [] 6 true (bPic21 c)

theorem numL_ex (c : Int) {n : Nat} {p : D} (h : PenOk n p) (hn : n + 20 < 2 ^ 60) : ∃ (x : Int) (p' : D), fNumL c [p] = .ok (.int x) [p'] ∧ PenOk (n + 3) p' := by
  unfold fNumL bNumL
  obtain ⟨x1, p1, e1, a1, b1, h1⟩ := draw_ex h (by omega) (m := 12) (by decide) (by decide)
  by_cases hx : x1 < 9
  · obtain ⟨x2, p2, e2, _, _, h2⟩ := draw_ex h1 (by omega) (m := 9) (by decide) (by decide)
    simp! [e1, e2, hx]
    exact ⟨_, _, rfl, h2.mono (by omega)⟩
  · by_cases hy : x1 = 9
    · subst hy
      have c1 : CPow 10 9 := cpow10 ⟨by decide, by decide⟩
      have c2 : CPow 10 8 := cpow10 ⟨by decide, by decide⟩
      have m1 : CMulA 5 100000000 := CMulA.l _ ⟨by decide, by decide⟩
      obtain ⟨x2, p2, e2, _, _, h2⟩ := draw_ex h1 (by omega) (m := 1000000000) (by decide) (by decide)
      simp! [e1, e2, c1, c2, m1]
      exact ⟨_, _, rfl, h2.mono (by omega)⟩
    · have c2 : CPow 10 60 := cpow10 ⟨by decide, by decide⟩
      obtain ⟨x2, p2, e2, _, _, h2⟩ := draw_ex h1 (by omega) (m := 3) (by decide) (by decide)
      obtain ⟨x3, p3, e3, a3, b3, h3⟩ := draw_ex h2 (by omega) (m := 2) (by decide) (by decide)
      have m1 : CMulA 2 x3 := CMulA.l _ ⟨by decide, by decide⟩
      have m2 : ∀ z : Int, CMulA z (1 - 2 * x3) := fun z => CMulA.r _ ⟨by omega, by omega⟩
      simp! [e1, e2, e3, hx, hy, c2, m1, m2]
      exact ⟨_, _, rfl, h3.mono (by omega)⟩
/-- a quiet rule -/
def RuleOk (k : Int) (bs ss : List Int) : Prop := Kind k ∧ (bs.Pairwise (· < ·) ∧ ∀ b ∈ bs, 1 ≤ b ∧ b ≤ k) ∧ ss.Pairwise (· < ·) ∧ ∀ s ∈ ss, 0 ≤ s ∧ s ≤ k
theorem RuleOk.quiet {k : Int} {bs ss : List Int} (h : RuleOk k bs ss) : 0 ∉ bs := fun z => by
  have := (h.2.1.2 0 z).1
  omega
def intsL (lo : Int) (m : Nat) : List Int := (List.range m).map fun j : Nat => lo + (j : Int)
theorem intsL_at {lo : Int} {m i : Nat} {d : D} (h : (rangeD lo m)[i]? = some d) : i < m ∧ d = .int (lo + (i : Int)) := rangeD_get h
theorem intsL_pw (lo : Int) (m : Nat) : (intsL lo m).Pairwise (· < ·) := by
  unfold intsL
  rw [List.pairwise_map]
  exact List.pairwise_lt_range.imp fun {a b} h => by omega
theorem intsL_mem {lo : Int} {m : Nat} {x : Int} (h : x ∈ intsL lo m) : lo ≤ x ∧ x < lo + m := by
  unfold intsL at h
  obtain ⟨j, hj, rfl⟩ := List.mem_map.mp h
  have := List.mem_range.mp hj
  omega
theorem intsL_take {lo : Int} {m i : Nat} (h : i < m) : (intsL lo m).take (i + 1) = (intsL lo m).take i ++ [lo + (i : Int)] := by
  refine take_snoc ?_
  unfold intsL
  rw [List.getElem?_map, List.getElem?_range h]
  rfl
theorem drawL_ex {n : Nat} {p : D} (hp : PenOk n p) (hn : n + 50 < 2 ^ 60) (lo : Int) (m : Nat) (hm : m ≤ 20) (M : Int) (hM : 0 < M ∧ M < 2 ^ 100) (S1 S2 S3 : Slot) : ∃ (as : List Int) (q : D), lcRun (gSet 4) (xTest (xOp2 dEq (xCallB fDraw 0 (xCons (xC (.int M)) xNil)) (xC (.int 0)))) (xVar 4) [4] (rangeD lo m) [] [.own p, S1, S2, S3, .emp] = .ok (as.map D.int) [.own q, S1, S2, S3, .emp] ∧ as.Sublist (intsL lo m) ∧ PenOk (n + m) q := by
  obtain ⟨acc, ρ', run, q, as, rfl, rfl, hs, hq⟩ := lcRun_inv (g := gSet 4) (tt := (xTest (xOp2 dEq (xCallB fDraw 0 (xCons (xC (.int M)) xNil)) (xC (.int 0))))) (te := (xVar 4)) (vs := [4]) (fun i acc ρ => ∃ (q : D) (as : List Int), ρ = [.own q, S1, S2, S3, .emp] ∧ acc = as.map D.int ∧ as.Sublist ((intsL lo m).take i) ∧ PenOk (n + i) q)
    (rangeD lo m) 0 [] [.own p, S1, S2, S3, .emp] ⟨p, [], rfl, rfl, List.nil_sublist _, hp⟩ (fun i d acc ρ hd hρ => by
      obtain ⟨hi, rfl⟩ := rangeD_get hd
      obtain ⟨q, as, rfl, rfl, hs, hq⟩ := hρ
      obtain ⟨y, q', e, _, _, hq'⟩ := draw_ex hq (by omega) (m := M) hM.1 (by omega)
      rw [Nat.zero_add] at hs
      have ht : (intsL lo m).take (0 + i + 1) = (intsL lo m).take i ++ [lo + (i : Int)] := by rw [Nat.zero_add]; exact intsL_take hi
      by_cases hy : y = 0
      · refine .inl ⟨.int (lo + (i : Int)), [.own q', S1, S2, S3, .emp], ?_, q', as ++ [lo + (i : Int)], rfl, by rw [List.map_append]; rfl, ?_, hq'⟩
        · simp! [e, hy]
        · rw [ht]; exact hs.append (List.Sublist.refl _)
      · refine .inr ⟨[.own q', S1, S2, S3, .emp], ?_, q', as, rfl, rfl, ?_, hq'⟩
        · simp! [e, hy]
        · rw [ht]; exact hs.trans (List.sublist_append_left _ _))
  rw [rangeD_len, Nat.zero_add] at hq hs
  rw [List.take_of_length_le (by unfold intsL; rw [List.length_map, List.length_range]; exact Nat.le_refl _)] at hs
  exact ⟨as, q, run, hs, hq⟩
theorem kind_ix {n : Nat} {p : D} (hp : PenOk n p) (hn : n + 2 < 2 ^ 60) : ∃ (m k : Int) (q : D), fDraw [p, .int 3] = .ok (.int m) [q] ∧ atI [D.int 4, .int 6, .int 8] m = some (.int k) ∧ Kind k ∧ PenOk (n + 1) q := by
  obtain ⟨m, p1, e1, a1, b1, h1⟩ := draw_ex hp (by omega) (m := 3) (by decide) (by decide)
  rcases (show m = 0 ∨ m = 1 ∨ m = 2 by omega) with rfl | rfl | rfl
  · exact ⟨0, 4, p1, e1, atI_0 _ _, by decide, h1⟩
  · exact ⟨1, 6, p1, e1, atI_1 _ _ _, by decide, h1⟩
  · exact ⟨2, 8, p1, e1, atI_2 _ _ _ _, by decide, h1⟩
theorem ruleT_ex {t : XT} {n c : Nat} {p : D} (hp : PenOk n p) (hn : n + c + 100 < 2 ^ 60) (ht : ∀ (q : D) (k : Int), PenOk (n + 1) q → ∃ b q', t [.own q, .val (.int k), .emp, .emp, .emp] = .ok b [.own q', .val (.int k), .emp, .emp, .emp] ∧ PenOk (n + 1 + c) q') : ∃ (k : Int) (bs ss : List Int) (p' : D), fRuleT t [p] = .ok (ruleD k bs ss) [p'] ∧ RuleOk k bs ss ∧ PenOk (n + c + 30) p' := by
  unfold fRuleT
  obtain ⟨m, k, p1, e1, ek, hk, h1⟩ := kind_ix hp (by omega)
  obtain ⟨b, p2, e2, h2⟩ := ht p1 k h1
  cases b with
  | true =>
    have dix : ∀ (es : List (Key × D)) (j : Int), dIxD (.dicK false es) (.int j) = lk es (.inl j) := fun _ _ => rfl
    obtain ⟨r, p4, e4, a4, b4, h4⟩ := draw_ex h2 (by omega) (m := 3) (by decide) (by decide)
    obtain ⟨v, p5, e5, a5, b5, h5⟩ := draw_ex h4 (by omega) (m := 3) (by decide) (by decide)
    have three : ∀ (A B C : List Int) (r : Int), 0 ≤ r → r < 3 → ∃ T : List Int, atI [D.tup (A.map D.int), .tup (B.map D.int), .tup (C.map D.int)] r = some (.tup (T.map D.int)) ∧ (T = A ∨ T = B ∨ T = C) := fun A B C r h0 h1 => by
      rcases (show r = 0 ∨ r = 1 ∨ r = 2 by omega) with rfl | rfl | rfl
      · exact ⟨A, atI_0 _ _, .inl rfl⟩
      · exact ⟨B, atI_1 _ _ _, .inr (.inl rfl)⟩
      · exact ⟨C, atI_2 _ _ _ _, .inr (.inr rfl)⟩
    rcases hk with rfl | rfl | rfl
    · obtain ⟨T, eT, lT⟩ := three [1] [2] [1, 2] r a4 b4
      obtain ⟨S, eS, lS⟩ := three [] [1, 2] [2, 3] v a5 b5
      refine ⟨4, T, S, p5, ?_, ⟨by decide, ?_, ?_⟩, h5.mono (by omega)⟩
      · simp! [List.map_cons, List.map_nil] at eT eS
        unfold bRulePick
        simp! [e1, ek, e2, zhh, dix, zhi, zhj, zhk, e4, eT, e5, eS, ruleD]
      · rcases lT with rfl | rfl | rfl <;> decide
      · rcases lS with rfl | rfl | rfl <;> decide
    · obtain ⟨T, eT, lT⟩ := three [2] [2, 3] [2, 6] r a4 b4
      obtain ⟨S, eS, lS⟩ := three [3, 4] [] [2] v a5 b5
      refine ⟨6, T, S, p5, ?_, ⟨by decide, ?_, ?_⟩, h5.mono (by omega)⟩
      · simp! [List.map_cons, List.map_nil] at eT eS
        unfold bRulePick
        simp! [e1, ek, e2, zhh, dix, zhi, zhj, zhk, e4, eT, e5, eS, ruleD]
      · rcases lT with rfl | rfl | rfl <;> decide
      · rcases lS with rfl | rfl | rfl <;> decide
    · obtain ⟨T, eT, lT⟩ := three [3] [2] [3, 6] r a4 b4
      obtain ⟨S, eS, lS⟩ := three [2, 3] [] [2, 3] v a5 b5
      refine ⟨8, T, S, p5, ?_, ⟨by decide, ?_, ?_⟩, h5.mono (by omega)⟩
      · simp! [List.map_cons, List.map_nil] at eT eS
        unfold bRulePick
        simp! [e1, ek, e2, zhh, dix, zhi, zhj, zhk, e4, eT, e5, eS, ruleD]
      · rcases lT with rfl | rfl | rfl <;> decide
      · rcases lS with rfl | rfl | rfl <;> decide
  | false =>
    have hk9 : 0 ≤ k ∧ k + 1 ≤ 9 := by rcases hk with rfl | rfl | rfl <;> omega
    have hbk : inR (k + 1) = true := inR_of (by omega)
    have hz1 : (rangeD 1 (k + 1 - 1).toNat).length ≤ sizeLine := by rw [rangeD_len]; exact szn (by omega)
    have hz2 : (rangeD 0 (k + 1).toNat).length ≤ sizeLine := by rw [rangeD_len]; exact szn (by omega)
    obtain ⟨bs, p4, r1, s1, h4⟩ := drawL_ex h2 (by omega) 1 (k + 1 - 1).toNat (by omega) 2 ⟨by decide, by decide⟩ (.val (.int k)) .emp .emp
    obtain ⟨ss, p5, r2, s2, h5⟩ := drawL_ex h4 (by omega) 0 (k + 1).toNat (by omega) 2 ⟨by decide, by decide⟩ (.val (.int k)) (.val (.tup (bs.map D.int))) .emp
    refine ⟨k, bs, ss, p5, ?_, ⟨hk, ⟨(intsL_pw _ _).sublist s1, fun b hb => ?_⟩, (intsL_pw _ _).sublist s2, fun s hs => ?_⟩, h5.mono (by omega)⟩
    · unfold bRuleDrawn
      simp! [e1, ek, e2, hbk, hz1, hz2, r1, r2, ruleD]
    · have := intsL_mem (s1.subset hb)
      omega
    · have := intsL_mem (s2.subset hs)
      omega
theorem dLst_5 (a b c d e : D) : dLst [a, b, c, d, e] = some (.lst [a, b, c, d, e]) := dLst_ap (szn (show 5 ≤ 1000 by decide))
theorem pic_cells {l : List (Int × Int)} (h : sortE l = l ∧ l.Nodup) : Pic l := pic_sort h.2 h.1
def L9 (m : Nat) : List (Int × Int) := (List.range m).map fun j : Nat => ((j : Int) / 3, (j : Int) % 3)
theorem L9_pic (m : Nat) : Pic (L9 m) := by
  unfold Pic L9
  rw [List.pairwise_map]
  exact List.pairwise_lt_range.imp fun {a b} h => by
    unfold Lt2
    show (a : Int) / 3 < (b : Int) / 3 ∨ (a : Int) / 3 = (b : Int) / 3 ∧ (a : Int) % 3 < (b : Int) % 3
    omega
theorem Pic.shm {l : List (Int × Int)} (h : Pic l) (d : Int × Int) : Pic (l.map (sh d)) := by
  unfold Pic
  rw [List.pairwise_map]
  exact h.imp fun {p q} z => by
    unfold Lt2 sh at *
    omega
theorem cells21_ex {n : Nat} {p : D} (hp : PenOk n p) (hn : n + 100 < 2 ^ 60) : ∃ (cs : List (Int × Int)) (p' : D), fCells21 [p] = .ok (cells cs) [p'] ∧ Pic cs ∧ cs.length ≤ 10 ∧ PenOk (n + 40) p' := by
  unfold fCells21 bCells21
  obtain ⟨w, p1, e1, a1, b1, h1⟩ := draw_ex hp (by omega) (m := 4) (by decide) (by decide)
  by_cases w0 : w = 0
  · subst w0
    obtain ⟨acc, ρ', run, q, as, rfl, rfl, hs, hq⟩ := lcRun_inv (g := gSet 2) (tt := (xTest (xOp2 dEq (xCallB fDraw 0 (xCons (xC (.int 2)) xNil)) (xC (.int 0))))) (te := (xOpL dTup (xCons (xOp2 dDiv (xVar 2) (xC (.int 3))) (xCons (xOp2 dMod (xVar 2) (xC (.int 3))) xNil)))) (vs := [2]) (fun i acc ρ => ∃ (q : D) (as : List (Int × Int)), ρ = [.own q, .val (.int 0), .emp, .emp, .emp, .emp, .emp] ∧ acc = as.map cellP ∧ as.Sublist (L9 i) ∧ PenOk (n + 1 + i) q)
      (rangeD 0 9) 0 [] [.own p1, .val (.int 0), .emp, .emp, .emp, .emp, .emp] ⟨p1, [], rfl, rfl, List.nil_sublist _, h1⟩ (fun i d acc ρ hd hρ => by
        obtain ⟨hi, rfl⟩ := rangeD_get hd
        obtain ⟨q, as, rfl, rfl, hs, hq⟩ := hρ
        obtain ⟨y, q', e, _, _, hq'⟩ := draw_ex hq (by omega) (m := 2) (by decide) (by decide)
        have c1 : CDivW (0 + (i : Int)) 3 := CDivW.s _ ⟨by decide, by decide⟩
        have ht : L9 (0 + i + 1) = L9 (0 + i) ++ [((i : Int) / 3, (i : Int) % 3)] := by
          rw [Nat.zero_add]
          unfold L9
          rw [List.range_succ, List.map_append]
          rfl
        by_cases hy : y = 0
        · refine .inl ⟨cellP ((0 + (i : Int)) / 3, (0 + (i : Int)) % 3), [.own q', .val (.int 0), .emp, .emp, .emp, .emp, .emp], ?_, q', as ++ [((i : Int) / 3, (i : Int) % 3)], rfl, by rw [List.map_append, Int.zero_add]; rfl, ?_, hq'⟩
          · simp! [e, hy, c1, cellP]
          · rw [ht]; exact hs.append (List.Sublist.refl _)
        · refine .inr ⟨[.own q', .val (.int 0), .emp, .emp, .emp, .emp, .emp], ?_, q', as, rfl, rfl, ?_, hq'⟩
          · simp! [e, hy]
          · rw [ht]; exact hs.trans (List.sublist_append_left _ _))
    rw [rangeD_len, Nat.zero_add] at hq hs
    have hz : (rangeD 0 9).length ≤ sizeLine := by rw [rangeD_len]; exact szn (by decide)
    refine ⟨as, q, ?_, (L9_pic 9).sub hs, ?_, hq.mono (by omega)⟩
    · simp! [e1, hz, run, cells]
    · have := hs.length_le
      unfold L9 at this
      rw [List.length_map, List.length_range] at this
      omega
  · by_cases w1 : w = 1
    · subst w1
      obtain ⟨r, p2, e2, a2, b2, h2⟩ := draw_ex h1 (by omega) (m := 4) (by decide) (by decide)
      obtain ⟨cs, ec, hc, hl⟩ : ∃ cs : List (Int × Int), atI [D.lst [.tup [.int 0, .int 2], .tup [.int 1, .int 0], .tup [.int 1, .int 2], .tup [.int 2, .int 1], .tup [.int 2, .int 2]], .lst [.tup [.int 0, .int 0], .tup [.int 1, .int 0], .tup [.int 2, .int 0]], .lst [.tup [.int 0, .int 0], .tup [.int 0, .int 1], .tup [.int 1, .int 0], .tup [.int 1, .int 1]], .lst []] r = some (cells cs) ∧ Pic cs ∧ cs.length ≤ 10 := by
        rcases (show r = 0 ∨ r = 1 ∨ r = 2 ∨ r = 3 by omega) with rfl | rfl | rfl | rfl
        · exact ⟨[(0, 2), (1, 0), (1, 2), (2, 1), (2, 2)], atI_0 _ _, pic_cells (by decide), by decide⟩
        · exact ⟨[(0, 0), (1, 0), (2, 0)], atI_1 _ _ _, pic_cells (by decide), by decide⟩
        · exact ⟨[(0, 0), (0, 1), (1, 0), (1, 1)], atI_2 _ _ _ _, pic_cells (by decide), by decide⟩
        · exact ⟨[], atI_3 _ _ _ _ _, pic_cells (by decide), by decide⟩
      refine ⟨cs, p2, ?_, hc, hl, h2.mono (by omega)⟩
      simp! [e1, e2, dLst_5, ec, cells] at ec ⊢
    · obtain ⟨s, p2, e2, a2, b2, h2⟩ := draw_ex h1 (by omega) (m := 5) (by decide) (by decide)
      obtain ⟨m, p3, e3, a3, b3, h3⟩ := draw_ex h2 (by omega) (m := 11) (by decide) (by decide)
      obtain ⟨ρ', e, q, as, s2, s6, rfl, hd, hl, hq⟩ := for_range_inv (g := gSet 2) (body := bCells21_1) (lo := 0) (n := m.toNat)
        (fun i ρ => ∃ (q : D) (as : List (Int × Int)) (s2 s6 : Slot), ρ = [.own q, .val (.int w), s2, .emp, .val (.int (1 + s)), .own (cells as), s6] ∧ as.Nodup ∧ as.length ≤ i ∧ PenOk (n + 3 + 2 * i) q) (ρ := [.own p3, .val (.int w), .emp, .emp, .val (.int (1 + s)), .own (cells []), .emp]) ⟨p3, [], .emp, .emp, rfl, List.nodup_nil, Nat.le_refl _, h3⟩ (fun i ρ hi hρ => by
          obtain ⟨q, as, s2, s6, rfl, hd, hl, hq⟩ := hρ
          refine ⟨_, rfl, ?_⟩
          obtain ⟨x, q1, f1, _, _, g1⟩ := draw_ex hq (by omega) (m := 1 + s) (by omega) (by omega)
          obtain ⟨y, q2, f2, _, _, g2⟩ := draw_ex g1 (by omega) (m := 1 + s) (by omega) (by omega)
          have hz : (as.map cellP).length < sizeLine := szl (by omega)
          unfold bCells21_1
          by_cases hm : (x, y) ∈ as
          · refine ⟨[.own q2, .val (.int w), .val (.int (0 + (i : Int))), .emp, .val (.int (1 + s)), .own (cells as), .val (.tup [.int x, .int y])], .inl ?_, q2, as, _, _, rfl, hd, by omega, g2.mono (by omega)⟩
            simp! [cells, f1, f2, in_cells, hm]
          · refine ⟨[.own q2, .val (.int w), .val (.int (0 + (i : Int))), .emp, .val (.int (1 + s)), .own (cells (as ++ [(x, y)])), .val (.tup [.int x, .int y])], .inl ?_, q2, as ++ [(x, y)], _, _, rfl, ?_, ?_, g2.mono (by omega)⟩
            · simp! [cells, f1, f2, in_cells, hm, hz, List.map_append, List.map_cons, List.map_nil, cellP]
            · exact List.nodup_append.mpr ⟨hd, by simp, fun a ha b hb => by
                rw [List.mem_singleton] at hb
                subst hb
                exact fun z => hm (z ▸ ha)⟩
            · rw [List.length_append, List.length_singleton]; omega)
      have hb : inR m = true := inR_of (by omega)
      refine ⟨sortE as, q, ?_, pic_of hd, by rw [sortE_length]; omega, hq.mono (by omega)⟩
      have h0 : cells [] = .lst [] := rfl
      rw [h0] at e
      simp! [cells] at e ⊢
      simp! [e1, w0, w1, e2, e3, hb, e, sorted_cells]
theorem pic21_ex (c : Int) {n : Nat} {p : D} (hp : PenOk n p) (hn : n + 200 < 2 ^ 60) : ∃ (cs : List (Int × Int)) (p' : D), fPic21 c [p] = .ok (cells cs) [p'] ∧ Pic cs ∧ cs.length ≤ 10 ∧ PenOk (n + 50) p' := by
  unfold fPic21 bPic21
  obtain ⟨cs, p1, e1, hc, hl, h1⟩ := cells21_ex hp (by omega)
  obtain ⟨x, p2, e2, h2⟩ := numL_ex c h1 (by omega)
  obtain ⟨y, p3, e3, h3⟩ := numL_ex c h2 (by omega)
  have run : ∀ C : List D, C = cs.map cellP → lcRun (gsTup 2 (gsCons (gSet 4) (gsCons (gSet 5) gsNil))) xYes (xOpL dTup (xCons (xOp2 dAdd (xVar 4) (xVar 2)) (xCons (xOp2 dAdd (xVar 5) (xVar 3)) xNil))) [4, 5] (cs.map cellP) [] [.own p3, .val (.lst C), .val (.int x), .val (.int y), .emp, .emp] = .ok ((cs.map (sh (x, y))).map cellP) [.own p3, .val (.lst C), .val (.int x), .val (.int y), .emp, .emp] := by
    rintro _ rfl
    rw [lcMap cellP (sh (x, y))]
    intro q _
    obtain ⟨a, b⟩ := q
    simp! [cellP, sh]
  have run := run (cs.map cellP) rfl
  have hz : (cs.map cellP).length ≤ sizeLine := sz (by omega)
  refine ⟨cs.map (sh (x, y)), p3, ?_, hc.shm _, by rw [List.length_map]; exact hl, h3.mono (by omega)⟩
  simp! [cells] at e1 run ⊢
  simp! [e1, e2, e3, hz, run]
end G

set_option maxHeartbeats 4000000
namespace G
open PySem PySem.Spec PyProof.Rows L2
local macro_rules | `(tactic| simp! [$ls,*] $[$loc:location]?) => `(tactic| simp only [zaa, zab, zac, zad, zae, zaf, zag, zah, zai, zaj, zak, zal, zam, zan, zao, zap, zaq, zar, zas, zat, zau, zav, zaw, zax, zay, zaz, zaA, zaB, zaC, zaD, zaE, zaF, zaG, zaH, zaI, zaJ, zaK, zaL, zaM, zaN, zaO, zaP, zaQ, zaR, zaS, zaT, zaU, zaV, zaW, zaX, zaY, zaZ, zba, zbb, zbc, zbd, zbe, zbf, zbg, zbh, zbi, zbj, zbk, zbl, zbm, zbn, zbo, zbp, zbq, zbr, zbs, zbt, zbu, zbv, zbw, zbx, zby, zbz, zbA, zbB, zbC, zbD, zbE, zbF, zbG, zbH, zbI, zbJ, zbK, zbL, zbM, zbN, zbO, zbP, zbQ, zbR, zbS, zbT, zbU, zbV, zbW, zbX, zbY, zbZ, zca, zcb, zcc, zcd, zce, zcf, zcg, zch, zci, zcj, zck, zcl, zcm, zcn, zco, zcp, zcq, zcr, zcs, zct, zcu, zcv, zcw, zcx, zcy, zcz, zcA, zcB, zcC, zcD, zcE, zcF, zcG, zcH, zcI, zcJ, zcK, zcL, zcM, zcN, zcO, zcP, zcQ, zcR, zcS, zcT, zcU, zcV, zcW, zcX, zcY, zcZ, zda, zdb, zdc, zdd, zde, zdf, zdg, zdh, zdi, zdj, zdk, zdl, zdm, zdn, zdo, zdp, zdq, zdr, zds, zdt, zdu, zdv, zdw, zdx, zdy, zdz, zdA, zdB, zdC, zdD, zdE, zdF, zdG, zdH, zdI, zdJ, zdK, zdL, zdM, zdN, zdO, zdP, zdQ, zdR, zdS, zdT, zdU, zdV, G.of_f, G.of_t, zdW, zdX, zdY, zdZ, zea, zeb, zec, zed, zee, zef, zeg, zeh, zei, zej, zek, zel, zem, zen, zeo, zep, zeq, zer, zes, zet, zeu, zev, zew, zex, zey, zez, zeA, zeB, zeC, zeD, zeE, zeF, zeG, zeH, zeI, zeJ, zeK, zeL, zeM, zeN, zeO, zeP, zeQ, zeR, zeS, zeT, zeU, zeV, zeW, zeX, zeY, zeZ, zfa, zfb, zfc, G.sz_1, G.sz_2, G.sz_3, G.sz_4, G.sz_0, zfd, zfe, zff, zfg, zfh, zfi, zfj, zfk, zfl, zfm, zfn, zfo, zfp, zfq, zfr, zfs, zft, zfu, zfv, zfw, G.nc_0, G.nc_1, G.nc_2, G.nc_3, G.nc_4, G.nc_5, G.nc_6, G.nc_7, G.nc_8, G.nc_9, zfx, zfy, zfz, zfA, zfB, zfC, zfD, zfE, zfF, zfG, zfH, zfI, zfJ, zfK, zfL, zfM, zfN, zfO, zfP, zfQ, zfR, zfS, zfT, zfU, zfV, zfW, zfX, zfY, zfZ, zga, zgb, zgc, zgd, zge, zgf, zgg, zgh, zgi, zgj, zgk, zgl, zgm, zgn, zgo, zgp, zgq, zgr, zgs, zgt, zgu, zgv, zgw, zgx, zgy, zgz, zgA, zgB, zgC, zgD, zgE, zgF, zgG, zgH, zgI, zgJ, zgK, zgL, zgM, zgN, zgO, zgP, zgQ, zgR, zgS, zgT, zgU, zgV, zgW, zgX, zgY, zgZ, zha, zhb, zhc, zhd, zhe, zhf, zhg, zhh, zhi, zhj, zhk, zhl, zhm, zhn, zho, zhp, zhq, zhr, zhs, zht, zhu, zhv, zhw, zhx, zhy, zhz, zhA, zhB, zhC, zhD, zhE, zhF, zhG, zhH, zhI, zhJ, zhK, List.getElem?_cons_zero, List.getElem?_cons_succ, List.set_cons_zero, List.set_cons_succ, G.atI_0, G.atI_1, G.atI_2, G.atI_3, Option.map_some, Option.bind_some, G.eqD_int, G.eqD_cell, G.eqD_bl, List.length_cons, List.length_nil, List.getD_cons_zero, List.getD_cons_succ, Bool.and_true, Bool.and_self, decide_true, decide_false, Bool.not_true, Bool.not_false, List.append_nil, List.nil_append, List.cons_append, if_true, if_false, Bool.false_eq_true, reduceIte, Int.reduceLT, Int.reduceLE, Int.reduceToNat, Int.reducePow, Int.reduceNeg, Int.reduceAdd, Int.reduceSub, Int.reduceMul, Nat.reduceAdd, Int.reduceEq, List.replicate, Nat.reduceSub, and_self, and_true, true_and, $ls,*] $[$loc]?)

/-! ### the fate that turns show -/
theorem pw_len : ∀ (l : List Int) (lo : Int) (n : Nat), l.Pairwise (· < ·) → (∀ x ∈ l, lo ≤ x ∧ x < lo + n) → l.length ≤ n
  | [], _, _, _, _ => Nat.zero_le _
  | a :: l, lo, n, h, hb => by
    have ha := hb a (List.mem_cons_self ..)
    have h2 := List.pairwise_cons.mp h
    obtain ⟨m, rfl⟩ : ∃ m, n = m + 1 := ⟨n - 1, by omega⟩
    have := pw_len l (lo + 1) m h2.2 fun x hx => by
      have h3 := h2.1 x hx
      have h4 := hb x (List.mem_cons_of_mem _ hx)
      omega
    rw [List.length_cons]
    omega
theorem RuleOk.len {k : Int} {bs ss : List Int} (h : RuleOk k bs ss) : bs.length ≤ 8 ∧ ss.length ≤ 9 := by
  obtain ⟨hk, ⟨h1, h2⟩, h3, h4⟩ := h
  have k8 : k ≤ 8 := by rcases hk with rfl | rfl | rfl <;> decide
  exact ⟨pw_len bs 1 8 h1 fun x hx => by have := h2 x hx; omega, pw_len ss 0 9 h3 fun x hx => by have := h4 x hx; omega⟩
theorem first_find (r : Nat → Option D) (n : Nat) : first r 0 n = ((List.range n).find? fun e => (r e).isSome).bind r := by
  rw [List.range_eq_range']
  suffices ∀ n i, first r i n = ((List.range' i n).find? fun e => (r e).isSome).bind r from this n 0
  intro n
  induction n with
  | zero => intro i; rfl
  | succ n ih =>
    intro i
    show (r i).or (first r (i + 1) n) = _
    rw [List.range'_succ, List.find?_cons, ih]
    cases h : r i with
    | none => rfl
    | some v => exact h.symm
def shownV (f : Nat → List (Int × Int)) (t : Nat) : FV := if f t = [] then .gone (t : Int) else match (List.range t).find? fun e => (moveL (f e) (f t)).isSome with
  | none => .on
  | some e => .comes (e : Int) ((t : Int) - (e : Int)) ((moveL (f e) (f t)).getD (0, 0))
/-- turn j is not without cells and no earlier one moved -/
def Quiet (f : Nat → List (Int × Int)) (j : Nat) : Prop := f j ≠ [] ∧ ∀ e, e < j → moveL (f e) (f j) = none
theorem shownV_on {f : Nat → List (Int × Int)} {t : Nat} : shownV f t = .on ↔ Quiet f t := by
  unfold shownV Quiet
  by_cases h : f t = []
  · rw [if_pos h]
    exact ⟨fun z => (nomatch z), fun z => absurd h z.1⟩
  · rw [if_neg h]
    cases hf : (List.range t).find? fun e => (moveL (f e) (f t)).isSome with
    | none =>
      refine ⟨fun _ => ⟨h, fun e he => ?_⟩, fun _ => rfl⟩
      have := List.find?_eq_none.mp hf e (List.mem_range.mpr he)
      cases hm : moveL (f e) (f t) with
      | none => rfl
      | some m => rw [hm] at this; exact absurd rfl this
    | some e =>
      refine ⟨fun z => (nomatch z), fun z => ?_⟩
      have h1 := List.find?_some hf
      have h2 := List.mem_range.mp (List.mem_of_find?_eq_some hf)
      rw [z.2 e h2] at h1
      cases h1
theorem turnsF_true {k : Int} {bs ss : List Int} {f : Nat → List (Int × Int)} {n : Nat} (h : ∀ j, j + 1 < n → nextP k bs ss (f j) = f (j + 1)) : turnsF k bs ss f n = true := by
  unfold turnsF
  rw [List.all_eq_true]
  intro j hj
  have := List.mem_range.mp hj
  exact decide_eq_true (h j (by omega))
theorem emptyF_nil {f : Nat → List (Int × Int)} {n : Nat} (h : ∀ j, j < n → f j ≠ []) : emptyF f n = [] := by
  unfold emptyF
  rw [List.filter_eq_nil_iff.mpr, List.map_nil]
  intro j hj
  have := h j (List.mem_range.mp hj)
  simpa using this
theorem emptyF_succ (f : Nat → List (Int × Int)) (n : Nat) : emptyF f (n + 1) = emptyF f n ++ if f n = [] then [(n : Int)] else [] := by
  unfold emptyF
  rw [List.range_succ, List.filter_append, List.map_append]
  congr 1
  by_cases h : f n = []
  · rw [if_pos h, List.filter_cons_of_pos (by simpa using h)]
    rfl
  · rw [if_neg h, List.filter_cons_of_neg (by simpa using h)]
    rfl
theorem earlyF_nil {f : Nat → List (Int × Int)} {l : Nat} (h : f l ≠ []) (hn : ∀ e, e < l → f e ≠ []) (hm : ∀ e, e < l → moveL (f e) (f l) = none) : earlyF f l = [] := by
  unfold earlyF
  rw [List.filter_eq_nil_iff.mpr, List.map_nil]
  intro e he
  have he := List.mem_range.mp he
  intro z
  have z := of_decide_eq_true z
  rw [laid_eq (hn e he) h, hm e he] at z
  cases z
theorem pairsF_nil {f : Nat → List (Int × Int)} : ∀ {n : Nat}, (∀ j, j < n → Quiet f j) → pairsF f n = []
  | 0, _ => rfl
  | n + 1, h => by
    rw [pairsF_succ, pairsF_nil fun j hj => h j (by omega), earlyF_nil (h n (by omega)).1 (fun e he => (h e (by omega)).1) (h n (by omega)).2]
    rfl
theorem filter_one {t e : Nat} (he : e < t) : (List.range t).filter (fun x => decide (x = e)) = [e] := by
  induction t with
  | zero => omega
  | succ t ih =>
    rw [List.range_succ, List.filter_append]
    by_cases h : e = t
    · subst h
      rw [List.filter_eq_nil_iff.mpr, List.filter_cons_of_pos (by simp)]
      · rfl
      · intro x hx
        have := List.mem_range.mp hx
        have : x ≠ e := by omega
        simpa using this
    · rw [ih (by omega), List.filter_cons_of_neg (by simpa using fun z => h z.symm)]
      rfl
theorem earlyF_one {f : Nat → List (Int × Int)} {t e : Nat} (h : f t ≠ []) (hq : ∀ j, j < t → Quiet f j) (he : e < t) (hm : (moveL (f e) (f t)).isSome = true) : earlyF f t = [((e : Int), (t : Int))] := by
  have key : ∀ x, x < t → (laid (f x) = laid (f t) ↔ x = e) := fun x hx => by
    have q := (laid_eq (hq e he).1 h).mpr hm
    constructor
    · intro z
      have z2 : laid (f x) = laid (f e) := z.trans q.symm
      rcases Nat.lt_trichotomy x e with h1 | h1 | h1
      · have := (laid_eq (hq x hx).1 (hq e he).1).mp z2
        rw [(hq e he).2 x h1] at this
        cases this
      · exact h1
      · have := (laid_eq (hq e he).1 (hq x hx).1).mp z2.symm
        rw [(hq x hx).2 e h1] at this
        cases this
    · rintro rfl
      exact q
  unfold earlyF
  have : (List.range t).filter (fun e => decide (laid (f e) = laid (f t))) = (List.range t).filter (fun x => decide (x = e)) := by
    refine List.filter_congr fun x hx => ?_
    rw [decide_eq_decide]
    exact key x (List.mem_range.mp hx)
  rw [this, filter_one he]
  rfl
theorem bears_on {k : Int} {bs ss : List Int} {f : Nat → List (Int × Int)} {n : Nat} (hf : ∀ j, f (j + 1) = nextP k bs ss (f j)) (h : ∀ j, j < n → Quiet f j) : bearsB k bs ss f n .on = true := by
  unfold bearsB
  rw [turnsF_true fun j _ => (hf j).symm, emptyF_nil fun j hj => (h j hj).1, pairsF_nil h]
  rfl
theorem bears_shown {k : Int} {bs ss : List Int} {f : Nat → List (Int × Int)} {t : Nat} (hf : ∀ j, f (j + 1) = nextP k bs ss (f j)) (h : ∀ j, j < t → Quiet f j) : bearsB k bs ss f (t + 1) (shownV f t) = true := by
  have ht : turnsF k bs ss f (t + 1) = true := turnsF_true fun j _ => (hf j).symm
  have hn : (((t + 1 : Nat) : Int)) - 1 = (t : Int) := by omega
  have he := emptyF_succ f t
  rw [emptyF_nil fun j hj => (h j hj).1, List.nil_append] at he
  by_cases hz : f t = []
  · have : shownV f t = .gone (t : Int) := if_pos hz
    rw [this]
    rw [if_pos hz] at he
    show (turnsF k bs ss f (t + 1) && decide ((t : Int) = ((t + 1 : Nat) : Int) - 1) && decide (emptyF f (t + 1) = [((t + 1 : Nat) : Int) - 1])) = true
    rw [ht, hn, he, decide_eq_true rfl, decide_eq_true rfl]
    rfl
  · rw [if_neg hz] at he
    cases hfd : (List.range t).find? fun e => (moveL (f e) (f t)).isSome with
    | none =>
      have hv : shownV f t = .on := by
        unfold shownV
        rw [if_neg hz, hfd]
      rw [hv]
      exact bears_on hf fun j hj => by
        by_cases hjt : j = t
        · rw [hjt]; exact shownV_on.mp hv
        · exact h j (by omega)
    | some e =>
      have hv : shownV f t = .comes (e : Int) ((t : Int) - (e : Int)) ((moveL (f e) (f t)).getD (0, 0)) := by
        unfold shownV
        rw [if_neg hz, hfd]
      have h1 := List.find?_some hfd
      have h2 := List.mem_range.mp (List.mem_of_find?_eq_some hfd)
      have hp : pairsF f (t + 1) = [((e : Int), (t : Int))] := by
        rw [pairsF_succ, pairsF_nil h, earlyF_one hz h h2 h1]
        rfl
      obtain ⟨m, hm⟩ := Option.isSome_iff_exists.mp h1
      obtain ⟨_, _, hmv⟩ := moveL_some hm
      rw [hv, hm]
      have b1 : decide (0 ≤ (e : Int) ∧ 1 ≤ (t : Int) - (e : Int) ∧ (e : Int) + ((t : Int) - (e : Int)) = (t : Int)) = true := decide_eq_true (by omega)
      show (turnsF k bs ss f (t + 1) && decide (emptyF f (t + 1) = []) && decide (0 ≤ (e : Int) ∧ 1 ≤ (t : Int) - (e : Int) ∧ (e : Int) + ((t : Int) - (e : Int)) = ((t + 1 : Nat) : Int) - 1) && decide (pairsF f (t + 1) = [((e : Int), ((t + 1 : Nat) : Int) - 1)]) && decide ((f (e : Int).toNat).map (sh m) = f t)) = true
      rw [ht, hn, he, hp, b1, Int.toNat_natCast, hmv, decide_eq_true rfl, decide_eq_true rfl, decide_eq_true rfl]
      rfl
theorem nextP_len (k : Int) (bs ss : List Int) (live : List (Int × Int)) : (nextP k bs ss live).length ≤ 9 * live.length := by
  have h1 := cntT_len (imgsP k live)
  have h2 := imgsP_len k live
  have h3 := dd_le ((cntT (imgsP k live)).map (·.1) ++ live)
  have h4 : (nextP k bs ss live).length ≤ (ddS ((cntT (imgsP k live)).map (·.1) ++ live)).length := List.length_filter_le _ _
  unfold ddS at h4
  rw [sortE_length] at h4
  rw [List.length_append, List.length_map] at h3
  omega
instance : Enc FV where
  enc := fvD
  py := fun v => match v with
    | .on => .tuple [.str "on"]
    | .gone t => .tuple [.str "gone", .int t]
    | .comes a b m => .tuple [.str "comes", .int a, .int b, .tuple [.int m.1, .int m.2]]
  dp := 2
  to := fun v => by cases v <;> rfl
  lay := fun v => by cases v <;> (simp only [PyData.canLay0, PyData.canLayAll0, Bool.and_true]; decide +kernel)
  dep := fun v => by cases v <;> (simp only [PyData.depth, PyData.depthAll]; omega)
  eqv := fun v w => by
    cases v <;> cases w <;> simp [PyData.eqv, PyData.eqvAll, Prod.ext_iff]
/-- two places and a move -/
structure T3 where
  e : Int
  l : Int
  m : Int × Int
deriving DecidableEq
def t3D (t : T3) : D := .tup [.int t.e, .int t.l, .tup [.int t.m.1, .int t.m.2]]
instance : Enc T3 where
  enc := t3D
  py := fun t => .tuple [.int t.e, .int t.l, .tuple [.int t.m.1, .int t.m.2]]
  dp := 2
  to := fun _ => rfl
  lay := fun _ => rfl
  dep := fun _ => by simp only [PyData.depth, PyData.depthAll]; omega
  eqv := fun v w => by
    cases v; cases w
    simp [PyData.eqv, PyData.eqvAll, Prod.ext_iff]
theorem eq_fv (v w : FV) : eqD (fvD v) (fvD w) = some (decide (v = w)) := eqD_enc (α := FV) (by decide) v w
theorem eq_t3s (l m : List T3) : eqD (.lst (l.map t3D)) (.lst (m.map t3D)) = some (decide (l = m)) := eqD_enc (α := List T3) (by decide) l m
theorem Quiet.shift {f : Nat → List (Int × Int)} {m j : Nat} (h : Quiet f (j + m)) : Quiet (fun i => f (i + m)) j := ⟨h.1, fun e he => h.2 (e + m) (by omega)⟩
theorem cutG_rows_to (f : Nat → List (Int × Int)) {n m : Nat} (h : m ≤ n) : cutG (rowsN f n) none (some (m : Int)) = rowsN f m := by
  rw [cutG_to]
  unfold rowsN
  rw [← List.map_take, List.take_range, Nat.min_eq_left h]
theorem cutG_rows_from (f : Nat → List (Int × Int)) {n m : Nat} (h : m ≤ n) : cutG (rowsN f n) (some (m : Int)) none = rowsN (fun i => f (i + m)) (n - m) := by
  rw [cutG_from]
  unfold rowsN
  refine List.ext_getElem? fun i => ?_
  rw [List.getElem?_drop, List.getElem?_map, List.getElem?_map]
  by_cases hi : i < n - m
  · rw [List.getElem?_range hi, List.getElem?_range (by omega)]
    show some _ = some _
    rw [Nat.add_comm]
  · rw [List.getElem?_eq_none (by rw [List.length_range]; omega), List.getElem?_eq_none (by rw [List.length_range]; omega)]
    rfl
theorem eq_rows (f : Nat → List (Int × Int)) (n : Nat) : eqD (.lst (rowsN f n)) (.lst (rowsN f n)) = some true := by
  have := eq_pics ((List.range n).map f) ((List.range n).map f)
  rw [decide_eq_true rfl, List.map_map] at this
  exact this
theorem rows_copy (f : Nat → List (Int × Int)) (n : Nat) (T : D) (V : D) (S : Slot) : lcRun (gSet 4) xYes (xOpL dList (xCons (xVar 4) xNil)) [4] (rowsN f n) [] [.val T, .val (.lst (rowsN f n)), .val V, .emp, S] = .ok (rowsN f n) [.val T, .val (.lst (rowsN f n)), .val V, .emp, S] := by
  have run : ∀ R : List D, lcRun (gSet 4) xYes (xOpL dList (xCons (xVar 4) xNil)) [4] (rowsN f n) [] [.val T, .val (.lst R), .val V, .emp, S] = .ok (rowsN f n) [.val T, .val (.lst R), .val V, .emp, S] := fun R => by
    have h := lcMap (g := gSet 4) (tt := xYes) (te := xOpL dList (xCons (xVar 4) xNil)) (vs := [4]) (ρ := [.val T, .val (.lst R), .val V, .emp, S]) (e1 := fun j => cells (f j)) (fun j => cells (f j)) id (l := List.range n) (fun j hj => by
      cases S <;> simp! [cells, id_eq])
    rw [List.map_id] at h
    exact h
  exact run _
end G

set_option maxHeartbeats 4000000
namespace G
open PySem PySem.Spec PyProof.Rows L2
local macro_rules | `(tactic| simp! [$ls,*] $[$loc:location]?) => `(tactic| simp only [zaa, zab, zac, zad, zae, zaf, zag, zah, zai, zaj, zak, zal, zam, zan, zao, zap, zaq, zar, zas, zat, zau, zav, zaw, zax, zay, zaz, zaA, zaB, zaC, zaD, zaE, zaF, zaG, zaH, zaI, zaJ, zaK, zaL, zaM, zaN, zaO, zaP, zaQ, zaR, zaS, zaT, zaU, zaV, zaW, zaX, zaY, zaZ, zba, zbb, zbc, zbd, zbe, zbf, zbg, zbh, zbi, zbj, zbk, zbl, zbm, zbn, zbo, zbp, zbq, zbr, zbs, zbt, zbu, zbv, zbw, zbx, zby, zbz, zbA, zbB, zbC, zbD, zbE, zbF, zbG, zbH, zbI, zbJ, zbK, zbL, zbM, zbN, zbO, zbP, zbQ, zbR, zbS, zbT, zbU, zbV, zbW, zbX, zbY, zbZ, zca, zcb, zcc, zcd, zce, zcf, zcg, zch, zci, zcj, zck, zcl, zcm, zcn, zco, zcp, zcq, zcr, zcs, zct, zcu, zcv, zcw, zcx, zcy, zcz, zcA, zcB, zcC, zcD, zcE, zcF, zcG, zcH, zcI, zcJ, zcK, zcL, zcM, zcN, zcO, zcP, zcQ, zcR, zcS, zcT, zcU, zcV, zcW, zcX, zcY, zcZ, zda, zdb, zdc, zdd, zde, zdf, zdg, zdh, zdi, zdj, zdk, zdl, zdm, zdn, zdo, zdp, zdq, zdr, zds, zdt, zdu, zdv, zdw, zdx, zdy, zdz, zdA, zdB, zdC, zdD, zdE, zdF, zdG, zdH, zdI, zdJ, zdK, zdL, zdM, zdN, zdO, zdP, zdQ, zdR, zdS, zdT, zdU, zdV, G.of_f, G.of_t, zdW, zdX, zdY, zdZ, zea, zeb, zec, zed, zee, zef, zeg, zeh, zei, zej, zek, zel, zem, zen, zeo, zep, zeq, zer, zes, zet, zeu, zev, zew, zex, zey, zez, zeA, zeB, zeC, zeD, zeE, zeF, zeG, zeH, zeI, zeJ, zeK, zeL, zeM, zeN, zeO, zeP, zeQ, zeR, zeS, zeT, zeU, zeV, zeW, zeX, zeY, zeZ, zfa, zfb, zfc, G.sz_1, G.sz_2, G.sz_3, G.sz_4, G.sz_0, zfd, zfe, zff, zfg, zfh, zfi, zfj, zfk, zfl, zfm, zfn, zfo, zfp, zfq, zfr, zfs, zft, zfu, zfv, zfw, G.nc_0, G.nc_1, G.nc_2, G.nc_3, G.nc_4, G.nc_5, G.nc_6, G.nc_7, G.nc_8, G.nc_9, zfx, zfy, zfz, zfA, zfB, zfC, zfD, zfE, zfF, zfG, zfH, zfI, zfJ, zfK, zfL, zfM, zfN, zfO, zfP, zfQ, zfR, zfS, zfT, zfU, zfV, zfW, zfX, zfY, zfZ, zga, zgb, zgc, zgd, zge, zgf, zgg, zgh, zgi, zgj, zgk, zgl, zgm, zgn, zgo, zgp, zgq, zgr, zgs, zgt, zgu, zgv, zgw, zgx, zgy, zgz, zgA, zgB, zgC, zgD, zgE, zgF, zgG, zgH, zgI, zgJ, zgK, zgL, zgM, zgN, zgO, zgP, zgQ, zgR, zgS, zgT, zgU, zgV, zgW, zgX, zgY, zgZ, zha, zhb, zhc, zhd, zhe, zhf, zhg, zhh, zhi, zhj, zhk, zhl, zhm, zhn, zho, zhp, zhq, zhr, zhs, zht, zhu, zhv, zhw, zhx, zhy, zhz, zhA, zhB, zhC, zhD, zhE, zhF, zhG, zhH, zhI, zhJ, zhK, zhL, zhM, zhN, zhO, zhP, zhQ, zhR, zhS, zhT, zhU, zhV, zhW, zhX, List.getElem?_cons_zero, List.getElem?_cons_succ, List.set_cons_zero, List.set_cons_succ, G.atI_0, G.atI_1, G.atI_2, G.atI_3, Option.map_some, Option.bind_some, G.eqD_int, G.eqD_cell, G.eqD_bl, List.length_cons, List.length_nil, List.getD_cons_zero, List.getD_cons_succ, Bool.and_true, Bool.and_self, decide_true, decide_false, Bool.not_true, Bool.not_false, List.append_nil, List.nil_append, List.cons_append, if_true, if_false, Bool.false_eq_true, reduceIte, Int.reduceLT, Int.reduceLE, Int.reduceToNat, Int.reducePow, Int.reduceNeg, Int.reduceAdd, Int.reduceSub, Int.reduceMul, Nat.reduceAdd, Int.reduceEq, List.replicate, Nat.reduceSub, and_self, and_true, true_and, $ls,*] $[$loc]?)

/-! ### fates on the plane -/
noncomputable def pb_step_to : XS := (xRet (xOpL dTup (xCons (xOp2 dSub (xOp2 dIx (xOp2 dIx (xVar 1) (xC (.int 0))) (xC (.int 0))) (xOp2 dIx (xOp2 dIx (xVar 0) (xC (.int 0))) (xC (.int 0)))) (xCons (xOp2 dSub (xOp2 dIx (xOp2 dIx (xVar 1) (xC (.int 0))) (xC (.int 1))) (xOp2 dIx (xOp2 dIx (xVar 0) (xC (.int 0))) (xC (.int 1)))) xNil))))
noncomputable def p_step_to : DF := runP [false, false] 2 false pb_step_to
noncomputable def pb_fate_1 : XS := (xSeq (xIfS (xTest (xOp2 (dCmp fun i j => decide (j < i)) (xVar 5) (xC (.int 0))))
    (xSet 3 (xCall p_next_turn (xCons (xVar 0) (xCons (xVar 3) xNil))))
    xNext)
    (xSeq (xIfS (xTest (xOp2 dEq (xVar 3) (xOpL dLst xNil)))
    (xRet (xOpL dTup (xCons (xC (.str "gone")) (xCons (xVar 5) xNil))))
    xNext)
    (xSeq (xSet 6 (xOpL dTuple (xCons (xCall p_at_nought (xConsR (xVar 3) xNil)) xNil)))
    (xSeq (xIfS (xTest (xCmpO dInN (xVar 6) 4))
    (xSeq (xAsg (xNIx 4 (xVar 6)) (gsTup 2 (gsCons (gSet 7) (gsCons (gSet 8) gsNil))))
    (xRet (xOpL dTup (xCons (xC (.str "comes")) (xCons (xVar 7) (xCons (xOp2 dSub (xVar 5) (xVar 7)) (xCons (xCall p_step_to (xCons (xVar 8) (xCons (xVar 3) xNil))) xNil)))))))
    xNext)
    (xNPut 4 (xVar 6) (xOpL dTup (xCons (xVar 5) (xCons (xVar 3) xNil))))))))
noncomputable def pb_fate : XS := (xSeq (xDrop (xCall p_ask_quiet (xCons (xVar 0) xNil)))
    (xSeq (xSet 3 (xOpL dList (xCons (xVar 1) xNil)))
    (xSeq (xSetO 4 (xC (.dicN false [])))
    (xSeq (xFor (xItR1 (xOp2 dAdd (xVar 2) (xC (.int 1)))) (gSet 5) pb_fate_1)
    (xRet (xOpL dTup (xCons (xC (.str "on")) xNil)))))))
noncomputable def p_fate : DF := runP [false, false, false] 9 false pb_fate
noncomputable def pb_word_of : XS := (xSeq (xIfS (xTest (xOp2 dNe (xOp2 dIx (xVar 0) (xC (.int 0))) (xC (.str "comes"))))
    (xRet (xOp2 dIx (xVar 0) (xC (.int 0))))
    xNext)
    (xSeq (xIfS (xTest (xOp2 dNe (xOp2 dIx (xVar 0) (xC (.int 3))) (xOpL dTup (xCons (xC (.int 0)) (xCons (xC (.int 0)) xNil)))))
    (xRet (xC (.str "goes")))
    xNext)
    (xSeq (xIfS (xTest (xOp2 dEq (xOp2 dIx (xVar 0) (xC (.int 2))) (xC (.int 1))))
    (xRet (xC (.str "rests")))
    xNext)
    (xRet (xC (.str "again"))))))
noncomputable def p_word_of : DF := runP [false] 1 false pb_word_of

/-! the plain law -/
def ck2 (p : Int × Int) : NestedKey := .tup [.num p.1, .num p.2]
def keyN (l : List (Int × Int)) : NestedKey := .tup (l.map ck2)
theorem nkD_cell (p : Int × Int) : nkD (cellP p) = some (ck2 p) := by
  simp [cellP, nkD, nkDs, ck2]
theorem nkDs_cells (l : List (Int × Int)) : nkDs (l.map cellP) = some (l.map ck2) := by
  induction l with
  | nil => simp [nkDs]
  | cons p l ih => simp [nkDs, nkD_cell, ih]
theorem nkD_cells (l : List (Int × Int)) : nkD (.tup (l.map cellP)) = some (keyN l) := by
  unfold nkD
  rw [nkDs_cells]
  rfl
theorem depth_cells (l : List (Int × Int)) : NestedKey.depthAll (l.map ck2) ≤ 1 := by
  induction l with
  | nil => simp [NestedKey.depthAll]
  | cons p l ih =>
    rw [List.map_cons, NestedKey.depthAll]
    have : (ck2 p).depth ≤ 1 := by simp [ck2, NestedKey.depth, NestedKey.depthAll]
    omega
theorem nkT_cells (l : List (Int × Int)) : nkT (.tup (l.map cellP)) = some (keyN l) := by
  show ((nkD (.tup (l.map cellP))).bind fun k => if k.depth ≤ 8 then some k else none) = _
  rw [nkD_cells]
  have : (keyN l).depth ≤ 8 := by
    have := depth_cells l
    unfold keyN
    rw [NestedKey.depth]
    omega
  simp only [Option.bind_some]
  rw [if_pos this]
theorem ck2_inj {p q : Int × Int} (h : ck2 p = ck2 q) : p = q := by
  unfold ck2 at h
  injection h with h
  injection h with h1 h2
  injection h2 with h2 _
  injection h1 with h1
  injection h2 with h2
  exact Prod.ext h1 h2
theorem keyN_inj {l m : List (Int × Int)} (h : keyN l = keyN m) : l = m := by
  unfold keyN at h
  injection h with h
  exact List.map_inj_right (fun _ _ => ck2_inj) |>.mp h
def tabN (f : Nat → List (Int × Int)) (t : Nat) : List (D × D) := (List.range t).map fun j : Nat => (.tup ((laid (f j)).map cellP), .tup [.int (j : Int), cells (f j)])
theorem tabN_len (f : Nat → List (Int × Int)) (t : Nat) : (tabN f t).length = t := by unfold tabN; rw [List.length_map, List.length_range]
theorem tabN_lk (f : Nat → List (Int × Int)) (t : Nat) (l : List (Int × Int)) : lkN (tabN f t) (keyN l) = ((List.range t).find? fun j => decide (laid (f j) = l)).map fun j : Nat => D.tup [.int (j : Int), cells (f j)] := by
  unfold lkN tabN
  rw [List.find?_map, Option.map_map]
  congr 1
  congr 1
  funext j
  show decide (nkD (.tup ((laid (f j)).map cellP)) = some (keyN l)) = _
  rw [nkD_cells, decide_eq_decide]
  exact ⟨fun h => keyN_inj (Option.some.inj h), fun h => by rw [h]⟩
theorem tabN_pt (f : Nat → List (Int × Int)) (t : Nat) (h : lkN (tabN f t) (keyN (laid (f t))) = none) : ptN (tabN f t) (keyN (laid (f t))) (.tup ((laid (f t)).map cellP)) (.tup [.int (t : Int), cells (f t)]) = tabN f (t + 1) := by
  unfold ptN
  rw [h, if_neg (by decide)]
  unfold tabN
  rw [List.range_succ, List.map_append]
  rfl
theorem step_to_is (p q : Int × Int) (a b : List (Int × Int)) : p_step_to [cells (p :: a), cells (q :: b)] = .ok (.tup [.int (q.1 - p.1), .int (q.2 - p.2)]) [] := by
  unfold p_step_to pb_step_to
  simp! [cells, List.map_cons, cellP]
theorem find_laid {f : Nat → List (Int × Int)} {t : Nat} (hz : f t ≠ []) (hq : ∀ j, j < t → Quiet f j) : ((List.range t).find? fun e => (moveL (f e) (f t)).isSome) = (List.range t).find? fun j => decide (laid (f j) = laid (f t)) := by
  have : ∀ l : List Nat, (∀ x ∈ l, x < t) → (l.find? fun e => (moveL (f e) (f t)).isSome) = l.find? fun j => decide (laid (f j) = laid (f t)) := fun l => by
    induction l with
    | nil => intro _; rfl
    | cons a l ih =>
      intro h
      have ha := h a (List.mem_cons_self ..)
      have q := laid_eq (hq a ha).1 hz
      rw [List.find?_cons, List.find?_cons, ih fun x hx => h x (List.mem_cons_of_mem _ hx)]
      have e : (moveL (f a) (f t)).isSome = decide (laid (f a) = laid (f t)) := by
        rw [Bool.eq_iff_iff, decide_eq_true_eq]
        exact q.symm
      rw [e]
  exact this _ fun x hx => List.mem_range.mp hx
def fateR (f : Nat → List (Int × Int)) (t : Nat) : Option D := if shownV f t = .on then none else some (fvD (shownV f t))
def fateV (f : Nat → List (Int × Int)) (n : Nat) : FV := match (List.range (n + 1)).find? fun t => decide (shownV f t ≠ .on) with
  | some t => shownV f t
  | none => .on
theorem fateR_V (f : Nat → List (Int × Int)) (n : Nat) : (first (fateR f) 0 (n + 1)).getD (.tup [.str "on"]) = fvD (fateV f n) := by
  rw [first_find]
  have : (fun e => (fateR f e).isSome) = fun t => decide (shownV f t ≠ .on) := by
    funext t
    unfold fateR
    by_cases h : shownV f t = .on
    · rw [if_pos h, decide_eq_false (by simpa using h)]
      rfl
    · rw [if_neg h, decide_eq_true h]
      rfl
  rw [this]
  unfold fateV
  cases hf : (List.range (n + 1)).find? fun t => decide (shownV f t ≠ .on) with
  | none => rfl
  | some t =>
    have h1 := List.find?_some hf
    have h1 := of_decide_eq_true h1
    show (fateR f t).getD _ = fvD (shownV f t)
    unfold fateR
    rw [if_neg h1]
    rfl
/-- what the fate is -/
theorem fateV_spec (f : Nat → List (Int × Int)) (n : Nat) : (∃ t, t ≤ n ∧ (∀ j, j < t → Quiet f j) ∧ ¬ Quiet f t ∧ fateV f n = shownV f t) ∨ ((∀ j, j ≤ n → Quiet f j) ∧ fateV f n = .on) := by
  unfold fateV
  cases hf : (List.range (n + 1)).find? fun t => decide (shownV f t ≠ .on) with
  | none =>
    refine .inr ⟨fun j hj => ?_, rfl⟩
    have := List.find?_eq_none.mp hf j (List.mem_range.mpr (by omega))
    exact shownV_on.mp (by simpa using this)
  | some t =>
    have h1 := List.find?_some hf
    have h1 := of_decide_eq_true h1
    have h2 := List.mem_range.mp (List.mem_of_find?_eq_some hf)
    refine .inl ⟨t, by omega, fun j hj => ?_, fun z => h1 (shownV_on.mpr z), rfl⟩
    obtain ⟨_, as, bs, e1, e2⟩ := List.find?_eq_some_iff_append.mp hf
    have hj2 : j ∈ as := by
      have h3 : (List.range (n + 1))[as.length]? = some t := by rw [e1]; simp
      have h4 : as.length = t := by
        rw [List.getElem?_range (by have := congrArg List.length e1; rw [List.length_range, List.length_append, List.length_cons] at this; omega)] at h3
        exact Option.some.inj h3
      have h5 : as = List.range t := by
        have := congrArg (List.take t) e1
        rw [List.take_range, Nat.min_eq_left (by omega), List.take_append_of_le_length (by omega), List.take_of_length_le (by omega)] at this
        exact this.symm
      rw [h5]
      exact List.mem_range.mpr hj
    have := e2 j hj2
    exact shownV_on.mp (by simpa using this)
theorem fate_turn {k : Int} (hk : Kind k) {bs : List Int} (hq : 0 ∉ bs) (ss : List Int) (f : Nat → List (Int × Int)) (hf : ∀ j, f (j + 1) = nextP k bs ss (f j)) (L N : D) (t : Nat) (ht : t ≤ 1000) (hqt : ∀ j, j < t → Quiet f j) (h1 : t ≠ 0 → (f (t - 1)).length ≤ 440) (h2 : (f t).length ≤ 1000) (s6 s7 s8 : Slot) :
    ∃ ρ2, (fateR f t = none ∧ pb_fate_1 [.val (ruleD k bs ss), .val L, .val N, .val (cells (f (t - 1))), .own (.dicN false (tabN f t)), .val (.int (t : Int)), s6, s7, s8] = .nx ρ2 ∧ Quiet f t ∧ ∃ t5 t6, ρ2 = [.val (ruleD k bs ss), .val L, .val N, .val (cells (f t)), .own (.dicN false (tabN f (t + 1))), t5, t6, s7, s8]) ∨ ∃ v, fateR f t = some v ∧ pb_fate_1 [.val (ruleD k bs ss), .val L, .val N, .val (cells (f (t - 1))), .own (.dicN false (tabN f t)), .val (.int (t : Int)), s6, s7, s8] = .ret v ρ2 := by
  have step1 : (xIfS (xTest (xOp2 (dCmp fun i j => decide (j < i)) (xVar 5) (xC (.int 0)))) (xSet 3 (xCall p_next_turn (xCons (xVar 0) (xCons (xVar 3) xNil)))) xNext) [.val (ruleD k bs ss), .val L, .val N, .val (cells (f (t - 1))), .own (.dicN false (tabN f t)), .val (.int (t : Int)), s6, s7, s8] = .nx [.val (ruleD k bs ss), .val L, .val N, .val (cells (f t)), .own (.dicN false (tabN f t)), .val (.int (t : Int)), s6, s7, s8] := by
    cases t with
    | zero => simp! [nc_0]
    | succ t =>
      have e := next_turn_is hk hq ss (f t) (h1 (by omega))
      rw [← hf t] at e
      have hp : (0 : Int) < ((t + 1 : Nat) : Int) := by omega
      have q : t + 1 - 1 = t := rfl
      rw [q]
      generalize ((t + 1 : Nat) : Int) = T at *
      simp! [ruleD, cells] at e ⊢
      simp! [hp, e]
  unfold pb_fate_1
  rw [zaX, step1, zaf]
  have qn := eq_cells_nil (f t)
  by_cases hz : f t = []
  · rw [decide_eq_true hz] at qn
    have hr : fateR f t = some (.tup [.str "gone", .int (t : Int)]) := by
      unfold fateR shownV
      rw [if_pos hz]
      rfl
    refine ⟨[.val (ruleD k bs ss), .val L, .val N, .val (cells (f t)), .own (.dicN false (tabN f t)), .val (.int (t : Int)), s6, s7, s8], .inr ⟨_, hr, ?_⟩⟩
    simp! [cells] at qn ⊢
    simp! [qn]
  · rw [decide_eq_false hz] at qn
    have e1 := nought_is (f t) h2
    have hn := nkT_cells (laid (f t))
    have hl := tabN_lk f t (laid (f t))
    have fl := find_laid hz hqt
    cases hfd : (List.range t).find? fun j => decide (laid (f j) = laid (f t)) with
    | none =>
      rw [hfd] at hl fl
      have hlk : lkN (tabN f t) (keyN (laid (f t))) = none := hl
      have hs : shownV f t = .on := by
        unfold shownV
        rw [if_neg hz, fl]
      have hr : fateR f t = none := if_pos hs
      have hzl : (tabN f t).length < sizeLine := by rw [tabN_len]; exact szBl (by omega)
      have hin := zhW false (tabN f t) hn
      rw [hlk] at hin
      have hput := fun (ρ : Rho) (d : D) => zhV (ρ := ρ) (i := 4) (d := d) hn hzl
      have hpt := tabN_pt f t hlk
      refine ⟨[.val (ruleD k bs ss), .val L, .val N, .val (cells (f t)), .own (.dicN false (tabN f (t + 1))), .val (.int (t : Int)), .val (.tup ((laid (f t)).map cellP)), s7, s8], .inl ⟨hr, ?_, shownV_on.mp hs, _, _, rfl⟩⟩
      simp! [cells, Option.isSome_none] at qn e1 hpt hin ⊢
      simp! [qn, e1, hin, hput, hpt]
    | some e =>
      rw [hfd] at hl fl
      have hlk : lkN (tabN f t) (keyN (laid (f t))) = some (.tup [.int (e : Int), cells (f e)]) := hl
      have h3 := List.find?_some hfd
      have h3 := of_decide_eq_true h3
      have h4 := List.mem_range.mp (List.mem_of_find?_eq_some hfd)
      obtain ⟨m, hm⟩ := Option.isSome_iff_exists.mp ((laid_eq (hqt e h4).1 hz).mp h3)
      have hs : shownV f t = .comes (e : Int) ((t : Int) - (e : Int)) m := by
        unfold shownV
        rw [if_neg hz, fl]
        show FV.comes (e : Int) ((t : Int) - (e : Int)) ((moveL (f e) (f t)).getD (0, 0)) = _
        rw [hm]
        rfl
      have hr : fateR f t = some (fvD (.comes (e : Int) ((t : Int) - (e : Int)) m)) := by
        unfold fateR
        rw [hs, if_neg (by intro z; cases z)]
      have hst : p_step_to [cells (f e), cells (f t)] = .ok (.tup [.int m.1, .int m.2]) [] := by
        cases he : f e with
        | nil => exact absurd he (hqt e h4).1
        | cons p a =>
          cases ht2 : f t with
          | nil => exact absurd ht2 hz
          | cons q b =>
            rw [step_to_is]
            rw [he, ht2] at hm
            have hm2 : (if (p :: a).map (sh (q.1 - p.1, q.2 - p.2)) = q :: b then some (q.1 - p.1, q.2 - p.2) else none) = some m := hm
            split at hm2
            · rw [← Option.some.inj hm2]
            · exact absurd hm2 (by simp)
      have hin := zhW false (tabN f t) hn
      rw [hlk] at hin
      have hix := zhX (tabN f t) hn
      rw [hlk] at hix
      refine ⟨[.val (ruleD k bs ss), .val L, .val N, .val (cells (f t)), .own (.dicN false (tabN f t)), .val (.int (t : Int)), .val (.tup ((laid (f t)).map cellP)), .val (.int (e : Int)), .val (cells (f e))], .inr ⟨_, hr, ?_⟩⟩
      simp! [cells, fvD, Option.isSome_some] at qn e1 hst hix hin ⊢
      simp! [qn, e1, hin, hix, hst]
theorem fate_is {k : Int} (hk : Kind k) {bs : List Int} (hq : 0 ∉ bs) (ss : List Int) (live : List (Int × Int)) (n : Nat) {N : Int} (eN : (n : Int) = N) (hn : n ≤ 500) (hl : ∀ t, t < n → (∀ j, j ≤ t → Quiet (afterP k bs ss live) j) → (afterP k bs ss live t).length ≤ 440) (hl1 : ∀ t, t ≤ n → (∀ j, j < t → Quiet (afterP k bs ss live) j) → (afterP k bs ss live t).length ≤ 1000) : p_fate [ruleD k bs ss, cells live, .int N] = .ok (fvD (fateV (afterP k bs ss live) n)) [] := by
  have hf : ∀ j, afterP k bs ss live (j + 1) = nextP k bs ss (afterP k bs ss live j) := fun _ => rfl
  have h00 : afterP k bs ss live 0 = live := rfl
  have e1 := quiet_is k hq ss
  rw [← fateR_V]
  generalize afterP k bs ss live = f at *
  have hb : inR (N + 1) = true := inR_of (by omega)
  have hN1 : (N + 1).toNat = n + 1 := by omega
  have := forRun_first (g := gSet 5) (body := pb_fate_1) (e := fun j : Nat => D.int (j : Int)) (fun t ρ => (∀ j, j < t → Quiet f j) ∧ ∃ s5 s6 s7 s8, ρ = [.val (ruleD k bs ss), .val (cells live), .val (.int N), .val (cells (f (t - 1))), .own (.dicN false (tabN f t)), s5, s6, s7, s8]) (fateR f) (List.range (n + 1)) 0 [.val (ruleD k bs ss), .val (cells live), .val (.int N), .val (cells (f 0)), .own (.dicN false (tabN f 0)), .emp, .emp, .emp, .emp] ⟨fun j hj => absurd hj (by omega), _, _, _, _, rfl⟩ (fun i a ρ hi hρ => by
    obtain ⟨hqt, s5, s6, s7, s8, rfl⟩ := hρ
    obtain ⟨rfl, hit⟩ := range_at hi
    refine ⟨_, rfl, ?_⟩
    rw [Nat.zero_add] at hqt ⊢
    have l1 : a ≠ 0 → (f (a - 1)).length ≤ 440 := fun ha => hl (a - 1) (by omega) fun j hj => hqt j (by omega)
    obtain ⟨ρ2, ⟨g1, g2, g3, t5, t6, rfl⟩ | ⟨v, g1, g2⟩⟩ := fate_turn hk hq ss f hf (cells live) (.int N) a (by omega) hqt l1 (hl1 a (by omega) hqt) s6 s7 s8
    · refine ⟨_, .inl ⟨g1, .inl g2, fun j hj => ?_, _, _, _, _, rfl⟩⟩
      by_cases hja : j = a
      · rw [hja]; exact g3
      · exact hqt j (by omega)
    · exact ⟨ρ2, .inr ⟨v, g1, g2⟩⟩)
  rw [List.length_range] at this
  have hr := range_rD (n + 1)
  have h0 : tabN f 0 = [] := rfl
  rw [h0] at this
  unfold p_fate pb_fate
  rcases this with ⟨ρ', ⟨g1, g2, _⟩ | ⟨v, g1, g2⟩⟩
  · rw [g1]
    rw [h00] at g2
    simp! [ruleD, cells] at e1 g2 ⊢
    simp! [e1, hb, hN1, hr, g2, Option.getD_none]
  · rw [g1]
    rw [h00] at g2
    simp! [ruleD, cells] at e1 g2 ⊢
    simp! [e1, hb, hN1, hr, g2, Option.getD_some]
theorem fate_loud (k : Int) {bs : List Int} (hq : 0 ∈ bs) (ss : List Int) (R T : D) : p_fate [ruleD k bs ss, R, T] = .exc "Loud" [] := by
  have e1 := loud_is k hq ss
  unfold p_fate pb_fate
  simp! [ruleD] at e1 ⊢
  simp! [e1]
def wordV : FV → D
  | .on => .str "on"
  | .gone _ => .str "gone"
  | .comes _ b m => if m = (0, 0) then (if b = 1 then .str "rests" else .str "again") else .str "goes"
theorem word_is (v : FV) : p_word_of [fvD v] = .ok (wordV v) [] := by
  have s_oc : eqD (.str "on") (.str "comes") = some false := by kernel_rfl
  have s_gc : eqD (.str "gone") (.str "comes") = some false := by kernel_rfl
  have s_cc : eqD (.str "comes") (.str "comes") = some true := by kernel_rfl
  unfold p_word_of pb_word_of
  cases v with
  | on => simp! [fvD, wordV, s_oc]
  | gone t => simp! [fvD, wordV, s_gc]
  | comes a b m =>
    have q := eq_cellP m (0, 0)
    by_cases hm : m = (0, 0)
    · rw [decide_eq_true hm] at q
      by_cases hb : b = 1
      · rw [show wordV (.comes a b m) = .str "rests" from (if_pos hm).trans (if_pos hb)]
        simp! [fvD, cellP] at q ⊢
        simp! [s_cc, q, hb]
      · rw [show wordV (.comes a b m) = .str "again" from (if_pos hm).trans (if_neg hb)]
        simp! [fvD, cellP] at q ⊢
        simp! [s_cc, q, hb]
    · rw [decide_eq_false hm] at q
      rw [show wordV (.comes a b m) = .str "goes" from if_neg hm]
      simp! [fvD, cellP] at q ⊢
      simp! [s_cc, q]
end G

namespace K20
open PySem PySem.Spec PyProof.Rows L2 G

def topS (i : Nat) : Stmt := PySem.Challenge.pw_cellships_k20_fates_of_a_turn.main.body.getD i (.Pass ⟨0, 0, 0, 0⟩)
abbrev s_moved : Stmt := topS 1
theorem sc_moved : FnScope ["live", "move", "dx", "dy", "x", "y"] ["live", "move"] (defScope s_moved) := ⟨rfl, rfl, rfl, by decide +kernel, rfl, by decide +kernel, by decide +kernel⟩
abbrev s_box_of : Stmt := topS 2
theorem sc_box_of : FnScope ["live", "xs", "x", "y", "ys"] ["live"] (defScope s_box_of) := ⟨rfl, rfl, rfl, by decide +kernel, rfl, by decide +kernel, by decide +kernel⟩
abbrev s_at_nought : Stmt := topS 3
theorem sc_at_nought : FnScope ["live", "box"] ["live"] (defScope s_at_nought) := ⟨rfl, rfl, rfl, by decide +kernel, rfl, by decide +kernel, by decide +kernel⟩
abbrev s_is_near : Stmt := topS 5
theorem sc_is_near : FnScope ["kind", "dx", "dy"] ["kind", "dx", "dy"] (defScope s_is_near) := ⟨rfl, rfl, rfl, by decide +kernel, rfl, by decide +kernel, by decide +kernel⟩
abbrev s_offsets : Stmt := topS 6
theorem sc_offsets : FnScope ["kind", "steps", "dx", "dy", "step"] ["kind"] (defScope s_offsets) := ⟨rfl, rfl, rfl, by decide +kernel, rfl, by decide +kernel, by decide +kernel⟩
abbrev s_around : Stmt := topS 7
theorem sc_around : FnScope ["$", "found", "dx", "dy"] [] (defScope s_around) := ⟨rfl, rfl, rfl, by decide +kernel, rfl, by decide +kernel, by decide +kernel⟩
abbrev s_is_quiet : Stmt := topS 23
theorem sc_is_quiet : FnScope ["told"] ["told"] (defScope s_is_quiet) := ⟨rfl, rfl, rfl, by decide +kernel, rfl, by decide +kernel, by decide +kernel⟩
abbrev s_ask_quiet : Stmt := topS 24
theorem sc_ask_quiet : FnScope ["told"] ["told"] (defScope s_ask_quiet) := ⟨rfl, rfl, rfl, by decide +kernel, rfl, by decide +kernel, by decide +kernel⟩
abbrev s_comes : Stmt := topS 25
theorem sc_comes : FnScope ["told", "alive", "count"] ["told", "alive", "count"] (defScope s_comes) := ⟨rfl, rfl, rfl, by decide +kernel, rfl, by decide +kernel, by decide +kernel⟩
abbrev s_counts : Stmt := topS 27
theorem sc_counts : FnScope ["kind", "live", "near", "found", "x", "y", "dx", "dy", "cell"] ["kind", "live"] (defScope s_counts) := ⟨rfl, rfl, rfl, by decide +kernel, rfl, by decide +kernel, by decide +kernel⟩
abbrev s_next_turn : Stmt := topS 28
theorem sc_next_turn : FnScope ["rule", "live", "near", "alive", "cell", "some"] ["rule", "live"] (defScope s_next_turn) := ⟨rfl, rfl, rfl, by decide +kernel, rfl, by decide +kernel, by decide +kernel⟩
abbrev s_step_to : Stmt := topS 30
theorem sc_step_to : FnScope ["one", "other"] ["one", "other"] (defScope s_step_to) := ⟨rfl, rfl, rfl, by decide +kernel, rfl, by decide +kernel, by decide +kernel⟩
abbrev s_fate : Stmt := topS 31
theorem sc_fate : FnScope ["rule", "live", "most", "here", "known", "turn", "shape", "ahead", "row"] ["rule", "live", "most"] (defScope s_fate) := ⟨rfl, rfl, rfl, by decide +kernel, rfl, by decide +kernel, by decide +kernel⟩
abbrev s_word_of : Stmt := topS 32
theorem sc_word_of : FnScope ["told"] ["told"] (defScope s_word_of) := ⟨rfl, rfl, rfl, by decide +kernel, rfl, by decide +kernel, by decide +kernel⟩
abbrev s_law_pen : Stmt := topS 34
theorem sc_law_pen : FnScope ["_law_script", "_law_k", "_law_cell"] ["_law_script", "_law_k"] (defScope s_law_pen) := ⟨rfl, rfl, rfl, by decide +kernel, rfl, by decide +kernel, by decide +kernel⟩
abbrev s_law_draw : Stmt := topS 35
theorem sc_law_draw : FnScope ["_law_pen_here", "_law_many", "_law_drawn", "_law_number_here"] ["_law_pen_here", "_law_many"] (defScope s_law_draw) := ⟨rfl, rfl, rfl, by decide +kernel, rfl, by decide +kernel, by decide +kernel⟩
abbrev s_law_number : Stmt := topS 36
theorem sc_law_number : FnScope ["_law_pen_here", "_law_way"] ["_law_pen_here"] (defScope s_law_number) := ⟨rfl, rfl, rfl, by decide +kernel, rfl, by decide +kernel, by decide +kernel⟩
abbrev s_law_rule : Stmt := topS 37
theorem sc_law_rule : FnScope ["_law_pen_here", "_law_kind", "_law_born", "_law_stay", "_law_count"] ["_law_pen_here"] (defScope s_law_rule) := ⟨rfl, rfl, rfl, by decide +kernel, rfl, by decide +kernel, by decide +kernel⟩
abbrev s_law_cells : Stmt := topS 38
theorem sc_law_cells : FnScope ["_law_pen_here", "_law_way", "_law_k", "_law_goer", "_law_side", "_law_cells_here", "_law_cell"] ["_law_pen_here"] (defScope s_law_cells) := ⟨rfl, rfl, rfl, by decide +kernel, rfl, by decide +kernel, by decide +kernel⟩
abbrev s_law_picture : Stmt := topS 39
theorem sc_law_picture : FnScope ["_law_pen_here", "_law_cells_here", "_law_dx", "_law_dy", "_law_x", "_law_y"] ["_law_pen_here"] (defScope s_law_picture) := ⟨rfl, rfl, rfl, by decide +kernel, rfl, by decide +kernel, by decide +kernel⟩
abbrev s_law_steps : Stmt := topS 40
theorem sc_law_steps : FnScope ["_law_kind", "_law_found"] ["_law_kind"] (defScope s_law_steps) := ⟨rfl, rfl, rfl, by decide +kernel, rfl, by decide +kernel, by decide +kernel⟩
abbrev s_law_next : Stmt := topS 41
theorem sc_law_next : FnScope ["_law_told", "_law_live", "_law_near", "_law_cell", "_law_step", "_law_there", "_law_alive"] ["_law_told", "_law_live"] (defScope s_law_next) := ⟨rfl, rfl, rfl, by decide +kernel, rfl, by decide +kernel, by decide +kernel⟩
abbrev s_law_is_refused : Stmt := topS 42
theorem sc_law_is_refused : FnScope ["_law_told", "_law_live", "_law_most", "_law_found", "e", "_law_other"] ["_law_told", "_law_live", "_law_most"] (defScope s_law_is_refused) := ⟨rfl, rfl, rfl, by decide +kernel, rfl, by decide +kernel, by decide +kernel⟩
abbrev s_law_due : Stmt := topS 43
theorem sc_law_due : FnScope ["_law_told", "_law_live", "_law_most", "_law_later", "_law_move", "_law_x", "_law_y"] ["_law_told", "_law_live", "_law_most"] (defScope s_law_due) := ⟨rfl, rfl, rfl, by decide +kernel, rfl, by decide +kernel, by decide +kernel⟩
abbrev s_law_word : Stmt := topS 44
theorem sc_law_word : FnScope ["_law_due_here"] ["_law_due_here"] (defScope s_law_word) := ⟨rfl, rfl, rfl, by decide +kernel, rfl, by decide +kernel, by decide +kernel⟩
abbrev s_law_are_whole : Stmt := topS 45
theorem sc_law_are_whole : FnScope ["_law_found", "_law_numbers", "_law_n"] ["_law_found"] (defScope s_law_are_whole) := ⟨rfl, rfl, rfl, by decide +kernel, rfl, by decide +kernel, by decide +kernel⟩
abbrev s_law_built : Stmt := topS 46
theorem sc_law_built : FnScope ["_law_pen_here", "_law_way", "_law_move"] ["_law_pen_here"] (defScope s_law_built) := ⟨rfl, rfl, rfl, by decide +kernel, rfl, by decide +kernel, by decide +kernel⟩
abbrev s_law : Stmt := topS 47
theorem sc_law : FnScope ["_law_script", "_law_k", "_law_pen_here", "_law_told", "_law_live", "_law_handed", "_law_most", "_law_turn", "_law_loud", "_law_due_here", "_law_found"] ["_law_script"] (defScope s_law) := ⟨rfl, rfl, rfl, by decide +kernel, rfl, by decide +kernel, by decide +kernel⟩
/-! moved -/
noncomputable def b_moved : XS := (xSeq (xAsg (xVar 1) (gsTup 2 (gsCons (gSet 2) (gsCons (gSet 3) gsNil))))
    (xRet (xLC (xItO 0) (gsTup 2 (gsCons (gSet 4) (gsCons (gSet 5) gsNil))) xYes (xOpL dTup (xCons (xOp2 dAdd (xVar 4) (xVar 2)) (xCons (xOp2 dAdd (xVar 5) (xVar 3)) xNil))) [4, 5])))
noncomputable def f_moved : DF := runP [true, false] 6 true b_moved
/-! box_of -/
noncomputable def b_box_of : XS := (xSeq (xIfS (xTest (xCmpOL dEq 0 (xOpL dLst xNil)))
    (xRet (xC .non))
    xNext)
    (xSeq (xSet 1 (xLC (xItO 0) (gsTup 2 (gsCons (gSet 2) (gsCons (gSet 3) gsNil))) xYes (xVar 2) [2, 3]))
    (xSeq (xSet 4 (xLC (xItO 0) (gsTup 2 (gsCons (gSet 2) (gsCons (gSet 3) gsNil))) xYes (xVar 3) [2, 3]))
    (xRet (xOpL dTup (xCons (xOpL (dBest minDD) (xCons (xVar 1) xNil)) (xCons (xOpL (dBest minDD) (xCons (xVar 4) xNil)) (xCons (xOp2 dAdd (xOp2 dSub (xOpL (dBest maxDD) (xCons (xVar 1) xNil)) (xOpL (dBest minDD) (xCons (xVar 1) xNil))) (xC (.int 1))) (xCons (xOp2 dAdd (xOp2 dSub (xOpL (dBest maxDD) (xCons (xVar 4) xNil)) (xOpL (dBest minDD) (xCons (xVar 4) xNil))) (xC (.int 1))) xNil)))))))))
noncomputable def f_box_of : DF := runP [true] 5 false b_box_of
/-! at_nought -/
noncomputable def b_at_nought : XS := (xSeq (xSet 1 (xCall f_box_of (xConsO 0 xNil)))
    (xSeq (xIfS (xTest (xOp2 dIs (xVar 1) (xC .non)))
    (xRet (xOpL dLst xNil))
    xNext)
    (xRet (xCall f_moved (xConsO 0 (xCons (xOpL dTup (xCons (xOp2 dSub (xC (.int 0)) (xOp2 dIx (xVar 1) (xC (.int 0)))) (xCons (xOp2 dSub (xC (.int 0)) (xOp2 dIx (xVar 1) (xC (.int 1)))) xNil))) xNil))))))
noncomputable def f_at_nought : DF := runP [true] 2 true b_at_nought
/-! is_near -/
noncomputable def b_is_near : XS := (xRet (xOrV (xOp2 dEq (xVar 0) (xC (.int 8))) (xOrV (xOp2 dEq (xVar 1) (xC (.int 0))) (xOrV (xOp2 dEq (xVar 2) (xC (.int 0))) (xAndV (xOp2 dEq (xVar 0) (xC (.int 6))) (xOp2 dEq (xVar 1) (xVar 2)))))))
noncomputable def f_is_near : DF := runP [false, false, false] 3 false b_is_near
/-! around -/
noncomputable def b_around_1 : XS := (xAppend 1 (xOpL dTup (xCons (xVar 2) (xCons (xVar 3) xNil))))
noncomputable def b_around_2 : XS := (xFor (xItR2 (xOp1 dNeg (xC (.int 1))) (xC (.int 2))) (gSet 3) b_around_1)
noncomputable def b_around : XS := (xSeq (xSetO 1 (xOpL dLst xNil))
    (xSeq (xFor (xItR2 (xOp1 dNeg (xC (.int 1))) (xC (.int 2))) (gSet 2) b_around_2)
    (xRet (xTake 1))))
noncomputable def f_around : DF := runP [] 4 true b_around
/-! offsets -/
noncomputable def b_offsets : XS := (xSeq (xSet 1 (xLC (xIt (xCall f_around xNil)) (gsTup 2 (gsCons (gSet 2) (gsCons (gSet 3) gsNil))) (xTest (xCall f_is_near (xCons (xVar 0) (xCons (xVar 2) (xCons (xVar 3) xNil))))) (xOpL dTup (xCons (xVar 2) (xCons (xVar 3) xNil))) [2, 3]))
    (xRet (xLC (xIt (xVar 1)) (gSet 4) (xTest (xOp2 dNe (xVar 4) (xOpL dTup (xCons (xC (.int 0)) (xCons (xC (.int 0)) xNil))))) (xVar 4) [4])))
noncomputable def f_offsets : DF := runP [false] 5 true b_offsets
/-! is_quiet -/
noncomputable def b_is_quiet : XS := (xRet (xOp2 dNotInX (xC (.int 0)) (xOp2 dIx (xVar 0) (xC (.int 1)))))
noncomputable def f_is_quiet : DF := runP [false] 1 false b_is_quiet
/-! ask_quiet -/
noncomputable def b_ask_quiet : XS := (xIfS (xNot (xTest (xCall f_is_quiet (xCons (xVar 0) xNil))))
    (xRaise "Loud")
    xNext)
noncomputable def f_ask_quiet : DF := runP [false] 1 false b_ask_quiet
/-! comes -/
noncomputable def b_comes : XS := (xSeq (xIfS (xTest (xVar 1))
    (xRet (xOp2 dInX (xVar 2) (xOp2 dIx (xVar 0) (xC (.int 2)))))
    xNext)
    (xRet (xOp2 dInX (xVar 2) (xOp2 dIx (xVar 0) (xC (.int 1))))))
noncomputable def f_comes : DF := runP [false, false, false] 3 false b_comes
/-! counts -/
noncomputable def b_counts_1 : XS := (xSeq (xSet 8 (xOpL dTup (xCons (xOp2 dAdd (xVar 4) (xVar 6)) (xCons (xOp2 dAdd (xVar 5) (xVar 7)) xNil))))
    (xDPut 3 (xVar 8) (xOp2 dAdd (xDGet2 3 (xVar 8) (xC (.int 0))) (xC (.int 1)))))
noncomputable def b_counts_2 : XS := (xFor (xIt (xVar 2)) (gsTup 2 (gsCons (gSet 6) (gsCons (gSet 7) gsNil))) b_counts_1)
noncomputable def b_counts : XS := (xSeq (xSet 2 (xCall f_offsets (xCons (xVar 0) xNil)))
    (xSeq (xSetO 3 (xC (.dicT false [])))
    (xSeq (xFor (xItO 1) (gsTup 2 (gsCons (gSet 4) (gsCons (gSet 5) gsNil))) b_counts_2)
    (xRet (xTake 3)))))
noncomputable def f_counts : DF := runP [false, true] 9 true b_counts
/-! next_turn -/
noncomputable def b_next_turn_1 : XS := (xDPut 3 (xVar 4) (xC (.bl true)))
noncomputable def b_next_turn : XS := (xSeq (xDrop (xCall f_ask_quiet (xCons (xVar 0) xNil)))
    (xSeq (xSet 2 (xCall f_counts (xCons (xOp2 dIx (xVar 0) (xC (.int 0))) (xConsR (xVar 1) xNil))))
    (xSeq (xSetO 3 (xC (.dicT false [])))
    (xSeq (xFor (xIt (xVar 1)) (gSet 4) b_next_turn_1)
    (xSeq (xSet 5 (xOp1 dSSG (xOp2 dAdd (xKeysV (xVar 2)) (xVar 1))))
    (xRet (xLC (xIt (xVar 5)) (gSet 4) (xTest (xCall f_comes (xCons (xVar 0) (xCons (xCmpO dInX (xVar 4) 3) (xCons (xDGetV (xVar 2) (xVar 4) (xC (.int 0))) xNil))))) (xVar 4) [4])))))))
noncomputable def f_next_turn : DF := runP [false, false] 6 true b_next_turn
/-! step_to -/
noncomputable def b_step_to : XS := (xRet (xOpL dTup (xCons (xOp2 dSub (xOp2 dIx (xOp2 dIx (xVar 1) (xC (.int 0))) (xC (.int 0))) (xOp2 dIx (xOp2 dIx (xVar 0) (xC (.int 0))) (xC (.int 0)))) (xCons (xOp2 dSub (xOp2 dIx (xOp2 dIx (xVar 1) (xC (.int 0))) (xC (.int 1))) (xOp2 dIx (xOp2 dIx (xVar 0) (xC (.int 0))) (xC (.int 1)))) xNil))))
noncomputable def f_step_to : DF := runP [false, false] 2 false b_step_to
/-! fate -/
noncomputable def b_fate_1 : XS := (xSeq (xIfS (xTest (xOp2 (dCmp fun i j => decide (j < i)) (xVar 5) (xC (.int 0))))
    (xSet 3 (xCall f_next_turn (xCons (xVar 0) (xCons (xVar 3) xNil))))
    xNext)
    (xSeq (xIfS (xTest (xOp2 dEq (xVar 3) (xOpL dLst xNil)))
    (xRet (xOpL dTup (xCons (xC (.str "gone")) (xCons (xVar 5) xNil))))
    xNext)
    (xSeq (xSet 6 (xOpL dTuple (xCons (xCall f_at_nought (xConsR (xVar 3) xNil)) xNil)))
    (xSeq (xIfS (xTest (xCmpO dInN (xVar 6) 4))
    (xSeq (xAsg (xNIx 4 (xVar 6)) (gsTup 2 (gsCons (gSet 7) (gsCons (gSet 8) gsNil))))
    (xRet (xOpL dTup (xCons (xC (.str "comes")) (xCons (xVar 7) (xCons (xOp2 dSub (xVar 5) (xVar 7)) (xCons (xCall f_step_to (xCons (xVar 8) (xCons (xVar 3) xNil))) xNil)))))))
    xNext)
    (xNPut 4 (xVar 6) (xOpL dTup (xCons (xVar 5) (xCons (xVar 3) xNil))))))))
noncomputable def b_fate : XS := (xSeq (xDrop (xCall f_ask_quiet (xCons (xVar 0) xNil)))
    (xSeq (xSet 3 (xOpL dList (xCons (xVar 1) xNil)))
    (xSeq (xSetO 4 (xC (.dicN false [])))
    (xSeq (xFor (xItR1 (xOp2 dAdd (xVar 2) (xC (.int 1)))) (gSet 5) b_fate_1)
    (xRet (xOpL dTup (xCons (xC (.str "on")) xNil)))))))
noncomputable def f_fate : DF := runP [false, false, false] 9 false b_fate
/-! word_of -/
noncomputable def b_word_of : XS := (xSeq (xIfS (xTest (xOp2 dNe (xOp2 dIx (xVar 0) (xC (.int 0))) (xC (.str "comes"))))
    (xRet (xOp2 dIx (xVar 0) (xC (.int 0))))
    xNext)
    (xSeq (xIfS (xTest (xOp2 dNe (xOp2 dIx (xVar 0) (xC (.int 3))) (xOpL dTup (xCons (xC (.int 0)) (xCons (xC (.int 0)) xNil)))))
    (xRet (xC (.str "goes")))
    xNext)
    (xSeq (xIfS (xTest (xOp2 dEq (xOp2 dIx (xVar 0) (xC (.int 2))) (xC (.int 1))))
    (xRet (xC (.str "rests")))
    xNext)
    (xRet (xC (.str "again"))))))
noncomputable def f_word_of : DF := runP [false] 1 false b_word_of
/-! _law_pen -/
noncomputable def b_law_pen : XS := (xSeq (xSet 2 (xOp2 dAdd (xOp2 dMul (xC (.int 7919)) (xVar 1)) (xC (.int 5))))
    (xSeq (xIfS (xTest (xOp2 dLt (xVar 1) (xOpL dLen (xCons (xVar 0) xNil))))
    (xSet 2 (xOp2 dIx (xVar 0) (xVar 1)))
    (xIfS (xTest (xOp2 (dCmp fun i j => decide (j < i)) (xOpL dLen (xCons (xVar 0) xNil)) (xC (.int 0))))
    (xSet 2 (xOp2 dAdd (xOp2 dMod (xOp2 dIx (xVar 0) (xOp2 dMod (xVar 1) (xOpL dLen (xCons (xVar 0) xNil)))) (xC (.int 2147483629))) (xOp2 dMul (xC (.int 48271)) (xVar 1))))
    xNext))
    (xSeq (xIfS (xTest (xOp2 (dCmp fun i j => decide (j ≤ i)) (xVar 2) (xOp2 dPow (xC (.int 10)) (xC (.int 18)))))
    (xRet (xOpL dLst (xCons (xOp2 dSub (xVar 2) (xOp2 dPow (xC (.int 10)) (xC (.int 18)))) (xCons (xOp2 dMod (xVar 2) (xC (.int 2147483587))) (xCons (xC (.int 0)) xNil)))))
    xNext)
    (xRet (xOpL dLst (xCons (xC (.int 0)) (xCons (xOp2 dMod (xVar 2) (xC (.int 2147483587))) (xCons (xC (.int 0)) xNil))))))))
noncomputable def f_law_pen : DF := runP [false, false] 3 true b_law_pen
/-! _law_draw -/
noncomputable def b_law_draw : XS := (xSeq (xSetIx 0 (xC (.int 2)) (xOp2 dAdd (xIxO 0 (xC (.int 2))) (xC (.int 1))))
    (xSeq (xIfS (xTest (xOp2 (dCmp fun i j => decide (j < i)) (xIxO 0 (xC (.int 0))) (xC (.int 0))))
    (xSeq (xSet 2 (xOp2 dMod (xIxO 0 (xC (.int 0))) (xVar 1)))
    (xSeq (xSetIx 0 (xC (.int 0)) (xOp2 dDiv (xIxO 0 (xC (.int 0))) (xVar 1)))
    (xRet (xVar 2))))
    xNext)
    (xSeq (xSet 3 (xOp2 dMod (xOp2 dAdd (xOp2 dAdd (xIxO 0 (xC (.int 1))) (xOp2 dMul (xC (.int 48271)) (xIxO 0 (xC (.int 2))))) (xC (.int 11))) (xC (.int 2147483629))))
    (xSeq (xSet 3 (xOp2 dAdd (xOp2 dMod (xOp2 dMul (xVar 3) (xVar 3)) (xC (.int 2147483587))) (xOp2 dMul (xC (.int 7919)) (xIxO 0 (xC (.int 2))))))
    (xSeq (xSet 3 (xOp2 dMod (xOp2 dMul (xVar 3) (xVar 3)) (xC (.int 2147483629))))
    (xRet (xOp2 dMod (xOp2 dDiv (xVar 3) (xC (.int 64))) (xVar 1))))))))
noncomputable def f_law_draw : DF := runB [false] 4 false b_law_draw
/-! _law_number -/
noncomputable def b_law_number : XS := (xSeq (xSet 1 (xCallB f_law_draw 0 (xCons (xC (.int 12)) xNil)))
    (xSeq (xIfS (xTest (xOp2 dLt (xVar 1) (xC (.int 9))))
    (xRet (xOp2 dSub (xCallB f_law_draw 0 (xCons (xC (.int 9)) xNil)) (xC (.int 4))))
    xNext)
    (xSeq (xIfS (xTest (xOp2 dEq (xVar 1) (xC (.int 9))))
    (xRet (xOp2 dSub (xCallB f_law_draw 0 (xCons (xOp2 dPow (xC (.int 10)) (xC (.int 9))) xNil)) (xOp2 dMul (xC (.int 5)) (xOp2 dPow (xC (.int 10)) (xC (.int 8))))))
    xNext)
    (xRet (xOp2 dMul (xOp2 dSub (xOp2 dSub (xOp2 dPow (xC (.int 10)) (xC (.int 60))) (xC (.int 30))) (xCallB f_law_draw 0 (xCons (xC (.int 3)) xNil))) (xOp2 dSub (xC (.int 1)) (xOp2 dMul (xC (.int 2)) (xCallB f_law_draw 0 (xCons (xC (.int 2)) xNil)))))))))
noncomputable def f_law_number : DF := runB [] 2 false b_law_number
/-! _law_rule -/
noncomputable def b_law_rule : XS := (xSeq (xSet 1 (xOp2 dIx (xOpL dLst (xCons (xC (.int 4)) (xCons (xC (.int 6)) (xCons (xC (.int 8)) xNil)))) (xCallB f_law_draw 0 (xCons (xC (.int 3)) xNil))))
    (xSeq (xIfS (xTest (xOp2 dEq (xCallB f_law_draw 0 (xCons (xC (.int 2)) xNil)) (xC (.int 0))))
    (xSeq (xSet 2 (xDIxV (xDisp [((xC (.int 4)), (xOpL dLst (xCons (xOpL dTup (xCons (xC (.int 1)) xNil)) (xCons (xOpL dTup (xCons (xC (.int 2)) xNil)) (xCons (xOpL dTup (xCons (xC (.int 1)) (xCons (xC (.int 2)) xNil))) xNil))))), ((xC (.int 6)), (xOpL dLst (xCons (xOpL dTup (xCons (xC (.int 2)) xNil)) (xCons (xOpL dTup (xCons (xC (.int 2)) (xCons (xC (.int 3)) xNil))) (xCons (xOpL dTup (xCons (xC (.int 2)) (xCons (xC (.int 6)) xNil))) xNil))))), ((xC (.int 8)), (xOpL dLst (xCons (xOpL dTup (xCons (xC (.int 3)) xNil)) (xCons (xOpL dTup (xCons (xC (.int 2)) xNil)) (xCons (xOpL dTup (xCons (xC (.int 3)) (xCons (xC (.int 6)) xNil))) xNil)))))]) (xVar 1)))
    (xSeq (xSet 3 (xDIxV (xDisp [((xC (.int 4)), (xOpL dLst (xCons (xOpL dTup xNil) (xCons (xOpL dTup (xCons (xC (.int 1)) (xCons (xC (.int 2)) xNil))) (xCons (xOpL dTup (xCons (xC (.int 2)) (xCons (xC (.int 3)) xNil))) xNil))))), ((xC (.int 6)), (xOpL dLst (xCons (xOpL dTup (xCons (xC (.int 3)) (xCons (xC (.int 4)) xNil))) (xCons (xOpL dTup xNil) (xCons (xOpL dTup (xCons (xC (.int 2)) xNil)) xNil))))), ((xC (.int 8)), (xOpL dLst (xCons (xOpL dTup (xCons (xC (.int 2)) (xCons (xC (.int 3)) xNil))) (xCons (xOpL dTup xNil) (xCons (xOpL dTup (xCons (xC (.int 2)) (xCons (xC (.int 3)) xNil))) xNil)))))]) (xVar 1)))
    (xRet (xOpL dTup (xCons (xVar 1) (xCons (xOp2 dIx (xVar 2) (xCallB f_law_draw 0 (xCons (xC (.int 3)) xNil))) (xCons (xOp2 dIx (xVar 3) (xCallB f_law_draw 0 (xCons (xC (.int 3)) xNil))) xNil)))))))
    xNext)
    (xSeq (xSet 2 (xOpL dTuple (xCons (xLC (xItR2 (xC (.int 1)) (xOp2 dAdd (xVar 1) (xC (.int 1)))) (gSet 4) (xTest (xOp2 dEq (xCallB f_law_draw 0 (xCons (xC (.int 2)) xNil)) (xC (.int 0)))) (xVar 4) [4]) xNil)))
    (xRet (xOpL dTup (xCons (xVar 1) (xCons (xVar 2) (xCons (xOpL dTuple (xCons (xLC (xItR1 (xOp2 dAdd (xVar 1) (xC (.int 1)))) (gSet 4) (xTest (xOp2 dEq (xCallB f_law_draw 0 (xCons (xC (.int 2)) xNil)) (xC (.int 0)))) (xVar 4) [4]) xNil)) xNil))))))))
noncomputable def f_law_rule : DF := runB [] 5 false b_law_rule
/-! _law_cells -/
noncomputable def b_law_cells_1 : XS := (xSeq (xSet 6 (xOpL dTup (xCons (xCallB f_law_draw 0 (xCons (xVar 4) xNil)) (xCons (xCallB f_law_draw 0 (xCons (xVar 4) xNil)) xNil))))
    (xIfS (xTest (xCmpO dNotInX (xVar 6) 5))
    (xAppend 5 (xVar 6))
    xNext))
noncomputable def b_law_cells : XS := (xSeq (xSet 1 (xCallB f_law_draw 0 (xCons (xC (.int 4)) xNil)))
    (xSeq (xIfS (xTest (xOp2 dEq (xVar 1) (xC (.int 0))))
    (xRet (xLC (xItR1 (xC (.int 9))) (gSet 2) (xTest (xOp2 dEq (xCallB f_law_draw 0 (xCons (xC (.int 2)) xNil)) (xC (.int 0)))) (xOpL dTup (xCons (xOp2 dDiv (xVar 2) (xC (.int 3))) (xCons (xOp2 dMod (xVar 2) (xC (.int 3))) xNil))) [2]))
    xNext)
    (xSeq (xIfS (xTest (xOp2 dEq (xVar 1) (xC (.int 1))))
    (xSeq (xSet 3 (xOpL dLst (xCons (xOpL dTup (xCons (xC (.int 0)) (xCons (xC (.int 2)) xNil))) (xCons (xOpL dTup (xCons (xC (.int 1)) (xCons (xC (.int 0)) xNil))) (xCons (xOpL dTup (xCons (xC (.int 1)) (xCons (xC (.int 2)) xNil))) (xCons (xOpL dTup (xCons (xC (.int 2)) (xCons (xC (.int 1)) xNil))) (xCons (xOpL dTup (xCons (xC (.int 2)) (xCons (xC (.int 2)) xNil))) xNil)))))))
    (xRet (xOp2 dIx (xOpL dLst (xCons (xVar 3) (xCons (xOpL dLst (xCons (xOpL dTup (xCons (xC (.int 0)) (xCons (xC (.int 0)) xNil))) (xCons (xOpL dTup (xCons (xC (.int 1)) (xCons (xC (.int 0)) xNil))) (xCons (xOpL dTup (xCons (xC (.int 2)) (xCons (xC (.int 0)) xNil))) xNil)))) (xCons (xOpL dLst (xCons (xOpL dTup (xCons (xC (.int 0)) (xCons (xC (.int 0)) xNil))) (xCons (xOpL dTup (xCons (xC (.int 0)) (xCons (xC (.int 1)) xNil))) (xCons (xOpL dTup (xCons (xC (.int 1)) (xCons (xC (.int 0)) xNil))) (xCons (xOpL dTup (xCons (xC (.int 1)) (xCons (xC (.int 1)) xNil))) xNil))))) (xCons (xOpL dLst xNil) xNil))))) (xCallB f_law_draw 0 (xCons (xC (.int 4)) xNil)))))
    xNext)
    (xSeq (xSet 4 (xOp2 dAdd (xC (.int 1)) (xCallB f_law_draw 0 (xCons (xC (.int 5)) xNil))))
    (xSeq (xSetO 5 (xOpL dLst xNil))
    (xSeq (xFor (xItR1 (xCallB f_law_draw 0 (xCons (xC (.int 11)) xNil))) (gSet 2) b_law_cells_1)
    (xRet (xOpL dSorted (xConsO 5 xNil)))))))))
noncomputable def f_law_cells : DF := runB [] 7 false b_law_cells
/-! _law_picture -/
noncomputable def b_law_picture : XS := (xSeq (xSet 1 (xCallB f_law_cells 0 xNil))
    (xSeq (xSet 2 (xCallB f_law_number 0 xNil))
    (xSeq (xSet 3 (xCallB f_law_number 0 xNil))
    (xRet (xLC (xIt (xVar 1)) (gsTup 2 (gsCons (gSet 4) (gsCons (gSet 5) gsNil))) xYes (xOpL dTup (xCons (xOp2 dAdd (xVar 4) (xVar 2)) (xCons (xOp2 dAdd (xVar 5) (xVar 3)) xNil))) [4, 5])))))
noncomputable def f_law_picture : DF := runB [] 6 true b_law_picture
/-! _law_steps -/
noncomputable def b_law_steps : XS := (xSeq (xSet 1 (xOpL dLst (xCons (xOpL dTup (xCons (xC (.int 0)) (xCons (xOp1 dNeg (xC (.int 1))) xNil))) (xCons (xOpL dTup (xCons (xOp1 dNeg (xC (.int 1))) (xCons (xC (.int 0)) xNil))) (xCons (xOpL dTup (xCons (xC (.int 1)) (xCons (xC (.int 0)) xNil))) (xCons (xOpL dTup (xCons (xC (.int 0)) (xCons (xC (.int 1)) xNil))) xNil))))))
    (xSeq (xIfS (xTest (xOp2 (dCmp fun i j => decide (j < i)) (xVar 0) (xC (.int 4))))
    (xSet 1 (xOp2 dAdd (xVar 1) (xOpL dLst (xCons (xOpL dTup (xCons (xOp1 dNeg (xC (.int 1))) (xCons (xOp1 dNeg (xC (.int 1))) xNil))) (xCons (xOpL dTup (xCons (xC (.int 1)) (xCons (xC (.int 1)) xNil))) xNil)))))
    xNext)
    (xSeq (xIfS (xTest (xOp2 dEq (xVar 0) (xC (.int 8))))
    (xSet 1 (xOp2 dAdd (xVar 1) (xOpL dLst (xCons (xOpL dTup (xCons (xOp1 dNeg (xC (.int 1))) (xCons (xC (.int 1)) xNil))) (xCons (xOpL dTup (xCons (xC (.int 1)) (xCons (xOp1 dNeg (xC (.int 1))) xNil))) xNil)))))
    xNext)
    (xRet (xVar 1)))))
noncomputable def f_law_steps : DF := runP [false] 2 false b_law_steps
/-! _law_next -/
noncomputable def b_law_next_1 : XS := (xSeq (xSet 5 (xOpL dTup (xCons (xOp2 dAdd (xOp2 dIx (xVar 3) (xC (.int 0))) (xOp2 dIx (xVar 4) (xC (.int 0)))) (xCons (xOp2 dAdd (xOp2 dIx (xVar 3) (xC (.int 1))) (xOp2 dIx (xVar 4) (xC (.int 1)))) xNil))))
    (xDPut 2 (xVar 5) (xOp2 dAdd (xDGet2 2 (xVar 5) (xC (.int 0))) (xC (.int 1)))))
noncomputable def b_law_next_2 : XS := (xSeq (xDPut 2 (xVar 3) (xDGet2 2 (xVar 3) (xC (.int 0))))
    (xFor (xIt (xCall f_law_steps (xCons (xOp2 dIx (xVar 0) (xC (.int 0))) xNil))) (gSet 4) b_law_next_1))
noncomputable def b_law_next_3 : XS := (xDPut 6 (xVar 3) (xC (.bl true)))
noncomputable def b_law_next : XS := (xSeq (xSetO 2 (xC (.dicT false [])))
    (xSeq (xFor (xIt (xVar 1)) (gSet 3) b_law_next_2)
    (xSeq (xSetO 6 (xC (.dicT false [])))
    (xSeq (xFor (xIt (xVar 1)) (gSet 3) b_law_next_3)
    (xRet (xOpL dSorted (xCons (frzV 2 (lockV 2 (xLC (xItK 2) (gSet 3) (xTest (xOp2 dInX (xDIx 2 (xVar 3)) (xOp2 dIx (xVar 0) (xOp2 dAdd (xC (.int 1)) (xOpL dInt (xCons (xCmpO dInX (xVar 3) 6) xNil)))))) (xVar 3) [3]))) xNil)))))))
noncomputable def f_law_next : DF := runP [false, false] 7 true b_law_next
/-! _law_is_refused -/
noncomputable def b_law_is_refused_1 : XS := (xDrop (xCall f_fate (xCons (xVar 0) (xCons (xVar 1) (xCons (xVar 2) xNil)))))
noncomputable def e_law_is_refused_2 : String → Addr → XS := fun k a => (xSeq (xSet 5 (xIsE a 4 (isX k ["Folded", "NoLine", "NoName", "NoNumber", "NoRest", "NoRule", "NoSize", "NoText", "NoThing", "Outside"])))
    (xSet 3 (xOpL dTup (xCons (xIsE a 4 (isX k ["Loud"])) (xCons (xIsE a 4 (isX k ["ValueError"])) (xCons (xOrV (xVar 5) (xIsE a 4 (isX k ["TooWide"]))) xNil))))))
noncomputable def b_law_is_refused : XS := (xSeq (xSet 3 (xOpL dTup xNil))
    (xSeq (xTry 4 ["Loud"] (fun k => isX k ["CellError"]) b_law_is_refused_1 e_law_is_refused_2)
    (xRet (xOp2 dEq (xVar 3) (xOpL dTup (xCons (xC (.bl true)) (xCons (xC (.bl true)) (xCons (xC (.bl false)) xNil))))))))
noncomputable def f_law_is_refused : DF := runP [false, false, false] 6 false b_law_is_refused
/-! _law_due -/
noncomputable def b_law_due : XS := (xSeq (xIfS (xTest (xOp2 dEq (xVar 1) (xOpL dLst xNil)))
    (xRet (xOpL dTup (xCons (xC (.str "gone")) (xCons (xC (.int 0)) xNil))))
    xNext)
    (xSeq (xIfS (xTest (xOp2 dEq (xVar 2) (xC (.int 0))))
    (xRet (xOpL dTup (xCons (xC (.str "on")) xNil)))
    xNext)
    (xSeq (xSet 3 (xCall f_law_next (xCons (xVar 0) (xCons (xVar 1) xNil))))
    (xSeq (xIfS (xTest (xOp2 dEq (xVar 3) (xOpL dLst xNil)))
    (xRet (xOpL dTup (xCons (xC (.str "gone")) (xCons (xC (.int 1)) xNil))))
    xNext)
    (xSeq (xSet 4 (xOpL dTup (xCons (xOp2 dSub (xOp2 dIx (xOp2 dIx (xVar 3) (xC (.int 0))) (xC (.int 0))) (xOp2 dIx (xOp2 dIx (xVar 1) (xC (.int 0))) (xC (.int 0)))) (xCons (xOp2 dSub (xOp2 dIx (xOp2 dIx (xVar 3) (xC (.int 0))) (xC (.int 1))) (xOp2 dIx (xOp2 dIx (xVar 1) (xC (.int 0))) (xC (.int 1)))) xNil))))
    (xSeq (xIfS (xTest (xOp2 dEq (xLC (xIt (xVar 1)) (gsTup 2 (gsCons (gSet 5) (gsCons (gSet 6) gsNil))) xYes (xOpL dTup (xCons (xOp2 dAdd (xVar 5) (xOp2 dIx (xVar 4) (xC (.int 0)))) (xCons (xOp2 dAdd (xVar 6) (xOp2 dIx (xVar 4) (xC (.int 1)))) xNil))) [5, 6]) (xVar 3)))
    (xRet (xOpL dTup (xCons (xC (.str "comes")) (xCons (xC (.int 0)) (xCons (xC (.int 1)) (xCons (xVar 4) xNil))))))
    xNext)
    (xRet (xOpL dTup (xCons (xC (.str "on")) xNil)))))))))
noncomputable def f_law_due : DF := runP [false, false, false] 7 false b_law_due
/-! _law_word -/
noncomputable def b_law_word : XS := (xSeq (xIfS (xTest (xOp2 dNe (xOp2 dIx (xVar 0) (xC (.int 0))) (xC (.str "comes"))))
    (xRet (xOp2 dIx (xVar 0) (xC (.int 0))))
    xNext)
    (xSeq (xIfS (xOr (xTest (xOp2 dNe (xOp2 dIx (xOp2 dIx (xVar 0) (xC (.int 3))) (xC (.int 0))) (xC (.int 0)))) (xTest (xOp2 dNe (xOp2 dIx (xOp2 dIx (xVar 0) (xC (.int 3))) (xC (.int 1))) (xC (.int 0)))))
    (xRet (xC (.str "goes")))
    xNext)
    (xRet (xOp2 dIx (xOpL dLst (xCons (xC (.str "again")) (xCons (xC (.str "rests")) xNil))) (xOpL dInt (xCons (xOp2 dEq (xOp2 dIx (xVar 0) (xC (.int 2))) (xC (.int 1))) xNil))))))
noncomputable def f_law_word : DF := runP [false] 1 false b_law_word
/-! _law_are_whole -/
noncomputable def b_law_are_whole : XS := (xSeq (xSet 1 (xOpL dList (xCons (xSl dSlT (xVar 0) (xpSome (xC (.int 1))) (xpSome (xC (.int 3)))) xNil)))
    (xSeq (xIfS (xTest (xOp2 dEq (xOpL dLen (xCons (xVar 0) xNil)) (xC (.int 4))))
    (xSeq (xIfS (xOr (xNot (xTest (xOpL dIsi (xCons (xOp2 dIx (xVar 0) (xC (.int 3))) (xCons (xC (.ty "tuple")) xNil))))) (xTest (xOp2 dNe (xOpL dLen (xCons (xOp2 dIx (xVar 0) (xC (.int 3))) xNil)) (xC (.int 2)))))
    (xRet (xC (.bl false)))
    xNext)
    (xSet 1 (xOp2 dAdd (xVar 1) (xOpL dList (xCons (xOp2 dIx (xVar 0) (xC (.int 3))) xNil)))))
    xNext)
    (xRet (xOp2 dEq (xLC (xIt (xVar 1)) (gSet 2) (xOr (xNot (xTest (xOpL dIsi (xCons (xVar 2) (xCons (xC (.ty "int")) xNil))))) (xTest (xOpL dIsi (xCons (xVar 2) (xCons (xC (.ty "bool")) xNil))))) (xVar 2) [2]) (xOpL dLst xNil)))))
noncomputable def f_law_are_whole : DF := runP [false] 3 false b_law_are_whole
/-! _law_built -/
noncomputable def b_law_built : XS := (xSeq (xSet 1 (xCallB f_law_draw 0 (xCons (xC (.int 6)) xNil)))
    (xSeq (xIfS (xTest (xOp2 dEq (xVar 1) (xC (.int 0))))
    (xRet (xOpL dTup (xCons (xC (.str "on")) xNil)))
    xNext)
    (xSeq (xIfS (xTest (xOp2 dEq (xVar 1) (xC (.int 1))))
    (xRet (xOpL dTup (xCons (xC (.str "gone")) (xCons (xOpL dAbs (xCons (xCallB f_law_number 0 xNil) xNil)) xNil))))
    xNext)
    (xSeq (xSet 2 (xOpL dTup (xCons (xCallB f_law_number 0 xNil) (xCons (xCallB f_law_number 0 xNil) xNil))))
    (xSeq (xIfS (xTest (xOp2 dEq (xCallB f_law_draw 0 (xCons (xC (.int 2)) xNil)) (xC (.int 0))))
    (xSet 2 (xOp2 dIx (xOpL dLst (xCons (xOpL dTup (xCons (xC (.int 0)) (xCons (xC (.int 0)) xNil))) (xCons (xOpL dTup (xCons (xC (.int 0)) (xCons (xOp2 dIx (xVar 2) (xC (.int 1))) xNil))) (xCons (xOpL dTup (xCons (xOp2 dIx (xVar 2) (xC (.int 0))) (xCons (xC (.int 0)) xNil))) xNil)))) (xCallB f_law_draw 0 (xCons (xC (.int 3)) xNil))))
    xNext)
    (xRet (xOpL dTup (xCons (xC (.str "comes")) (xCons (xOpL dAbs (xCons (xCallB f_law_number 0 xNil) xNil)) (xCons (xOp2 dIx (xOpL dLst (xCons (xC (.int 1)) (xCons (xC (.int 2)) (xCons (xOp2 dAdd (xC (.int 1)) (xOpL dAbs (xCons (xCallB f_law_number 0 xNil) xNil))) xNil)))) (xCallB f_law_draw 0 (xCons (xC (.int 3)) xNil))) (xCons (xVar 2) xNil)))))))))))
noncomputable def f_law_built : DF := runB [] 3 false b_law_built
/-! law -/
noncomputable def b_law_1 : XS := (xSeq (xSet 9 (xCall f_law_due (xCons (xVar 3) (xCons (xVar 4) (xCons (xVar 6) xNil)))))
    (xSeq (xSet 10 (xCall f_fate (xCons (xVar 3) (xCons (xVar 5) (xCons (xVar 6) xNil)))))
    (xSeq (xIfS (xOr (xNot (xTest (xOpL dIsi (xCons (xVar 10) (xCons (xC (.ty "tuple")) xNil))))) (xOr (xTest (xOp2 dNe (xVar 10) (xVar 9))) (xOr (xNot (xTest (xCall f_law_are_whole (xCons (xVar 10) xNil)))) (xTest (xOp2 dNe (xVar 5) (xVar 4))))))
    (xRet (xC (.bl false)))
    xNext)
    (xIfS (xTest (xOp2 dNe (xCall f_word_of (xCons (xVar 10) xNil)) (xCall f_law_word (xCons (xVar 9) xNil))))
    (xRet (xC (.bl false)))
    xNext))))
noncomputable def b_law_2 : XS := (xSeq (xSet 9 (xCallB f_law_built 2 xNil))
    (xIfS (xTest (xOp2 dNe (xCall f_word_of (xCons (xVar 9) xNil)) (xCall f_law_word (xCons (xVar 9) xNil))))
    (xRet (xC (.bl false)))
    xNext))
noncomputable def b_law_3 : XS := (xSeq (xSetO 2 (xCall f_law_pen (xCons (xVar 0) (xCons (xVar 1) xNil))))
    (xSeq (xSet 3 (xCallB f_law_rule 2 xNil))
    (xSeq (xSet 4 (xCallB f_law_picture 2 xNil))
    (xSeq (xSet 5 (xOpL dList (xCons (xVar 4) xNil)))
    (xSeq (xFor (xIt (xOpL dLst (xCons (xC (.int 0)) (xCons (xC (.int 1)) (xCons (xC (.int 0)) (xCons (xC (.int 1)) xNil)))))) (gSet 6) b_law_1)
    (xSeq (xFor (xItR1 (xC (.int 4))) (gSet 7) b_law_2)
    (xSeq (xSet 8 (xOpL dTup (xCons (xOp2 dIx (xVar 3) (xC (.int 0))) (xCons (xOp2 dAdd (xOpL dTup (xCons (xC (.int 0)) xNil)) (xOp2 dIx (xVar 3) (xC (.int 1)))) (xCons (xOp2 dIx (xVar 3) (xC (.int 2))) xNil)))))
    (xIfS (xOr (xNot (xTest (xCall f_law_is_refused (xCons (xVar 8) (xCons (xVar 4) (xCons (xC (.int 1)) xNil)))))) (xNot (xTest (xCall f_law_is_refused (xCons (xVar 8) (xCons (xOpL dLst xNil) (xCons (xC (.int 0)) xNil)))))))
    (xRet (xC (.bl false)))
    xNext))))))))
noncomputable def b_law : XS := (xSeq (xFor (xItR1 (xC (.int 3))) (gSet 1) b_law_3)
    (xRet (xC (.bl true))))
noncomputable def f_law : DF := runP [false] 11 false b_law
structure Ad where
  a_moved : Addr
  d_moved : FuncData
  a_box_of : Addr
  d_box_of : FuncData
  a_at_nought : Addr
  d_at_nought : FuncData
  a_is_near : Addr
  d_is_near : FuncData
  a_offsets : Addr
  d_offsets : FuncData
  a_around : Addr
  d_around : FuncData
  a_is_quiet : Addr
  d_is_quiet : FuncData
  a_ask_quiet : Addr
  d_ask_quiet : FuncData
  a_comes : Addr
  d_comes : FuncData
  a_counts : Addr
  d_counts : FuncData
  a_next_turn : Addr
  d_next_turn : FuncData
  a_step_to : Addr
  d_step_to : FuncData
  a_fate : Addr
  d_fate : FuncData
  a_word_of : Addr
  d_word_of : FuncData
  a_law_pen : Addr
  d_law_pen : FuncData
  a_law_draw : Addr
  d_law_draw : FuncData
  a_law_number : Addr
  d_law_number : FuncData
  a_law_rule : Addr
  d_law_rule : FuncData
  a_law_cells : Addr
  d_law_cells : FuncData
  a_law_picture : Addr
  d_law_picture : FuncData
  a_law_steps : Addr
  d_law_steps : FuncData
  a_law_next : Addr
  d_law_next : FuncData
  a_law_is_refused : Addr
  d_law_is_refused : FuncData
  a_law_due : Addr
  d_law_due : FuncData
  a_law_word : Addr
  d_law_word : FuncData
  a_law_are_whole : Addr
  d_law_are_whole : FuncData
  a_law_built : Addr
  d_law_built : FuncData
  a_law : Addr
  d_law : FuncData
  c_Loud : Addr
  c_CellError : Addr
  c_Folded : Addr
  c_NoLine : Addr
  c_NoName : Addr
  c_NoNumber : Addr
  c_NoRest : Addr
  c_NoRule : Addr
  c_NoSize : Addr
  c_NoText : Addr
  c_NoThing : Addr
  c_Outside : Addr
  c_TooWide : Addr
structure Txt (K : PySem.W.Frag) (mg : Str → Option Value) (cv : String → Value) (A : Ad) : Prop where
  F_moved : Fun K "moved" "moved" s_moved A.a_moved A.d_moved
  B_moved : Binds K A.d_moved ["live", "move"] []
  M_moved : mg "moved" = some (.ref A.a_moved)
  F_box_of : Fun K "box_of" "box_of" s_box_of A.a_box_of A.d_box_of
  B_box_of : Binds K A.d_box_of ["live"] []
  M_box_of : mg "box_of" = some (.ref A.a_box_of)
  F_at_nought : Fun K "at_nought" "at_nought" s_at_nought A.a_at_nought A.d_at_nought
  B_at_nought : Binds K A.d_at_nought ["live"] []
  M_at_nought : mg "at_nought" = some (.ref A.a_at_nought)
  F_is_near : Fun K "is_near" "is_near" s_is_near A.a_is_near A.d_is_near
  B_is_near : Binds K A.d_is_near ["kind", "dx", "dy"] []
  M_is_near : mg "is_near" = some (.ref A.a_is_near)
  F_offsets : Fun K "offsets" "offsets" s_offsets A.a_offsets A.d_offsets
  B_offsets : Binds K A.d_offsets ["kind"] []
  M_offsets : mg "offsets" = some (.ref A.a_offsets)
  F_around : Fun K "around" "around" s_around A.a_around A.d_around
  B_around : Binds K A.d_around [] []
  M_around : mg "around" = some (.ref A.a_around)
  F_is_quiet : Fun K "is_quiet" "is_quiet" s_is_quiet A.a_is_quiet A.d_is_quiet
  B_is_quiet : Binds K A.d_is_quiet ["told"] []
  M_is_quiet : mg "is_quiet" = some (.ref A.a_is_quiet)
  F_ask_quiet : Fun K "ask_quiet" "ask_quiet" s_ask_quiet A.a_ask_quiet A.d_ask_quiet
  B_ask_quiet : Binds K A.d_ask_quiet ["told"] []
  M_ask_quiet : mg "ask_quiet" = some (.ref A.a_ask_quiet)
  F_comes : Fun K "comes" "comes" s_comes A.a_comes A.d_comes
  B_comes : Binds K A.d_comes ["told", "alive", "count"] []
  M_comes : mg "comes" = some (.ref A.a_comes)
  F_counts : Fun K "counts" "counts" s_counts A.a_counts A.d_counts
  B_counts : Binds K A.d_counts ["kind", "live"] []
  M_counts : mg "counts" = some (.ref A.a_counts)
  F_next_turn : Fun K "next_turn" "next_turn" s_next_turn A.a_next_turn A.d_next_turn
  B_next_turn : Binds K A.d_next_turn ["rule", "live"] []
  M_next_turn : mg "next_turn" = some (.ref A.a_next_turn)
  F_step_to : Fun K "step_to" "step_to" s_step_to A.a_step_to A.d_step_to
  B_step_to : Binds K A.d_step_to ["one", "other"] []
  M_step_to : mg "step_to" = some (.ref A.a_step_to)
  F_fate : Fun K "fate" "fate" s_fate A.a_fate A.d_fate
  B_fate : Binds K A.d_fate ["rule", "live", "most"] []
  M_fate : mg "fate" = some (.ref A.a_fate)
  F_word_of : Fun K "word_of" "word_of" s_word_of A.a_word_of A.d_word_of
  B_word_of : Binds K A.d_word_of ["told"] []
  M_word_of : mg "word_of" = some (.ref A.a_word_of)
  F_law_pen : Fun K "_law_pen" "_law_pen" s_law_pen A.a_law_pen A.d_law_pen
  B_law_pen : Binds K A.d_law_pen ["_law_script", "_law_k"] []
  M_law_pen : mg "_law_pen" = some (.ref A.a_law_pen)
  F_law_draw : Fun K "_law_draw" "_law_draw" s_law_draw A.a_law_draw A.d_law_draw
  B_law_draw : Binds K A.d_law_draw ["_law_pen_here", "_law_many"] []
  M_law_draw : mg "_law_draw" = some (.ref A.a_law_draw)
  F_law_number : Fun K "_law_number" "_law_number" s_law_number A.a_law_number A.d_law_number
  B_law_number : Binds K A.d_law_number ["_law_pen_here"] []
  M_law_number : mg "_law_number" = some (.ref A.a_law_number)
  F_law_rule : Fun K "_law_rule" "_law_rule" s_law_rule A.a_law_rule A.d_law_rule
  B_law_rule : Binds K A.d_law_rule ["_law_pen_here"] []
  M_law_rule : mg "_law_rule" = some (.ref A.a_law_rule)
  F_law_cells : Fun K "_law_cells" "_law_cells" s_law_cells A.a_law_cells A.d_law_cells
  B_law_cells : Binds K A.d_law_cells ["_law_pen_here"] []
  M_law_cells : mg "_law_cells" = some (.ref A.a_law_cells)
  F_law_picture : Fun K "_law_picture" "_law_picture" s_law_picture A.a_law_picture A.d_law_picture
  B_law_picture : Binds K A.d_law_picture ["_law_pen_here"] []
  M_law_picture : mg "_law_picture" = some (.ref A.a_law_picture)
  F_law_steps : Fun K "_law_steps" "_law_steps" s_law_steps A.a_law_steps A.d_law_steps
  B_law_steps : Binds K A.d_law_steps ["_law_kind"] []
  M_law_steps : mg "_law_steps" = some (.ref A.a_law_steps)
  F_law_next : Fun K "_law_next" "_law_next" s_law_next A.a_law_next A.d_law_next
  B_law_next : Binds K A.d_law_next ["_law_told", "_law_live"] []
  M_law_next : mg "_law_next" = some (.ref A.a_law_next)
  F_law_is_refused : Fun K "_law_is_refused" "_law_is_refused" s_law_is_refused A.a_law_is_refused A.d_law_is_refused
  B_law_is_refused : Binds K A.d_law_is_refused ["_law_told", "_law_live", "_law_most"] []
  M_law_is_refused : mg "_law_is_refused" = some (.ref A.a_law_is_refused)
  F_law_due : Fun K "_law_due" "_law_due" s_law_due A.a_law_due A.d_law_due
  B_law_due : Binds K A.d_law_due ["_law_told", "_law_live", "_law_most"] []
  M_law_due : mg "_law_due" = some (.ref A.a_law_due)
  F_law_word : Fun K "_law_word" "_law_word" s_law_word A.a_law_word A.d_law_word
  B_law_word : Binds K A.d_law_word ["_law_due_here"] []
  M_law_word : mg "_law_word" = some (.ref A.a_law_word)
  F_law_are_whole : Fun K "_law_are_whole" "_law_are_whole" s_law_are_whole A.a_law_are_whole A.d_law_are_whole
  B_law_are_whole : Binds K A.d_law_are_whole ["_law_found"] []
  M_law_are_whole : mg "_law_are_whole" = some (.ref A.a_law_are_whole)
  F_law_built : Fun K "_law_built" "_law_built" s_law_built A.a_law_built A.d_law_built
  B_law_built : Binds K A.d_law_built ["_law_pen_here"] []
  M_law_built : mg "_law_built" = some (.ref A.a_law_built)
  F_law : Fun K "law" "law" s_law A.a_law A.d_law
  B_law : Binds K A.d_law ["_law_script"] []
  M_law : mg "law" = some (.ref A.a_law)
  Z_ValueError : mg "ValueError" = none
  Z_abs : mg "abs" = none
  Z_bool : mg "bool" = none
  Z_int : mg "int" = none
  Z_isinstance : mg "isinstance" = none
  Z_len : mg "len" = none
  Z_list : mg "list" = none
  Z_max : mg "max" = none
  Z_min : mg "min" = none
  Z_range : mg "range" = none
  Z_set : mg "set" = none
  Z_sorted : mg "sorted" = none
  Z_tuple : mg "tuple" = none
  N_Loud : mg "Loud" = some (.ref A.c_Loud)
  L_Loud : ClsT K A.c_Loud
  N_CellError : mg "CellError" = some (.ref A.c_CellError)
  L_CellError : ClsT K A.c_CellError
  N_Folded : mg "Folded" = some (.ref A.c_Folded)
  L_Folded : ClsT K A.c_Folded
  N_NoLine : mg "NoLine" = some (.ref A.c_NoLine)
  L_NoLine : ClsT K A.c_NoLine
  N_NoName : mg "NoName" = some (.ref A.c_NoName)
  L_NoName : ClsT K A.c_NoName
  N_NoNumber : mg "NoNumber" = some (.ref A.c_NoNumber)
  L_NoNumber : ClsT K A.c_NoNumber
  N_NoRest : mg "NoRest" = some (.ref A.c_NoRest)
  L_NoRest : ClsT K A.c_NoRest
  N_NoRule : mg "NoRule" = some (.ref A.c_NoRule)
  L_NoRule : ClsT K A.c_NoRule
  N_NoSize : mg "NoSize" = some (.ref A.c_NoSize)
  L_NoSize : ClsT K A.c_NoSize
  N_NoText : mg "NoText" = some (.ref A.c_NoText)
  L_NoText : ClsT K A.c_NoText
  N_NoThing : mg "NoThing" = some (.ref A.c_NoThing)
  L_NoThing : ClsT K A.c_NoThing
  N_Outside : mg "Outside" = some (.ref A.c_Outside)
  L_Outside : ClsT K A.c_Outside
  N_TooWide : mg "TooWide" = some (.ref A.c_TooWide)
  L_TooWide : ClsT K A.c_TooWide
  Y_CellError : PySem.W.subIn K (.ref A.c_CellError) (.type "BaseException") = some true
  S_Loud_Loud : PySem.W.subIn K (.ref A.c_Loud) (.ref A.c_Loud) = some true
  S_Loud_CellError : PySem.W.subIn K (.ref A.c_Loud) (.ref A.c_CellError) = some true
  S_Loud_Folded : PySem.W.subIn K (.ref A.c_Loud) (.ref A.c_Folded) = some false
  S_Loud_NoLine : PySem.W.subIn K (.ref A.c_Loud) (.ref A.c_NoLine) = some false
  S_Loud_NoName : PySem.W.subIn K (.ref A.c_Loud) (.ref A.c_NoName) = some false
  S_Loud_NoNumber : PySem.W.subIn K (.ref A.c_Loud) (.ref A.c_NoNumber) = some false
  S_Loud_NoRest : PySem.W.subIn K (.ref A.c_Loud) (.ref A.c_NoRest) = some false
  S_Loud_NoRule : PySem.W.subIn K (.ref A.c_Loud) (.ref A.c_NoRule) = some false
  S_Loud_NoSize : PySem.W.subIn K (.ref A.c_Loud) (.ref A.c_NoSize) = some false
  S_Loud_NoText : PySem.W.subIn K (.ref A.c_Loud) (.ref A.c_NoText) = some false
  S_Loud_NoThing : PySem.W.subIn K (.ref A.c_Loud) (.ref A.c_NoThing) = some false
  S_Loud_Outside : PySem.W.subIn K (.ref A.c_Loud) (.ref A.c_Outside) = some false
  S_Loud_TooWide : PySem.W.subIn K (.ref A.c_Loud) (.ref A.c_TooWide) = some false
  S_Loud_ValueError : PySem.W.subIn K (.ref A.c_Loud) (.type "ValueError") = some true
  T_Loud : ExcT K A.c_Loud
  V_Loud : cv "Loud" = .ref A.c_Loud
  E_Loud : ExcC K A.c_Loud
section
variable {P : Program} {w : World} {K : PySem.W.Frag} {mg : Str → Option Value} {base : Heap} {cv : String → Value} {A : Ad}
theorem ok_moved (T : Txt K mg cv A) : FnOk P w K mg base (L2.CX P w) 1 A.a_moved A.d_moved ["live", "move"] (spP K cv true [true, false] f_moved) := by
  have nd := sc_moved.nd
  exact fn_pure (body := b_moved) [true, false] T.F_moved sc_moved f_moved rfl (by decide) rfl (fun cdv AA outer s H E hr => by
    have tk := takes_of (X := cxOf (L2.CX P w) P w K mg base ["live", "move", "dx", "dy", "x", "y"] "moved" (defScope s_moved) A.a_moved cdv AA outer s H E) rfl rfl rfl rfl
    exact (xs_cons (xs_asg (xe_var 1) (xg_tup rfl (xgs_cons (xg_name nd rfl (Or.inr rfl)) (xgs_cons (xg_name nd rfl (Or.inr rfl)) xgs_nil))))
    (xs_one (xs_retN (xn_lc (own := [("x", 4), ("y", 5)]) rfl nd (xi_own (pv 0)) (blkOk_by (own := [("x", 4), ("y", 5)]) (N := ["live", "move", "dx", "dy", "x", "y"]) (sc := defScope s_moved) (by decide +kernel)) (fun _ _ _ _ _ => (xg_tup rfl (xgs_cons (xg_nameW nd rfl (Or.inl rfl)) (xgs_cons (xg_nameW nd rfl (Or.inl rfl)) xgs_nil)))) (fun _ _ _ _ _ => xts_nil) (fun _ _ _ _ _ => (xe_tup (xa_cons (xe_op2R op_addAll imp_add (xe_var 4) (xe_var 2)) (xa_cons (xe_op2R op_addAll imp_add (xe_var 5) (xe_var 3)) xa_nil)))))))))
theorem ok_box_of (T : Txt K mg cv A) : FnOk P w K mg base (L2.CX P w) 1 A.a_box_of A.d_box_of ["live"] (spP K cv false [true] f_box_of) := by
  have nd := sc_box_of.nd
  exact fn_pure (body := b_box_of) [true] T.F_box_of sc_box_of f_box_of rfl (by decide) rfl (fun cdv AA outer s H E hr => by
    have tk := takes_of (X := cxOf (L2.CX P w) P w K mg base ["live", "xs", "x", "y", "ys"] "box_of" (defScope s_box_of) A.a_box_of cdv AA outer s H E) rfl rfl rfl rfl
    exact (xs_cons (xs_if (xt_cmpOL (op_eqD hr.units) imp_eq (pv 0) (of_new (xn_lst xa_nil)) (nomark _))
    (xs_one (xs_ret xe_non))
    xs_nil)
    (xs_cons (xs_setLc (i := 1) (own := [("x", 2), ("y", 3)]) (by decide) rfl nd rfl rfl (sw_true rfl rfl rfl (by decide +kernel)) (xi_own (pv 0)) (blkOk_by (own := [("x", 2), ("y", 3)]) (N := ["live", "xs", "x", "y", "ys"]) (sc := defScope s_box_of) (by decide +kernel)) (fun _ _ _ _ _ => (xg_tup rfl (xgs_cons (xg_nameW nd rfl (Or.inl rfl)) (xgs_cons (xg_nameW nd rfl (Or.inl rfl)) xgs_nil)))) (fun _ _ _ _ _ => xts_nil) (fun _ _ _ _ _ => (xe_var 2)))
    (xs_cons (xs_setLc (i := 4) (own := [("x", 2), ("y", 3)]) (by decide) rfl nd rfl rfl (sw_true rfl rfl rfl (by decide +kernel)) (xi_own (pv 0)) (blkOk_by (own := [("x", 2), ("y", 3)]) (N := ["live", "xs", "x", "y", "ys"]) (sc := defScope s_box_of) (by decide +kernel)) (fun _ _ _ _ _ => (xg_tup rfl (xgs_cons (xg_nameW nd rfl (Or.inl rfl)) (xgs_cons (xg_nameW nd rfl (Or.inl rfl)) xgs_nil)))) (fun _ _ _ _ _ => xts_nil) (fun _ _ _ _ _ => (xe_var 3)))
    (xs_one (xs_ret (xe_tup (xa_cons (xe_callB (cr_minD rfl (hu200 hr)) (imp_best minDD_mem minDD_py) (by rfl) T.Z_min bt_min (xa_cons (xe_var 1) xa_nil)) (xa_cons (xe_callB (cr_minD rfl (hu200 hr)) (imp_best minDD_mem minDD_py) (by rfl) T.Z_min bt_min (xa_cons (xe_var 4) xa_nil)) (xa_cons (xe_op2R op_addAll imp_add (xe_op2R op_sub (imp_I0 fun _ _ _ => .int _) (xe_callB (cr_maxD rfl (hu200 hr)) (imp_best maxDD_mem maxDD_py) (by rfl) T.Z_max bt_max (xa_cons (xe_var 1) xa_nil)) (xe_callB (cr_minD rfl (hu200 hr)) (imp_best minDD_mem minDD_py) (by rfl) T.Z_min bt_min (xa_cons (xe_var 1) xa_nil))) xe_int) (xa_cons (xe_op2R op_addAll imp_add (xe_op2R op_sub (imp_I0 fun _ _ _ => .int _) (xe_callB (cr_maxD rfl (hu200 hr)) (imp_best maxDD_mem maxDD_py) (by rfl) T.Z_max bt_max (xa_cons (xe_var 4) xa_nil)) (xe_callB (cr_minD rfl (hu200 hr)) (imp_best minDD_mem minDD_py) (by rfl) T.Z_min bt_min (xa_cons (xe_var 4) xa_nil))) xe_int) xa_nil)))))))))))
theorem ok_at_nought (T : Txt K mg cv A) : FnOk P w K mg base (L2.CX P w) 2 A.a_at_nought A.d_at_nought ["live"] (spP K cv true [true] f_at_nought) := by
  have G_moved := ok_moved (P := P) (w := w) (base := base) (cv := cv) T
  have G_box_of := ok_box_of (P := P) (w := w) (base := base) (cv := cv) T
  have nd := sc_at_nought.nd
  exact fn_pure (body := b_at_nought) [true] T.F_at_nought sc_at_nought f_at_nought rfl (by decide) rfl (fun cdv AA outer s H E hr => by
    have tk := takes_of (X := cxOf (L2.CX P w) P w K mg base ["live", "box"] "at_nought" (defScope s_at_nought) A.a_at_nought cdv AA outer s H E) rfl rfl rfl rfl
    exact (xs_cons (xs_set (i := 1) nd rfl (Or.inl rfl) (xe_call (ban := 1000) tk G_box_of (hr.mono (by decide)) (by rfl) T.M_box_of T.F_box_of.kp T.B_box_of (xm_own (j := 0) (pv 0) xm_nil)))
    (xs_cons (xs_if (xt_cmp op_isN imp_is (xe_var 1) xe_non (nomark _))
    (xs_one (xs_retN (xn_lst xa_nil)))
    xs_nil)
    (xs_one (xs_retN (xn_call (ban := 1000) tk G_moved (hr.mono (by decide)) (by rfl) T.M_moved T.F_moved.kp T.B_moved (xm_own (j := 0) (pv 0) (xm_val (xe_tup (xa_cons (xe_op2R op_sub (imp_I0 fun _ _ _ => .int _) xe_int (xe_ixR ix_seq imp_ix (xe_var 1) xe_int (fun _ _ => rfl))) (xa_cons (xe_op2R op_sub (imp_I0 fun _ _ _ => .int _) xe_int (xe_ixR ix_seq imp_ix (xe_var 1) xe_int (fun _ _ => rfl))) xa_nil))) xm_nil))))))))
theorem ok_is_near (T : Txt K mg cv A) : FnOk P w K mg base (L2.CX P w) 1 A.a_is_near A.d_is_near ["kind", "dx", "dy"] (spP K cv false [false, false, false] f_is_near) := by
  have nd := sc_is_near.nd
  exact fn_pure (body := b_is_near) [false, false, false] T.F_is_near sc_is_near f_is_near rfl (by decide) rfl (fun cdv AA outer s H E hr => by
    have tk := takes_of (X := cxOf (L2.CX P w) P w K mg base ["kind", "dx", "dy"] "is_near" (defScope s_is_near) A.a_is_near cdv AA outer s H E) rfl rfl rfl rfl
    exact (xs_one (xs_ret (xe_or (xe_cmp (op_eqD hr.units) imp_eq (xe_var 0) xe_int (nomark _)) (xe_or (xe_cmp (op_eqD hr.units) imp_eq (xe_var 1) xe_int (nomark _)) (xe_or (xe_cmp (op_eqD hr.units) imp_eq (xe_var 2) xe_int (nomark _)) (xe_one (xe_and (xe_cmp (op_eqD hr.units) imp_eq (xe_var 0) xe_int (nomark _)) (xe_one (xe_cmp (op_eqD hr.units) imp_eq (xe_var 1) (xe_var 2) (nomark _)))))))))))
theorem ok_around (T : Txt K mg cv A) : FnOk P w K mg base (L2.CX P w) 1 A.a_around A.d_around [] (spP K cv true [] f_around) := by
  have nd := sc_around.nd
  exact fn_pure (body := b_around) [] T.F_around sc_around f_around rfl (by decide) rfl (fun cdv AA outer s H E hr => by
    have tk := takes_of (X := cxOf (L2.CX P w) P w K mg base ["$", "found", "dx", "dy"] "around" (defScope s_around) A.a_around cdv AA outer s H E) rfl rfl rfl rfl
    exact (xs_cons (xs_setO (i := 1) nd rfl (Or.inl rfl) (xn_lst xa_nil))
    (xs_cons (xs_for (passes_of rfl) rfl (xi_range2 (by rfl) T.Z_range (xe_un un_neg imp_neg xe_int) xe_int) (xg_name nd rfl (Or.inl rfl))
    (xs_one (xs_for (passes_of rfl) rfl (xi_range2 (by rfl) T.Z_range (xe_un un_neg imp_neg xe_int) xe_int) (xg_name nd rfl (Or.inl rfl))
    (xs_one (xs_append (i := 1) rfl (Or.inl rfl) (xe_tup (xa_cons (xe_var 2) (xa_cons (xe_var 3) xa_nil))) (pe_bm PySem.F.plainAttrs_list PySem.F.slot_list_append PySem.F.type_list_append mt_append (pv 1) (pa_cons (xe_tup (xa_cons (xe_var 2) (xa_cons (xe_var 3) xa_nil))) pa_nil)))))))
    (xs_one (xs_retN (xn_take 1))))))
theorem ok_offsets (T : Txt K mg cv A) : FnOk P w K mg base (L2.CX P w) 2 A.a_offsets A.d_offsets ["kind"] (spP K cv true [false] f_offsets) := by
  have G_is_near := ok_is_near (P := P) (w := w) (base := base) (cv := cv) T
  have G_around := ok_around (P := P) (w := w) (base := base) (cv := cv) T
  have nd := sc_offsets.nd
  exact fn_pure (body := b_offsets) [false] T.F_offsets sc_offsets f_offsets rfl (by decide) rfl (fun cdv AA outer s H E hr => by
    have tk := takes_of (X := cxOf (L2.CX P w) P w K mg base ["kind", "steps", "dx", "dy", "step"] "offsets" (defScope s_offsets) A.a_offsets cdv AA outer s H E) rfl rfl rfl rfl
    exact (xs_cons (xs_setLc (i := 1) (own := [("dx", 2), ("dy", 3)]) (by decide) rfl nd rfl rfl (sw_true rfl rfl rfl (by decide +kernel)) (xi_seq (of_new (xn_call0 tk G_around (hr.mono (by decide)) (by rfl) T.M_around T.F_around.kp T.B_around))) (blkOk_by (own := [("dx", 2), ("dy", 3)]) (N := ["kind", "steps", "dx", "dy", "step"]) (sc := defScope s_offsets) (by decide +kernel)) (fun _ _ _ _ _ => (xg_tup rfl (xgs_cons (xg_nameW nd rfl (Or.inl rfl)) (xgs_cons (xg_nameW nd rfl (Or.inl rfl)) xgs_nil)))) (fun _ _ _ _ _ => (xts_one (xt_val (xe_call (ban := 1000) takes0 G_is_near (hr.mono (by decide)) (by rfl) T.M_is_near T.F_is_near.kp T.B_is_near (xm_val (xe_var 0) (xm_val (xe_var 2) (xm_val (xe_var 3) xm_nil))))))) (fun _ _ _ _ _ => (xe_tup (xa_cons (xe_var 2) (xa_cons (xe_var 3) xa_nil)))))
    (xs_one (xs_retN (xn_lc (own := [("step", 4)]) rfl nd (xi_seq (xe_var 1)) (blkOk_by (own := [("step", 4)]) (N := ["kind", "steps", "dx", "dy", "step"]) (sc := defScope s_offsets) (by decide +kernel)) (fun _ _ _ _ _ => (xg_nameW nd rfl (Or.inl rfl))) (fun _ _ _ _ _ => (xts_one (xt_cmp (op_neD hr.units) imp_ne (xe_var 4) (xe_tup (xa_cons xe_int (xa_cons xe_int xa_nil))) (nomark _)))) (fun _ _ _ _ _ => (xe_var 4)))))))
theorem ok_is_quiet (T : Txt K mg cv A) : FnOk P w K mg base (L2.CX P w) 1 A.a_is_quiet A.d_is_quiet ["told"] (spP K cv false [false] f_is_quiet) := by
  have nd := sc_is_quiet.nd
  exact fn_pure (body := b_is_quiet) [false] T.F_is_quiet sc_is_quiet f_is_quiet rfl (by decide) rfl (fun cdv AA outer s H E hr => by
    have tk := takes_of (X := cxOf (L2.CX P w) P w K mg base ["told"] "is_quiet" (defScope s_is_quiet) A.a_is_quiet cdv AA outer s H E) rfl rfl rfl rfl
    exact (xs_one (xs_ret (xe_cmp (op_notInX (hu65 hr)) imp_notInX xe_int (xe_ixR ix_seq imp_ix (xe_var 0) xe_int (fun _ _ => rfl)) (by rfl)))))
theorem ok_ask_quiet (T : Txt K mg cv A) : FnOk P w K mg base (L2.CX P w) 2 A.a_ask_quiet A.d_ask_quiet ["told"] (spP K cv false [false] f_ask_quiet) := by
  have G_is_quiet := ok_is_quiet (P := P) (w := w) (base := base) (cv := cv) T
  have nd := sc_ask_quiet.nd
  exact fn_pure (body := b_ask_quiet) [false] T.F_ask_quiet sc_ask_quiet f_ask_quiet rfl (by decide) rfl (fun cdv AA outer s H E hr => by
    have tk := takes_of (X := cxOf (L2.CX P w) P w K mg base ["told"] "ask_quiet" (defScope s_ask_quiet) A.a_ask_quiet cdv AA outer s H E) rfl rfl rfl rfl
    exact (xs_one (xs_if (xt_not (xt_val (xe_call (ban := 1000) tk G_is_quiet (hr.mono (by decide)) (by rfl) T.M_is_quiet T.F_is_quiet.kp T.B_is_quiet (xm_val (xe_var 0) xm_nil))))
    (xs_one (xs_raise rfl tk T.T_Loud T.N_Loud (by rfl) T.V_Loud))
    xs_nil)))
theorem ok_comes (T : Txt K mg cv A) : FnOk P w K mg base (L2.CX P w) 1 A.a_comes A.d_comes ["told", "alive", "count"] (spP K cv false [false, false, false] f_comes) := by
  have nd := sc_comes.nd
  exact fn_pure (body := b_comes) [false, false, false] T.F_comes sc_comes f_comes rfl (by decide) rfl (fun cdv AA outer s H E hr => by
    have tk := takes_of (X := cxOf (L2.CX P w) P w K mg base ["told", "alive", "count"] "comes" (defScope s_comes) A.a_comes cdv AA outer s H E) rfl rfl rfl rfl
    exact (xs_cons (xs_if (xt_val (xe_var 1))
    (xs_one (xs_ret (xe_cmp (op_inX (hu65 hr)) imp_inX (xe_var 2) (xe_ixR ix_seq imp_ix (xe_var 0) xe_int (fun _ _ => rfl)) (by rfl))))
    xs_nil)
    (xs_one (xs_ret (xe_cmp (op_inX (hu65 hr)) imp_inX (xe_var 2) (xe_ixR ix_seq imp_ix (xe_var 0) xe_int (fun _ _ => rfl)) (by rfl))))))
theorem ok_counts (T : Txt K mg cv A) : FnOk P w K mg base (L2.CX P w) 3 A.a_counts A.d_counts ["kind", "live"] (spP K cv true [false, true] f_counts) := by
  have G_offsets := ok_offsets (P := P) (w := w) (base := base) (cv := cv) T
  have nd := sc_counts.nd
  exact fn_pure (body := b_counts) [false, true] T.F_counts sc_counts f_counts rfl (by decide) rfl (fun cdv AA outer s H E hr => by
    have tk := takes_of (X := cxOf (L2.CX P w) P w K mg base ["kind", "live", "near", "found", "x", "y", "dx", "dy", "cell"] "counts" (defScope s_counts) A.a_counts cdv AA outer s H E) rfl rfl rfl rfl
    exact (xs_cons (xs_set (i := 2) nd rfl (Or.inl rfl) (of_new (xn_call (ban := 1000) tk G_offsets (hr.mono (by decide)) (by rfl) T.M_offsets T.F_offsets.kp T.B_offsets (xm_val (xe_var 0) xm_nil))))
    (xs_cons (xs_setO (i := 3) nd rfl (Or.inl rfl) xn_dnewT)
    (xs_cons (xs_for (passes_of rfl) rfl (xi_own (pv 1)) (xg_tup rfl (xgs_cons (xg_name nd rfl (Or.inl rfl)) (xgs_cons (xg_name nd rfl (Or.inl rfl)) xgs_nil)))
    (xs_one (xs_for (passes_of rfl) rfl (xi_seq (xe_var 2)) (xg_tup rfl (xgs_cons (xg_name nd rfl (Or.inl rfl)) (xgs_cons (xg_name nd rfl (Or.inl rfl)) xgs_nil)))
    (xs_cons (xs_set (i := 8) nd rfl (Or.inl rfl) (xe_tup (xa_cons (xe_op2R op_addAll imp_add (xe_var 4) (xe_var 6)) (xa_cons (xe_op2R op_addAll imp_add (xe_var 5) (xe_var 7)) xa_nil))))
    (xs_one (xs_dput (i := 3) (hu1 hr) (pv 3) (xe_var 8) (xe_op2R op_addAll imp_add (xe_dget2 (hu1 hr) (pv 3) (xe_var 8) xe_int) xe_int)))))))
    (xs_one (xs_retN (xn_take 3)))))))
theorem ok_next_turn (T : Txt K mg cv A) : FnOk P w K mg base (L2.CX P w) 4 A.a_next_turn A.d_next_turn ["rule", "live"] (spP K cv true [false, false] f_next_turn) := by
  have G_ask_quiet := ok_ask_quiet (P := P) (w := w) (base := base) (cv := cv) T
  have G_comes := ok_comes (P := P) (w := w) (base := base) (cv := cv) T
  have G_counts := ok_counts (P := P) (w := w) (base := base) (cv := cv) T
  have nd := sc_next_turn.nd
  exact fn_pure (body := b_next_turn) [false, false] T.F_next_turn sc_next_turn f_next_turn rfl (by decide) rfl (fun cdv AA outer s H E hr => by
    have tk := takes_of (X := cxOf (L2.CX P w) P w K mg base ["rule", "live", "near", "alive", "cell", "some"] "next_turn" (defScope s_next_turn) A.a_next_turn cdv AA outer s H E) rfl rfl rfl rfl
    exact (xs_cons (xs_expr (xe_call (ban := 1000) tk G_ask_quiet (hr.mono (by decide)) (by rfl) T.M_ask_quiet T.F_ask_quiet.kp T.B_ask_quiet (xm_val (xe_var 0) xm_nil)))
    (xs_cons (xs_set (i := 2) nd rfl (Or.inr rfl) (of_new (xn_call (ban := 1000) tk G_counts (hr.mono (by decide)) (by rfl) T.M_counts T.F_counts.kp T.B_counts (xm_val (xe_ixR ix_seq imp_ix (xe_var 0) xe_int (fun _ _ => rfl)) (xm_valR (xe_var 1) xm_nil)))))
    (xs_cons (xs_setO (i := 3) nd rfl (Or.inr rfl) xn_dnewT)
    (xs_cons (xs_for (passes_of rfl) rfl (xi_seq (xe_var 1)) (xg_name nd rfl (Or.inl rfl))
    (xs_one (xs_dput (i := 3) (hu1 hr) (pv 3) (xe_var 4) xe_bl)))
    (xs_cons (xs_set (i := 5) nd rfl (Or.inl rfl) (of_new (xn_sortedSetG rfl (hu200 hr) (by rfl) T.Z_sorted (by rfl) T.Z_set (xe_op2R op_addAll imp_add (of_new (xn_listDV rfl (by rfl) T.Z_list (xe_var 2))) (xe_var 1)))))
    (xs_one (xs_retN (xn_lc (own := [("cell", 4)]) rfl nd (xi_seq (xe_var 5)) (blkOk_by (own := [("cell", 4)]) (N := ["rule", "live", "near", "alive", "cell", "some"]) (sc := defScope s_next_turn) (by decide +kernel)) (fun _ _ _ _ _ => (xg_nameW nd rfl (Or.inl rfl))) (fun _ _ _ _ _ => (xts_one (xt_val (xe_call (ban := 1000) takes0 G_comes (hr.mono (by decide)) (by rfl) T.M_comes T.F_comes.kp T.B_comes (xm_val (xe_var 0) (xm_val (xe_cmpO (op_inX (hu65 hr)) imp_inX (xe_var 4) (pv 3) (by rfl)) (xm_val (xe_dgetV (hu1 hr) (xe_var 2) (xe_var 4) xe_int) xm_nil))))))) (fun _ _ _ _ _ => (xe_var 4)))))))))))
theorem ok_step_to (T : Txt K mg cv A) : FnOk P w K mg base (L2.CX P w) 1 A.a_step_to A.d_step_to ["one", "other"] (spP K cv false [false, false] f_step_to) := by
  have nd := sc_step_to.nd
  exact fn_pure (body := b_step_to) [false, false] T.F_step_to sc_step_to f_step_to rfl (by decide) rfl (fun cdv AA outer s H E hr => by
    have tk := takes_of (X := cxOf (L2.CX P w) P w K mg base ["one", "other"] "step_to" (defScope s_step_to) A.a_step_to cdv AA outer s H E) rfl rfl rfl rfl
    exact (xs_one (xs_ret (xe_tup (xa_cons (xe_op2R op_sub (imp_I0 fun _ _ _ => .int _) (xe_ixR ix_seq imp_ix (xe_ixR ix_seq imp_ix (xe_var 1) xe_int (fun _ _ => rfl)) xe_int (fun _ _ => rfl)) (xe_ixR ix_seq imp_ix (xe_ixR ix_seq imp_ix (xe_var 0) xe_int (fun _ _ => rfl)) xe_int (fun _ _ => rfl))) (xa_cons (xe_op2R op_sub (imp_I0 fun _ _ _ => .int _) (xe_ixR ix_seq imp_ix (xe_ixR ix_seq imp_ix (xe_var 1) xe_int (fun _ _ => rfl)) xe_int (fun _ _ => rfl)) (xe_ixR ix_seq imp_ix (xe_ixR ix_seq imp_ix (xe_var 0) xe_int (fun _ _ => rfl)) xe_int (fun _ _ => rfl))) xa_nil))))))
theorem ok_fate (T : Txt K mg cv A) : FnOk P w K mg base (L2.CX P w) 5 A.a_fate A.d_fate ["rule", "live", "most"] (spP K cv false [false, false, false] f_fate) := by
  have G_at_nought := ok_at_nought (P := P) (w := w) (base := base) (cv := cv) T
  have G_ask_quiet := ok_ask_quiet (P := P) (w := w) (base := base) (cv := cv) T
  have G_next_turn := ok_next_turn (P := P) (w := w) (base := base) (cv := cv) T
  have G_step_to := ok_step_to (P := P) (w := w) (base := base) (cv := cv) T
  have nd := sc_fate.nd
  exact fn_pure (body := b_fate) [false, false, false] T.F_fate sc_fate f_fate rfl (by decide) rfl (fun cdv AA outer s H E hr => by
    have tk := takes_of (X := cxOf (L2.CX P w) P w K mg base ["rule", "live", "most", "here", "known", "turn", "shape", "ahead", "row"] "fate" (defScope s_fate) A.a_fate cdv AA outer s H E) rfl rfl rfl rfl
    exact (xs_cons (xs_expr (xe_call (ban := 1000) tk G_ask_quiet (hr.mono (by decide)) (by rfl) T.M_ask_quiet T.F_ask_quiet.kp T.B_ask_quiet (xm_val (xe_var 0) xm_nil)))
    (xs_cons (xs_set (i := 3) nd rfl (Or.inl rfl) (of_new (xn_callT call_list_of imp_list (by rfl) T.Z_list bt_list (xa_cons (xe_var 1) xa_nil))))
    (xs_cons (xs_setO (i := 4) nd rfl (Or.inl rfl) xn_dnewN)
    (xs_cons (xs_for (passes_of rfl) rfl (xi_range1 (by rfl) T.Z_range (xe_op2R op_addAll imp_add (xe_var 2) xe_int)) (xg_name nd rfl (Or.inl rfl))
    (xs_cons (xs_if (xt_cmp op_gt (imp_I0 fun _ _ _ => .bl _) (xe_var 5) xe_int (nomark _))
    (xs_one (xs_set (i := 3) nd rfl (Or.inl rfl) (of_new (xn_call (ban := 1000) tk G_next_turn (hr.mono (by decide)) (by rfl) T.M_next_turn T.F_next_turn.kp T.B_next_turn (xm_val (xe_var 0) (xm_val (xe_var 3) xm_nil))))))
    xs_nil)
    (xs_cons (xs_if (xt_cmp (op_eqD hr.units) imp_eq (xe_var 3) (of_new (xn_lst xa_nil)) (nomark _))
    (xs_one (xs_ret (xe_tup (xa_cons xe_str (xa_cons (xe_var 5) xa_nil)))))
    xs_nil)
    (xs_cons (xs_set (i := 6) nd rfl (Or.inl rfl) (xe_callT call_tuple_of imp_tuple (by rfl) T.Z_tuple bt_tuple (xa_cons (of_new (xn_call (ban := 1000) tk G_at_nought (hr.mono (by decide)) (by rfl) T.M_at_nought T.F_at_nought.kp T.B_at_nought (xm_valR (xe_var 3) xm_nil))) xa_nil)))
    (xs_cons (xs_if (xt_cmpO (op_inN (hu65 hr)) imp_inN (xe_var 6) (pv 4) (by rfl))
    (xs_cons (xs_asg (xe_nix (hu65 hr) (pv 4) (xe_var 6)) (xg_tup rfl (xgs_cons (xg_name nd rfl (Or.inl rfl)) (xgs_cons (xg_name nd rfl (Or.inl rfl)) xgs_nil))))
    (xs_one (xs_ret (xe_tup (xa_cons xe_str (xa_cons (xe_var 7) (xa_cons (xe_op2R op_sub (imp_I0 fun _ _ _ => .int _) (xe_var 5) (xe_var 7)) (xa_cons (xe_call (ban := 1000) tk G_step_to (hr.mono (by decide)) (by rfl) T.M_step_to T.F_step_to.kp T.B_step_to (xm_val (xe_var 8) (xm_val (xe_var 3) xm_nil))) xa_nil))))))))
    xs_nil)
    (xs_one (xs_nput (i := 4) (hu65 hr) (pv 4) (xe_var 6) (xe_tup (xa_cons (xe_var 5) (xa_cons (xe_var 3) xa_nil))))))))))
    (xs_one (xs_ret (xe_tup (xa_cons xe_str xa_nil)))))))))
theorem ok_word_of (T : Txt K mg cv A) : FnOk P w K mg base (L2.CX P w) 1 A.a_word_of A.d_word_of ["told"] (spP K cv false [false] f_word_of) := by
  have nd := sc_word_of.nd
  exact fn_pure (body := b_word_of) [false] T.F_word_of sc_word_of f_word_of rfl (by decide) rfl (fun cdv AA outer s H E hr => by
    have tk := takes_of (X := cxOf (L2.CX P w) P w K mg base ["told"] "word_of" (defScope s_word_of) A.a_word_of cdv AA outer s H E) rfl rfl rfl rfl
    exact (xs_cons (xs_if (xt_cmp (op_neD hr.units) imp_ne (xe_ixR ix_seq imp_ix (xe_var 0) xe_int (fun _ _ => rfl)) xe_str (nomark _))
    (xs_one (xs_ret (xe_ixR ix_seq imp_ix (xe_var 0) xe_int (fun _ _ => rfl))))
    xs_nil)
    (xs_cons (xs_if (xt_cmp (op_neD hr.units) imp_ne (xe_ixR ix_seq imp_ix (xe_var 0) xe_int (fun _ _ => rfl)) (xe_tup (xa_cons xe_int (xa_cons xe_int xa_nil))) (nomark _))
    (xs_one (xs_ret xe_str))
    xs_nil)
    (xs_cons (xs_if (xt_cmp (op_eqD hr.units) imp_eq (xe_ixR ix_seq imp_ix (xe_var 0) xe_int (fun _ _ => rfl)) xe_int (nomark _))
    (xs_one (xs_ret xe_str))
    xs_nil)
    (xs_one (xs_ret xe_str))))))
theorem ok_law_pen (T : Txt K mg cv A) : FnOk P w K mg base (L2.CX P w) 1 A.a_law_pen A.d_law_pen ["_law_script", "_law_k"] (spP K cv true [false, false] f_law_pen) := by
  have nd := sc_law_pen.nd
  exact fn_pure (body := b_law_pen) [false, false] T.F_law_pen sc_law_pen f_law_pen rfl (by decide) rfl (fun cdv AA outer s H E hr => by
    have tk := takes_of (X := cxOf (L2.CX P w) P w K mg base ["_law_script", "_law_k", "_law_cell"] "_law_pen" (defScope s_law_pen) A.a_law_pen cdv AA outer s H E) rfl rfl rfl rfl
    exact (xs_cons (xs_set (i := 2) nd rfl (Or.inl rfl) (xe_op2R op_addAll imp_add (xe_op2R op_mulA (imp_I fun _ _ _ => .int _) xe_int (xe_var 1)) xe_int))
    (xs_cons (xs_if (xt_cmp (op_ltAll hr.units0) imp_lt (xe_var 1) (xe_callB call_lenAll imp_len (by rfl) T.Z_len bt_len (xa_cons (xe_var 0) xa_nil)) (nomark _))
    (xs_one (xs_set (i := 2) nd rfl (Or.inl rfl) (xe_ixR ix_seq imp_ix (xe_var 0) (xe_var 1) (fun _ _ => rfl))))
    (xs_one (xs_if (xt_cmp op_gt (imp_I0 fun _ _ _ => .bl _) (xe_callB call_lenAll imp_len (by rfl) T.Z_len bt_len (xa_cons (xe_var 0) xa_nil)) xe_int (nomark _))
    (xs_one (xs_set (i := 2) nd rfl (Or.inl rfl) (xe_op2R op_addAll imp_add (xe_op2R op_mod (imp_I fun _ _ _ => .int _) (xe_ixR ix_seq imp_ix (xe_var 0) (xe_op2R op_mod (imp_I fun _ _ _ => .int _) (xe_var 1) (xe_callB call_lenAll imp_len (by rfl) T.Z_len bt_len (xa_cons (xe_var 0) xa_nil))) (fun _ _ => rfl)) xe_int) (xe_op2R op_mulA (imp_I fun _ _ _ => .int _) xe_int (xe_var 1)))))
    xs_nil)))
    (xs_cons (xs_if (xt_cmp op_ge (imp_I0 fun _ _ _ => .bl _) (xe_var 2) (xe_op2R op_pow (imp_I fun _ _ _ => .int _) xe_int xe_int) (nomark _))
    (xs_one (xs_retN (xn_lst (xa_cons (xe_op2R op_sub (imp_I0 fun _ _ _ => .int _) (xe_var 2) (xe_op2R op_pow (imp_I fun _ _ _ => .int _) xe_int xe_int)) (xa_cons (xe_op2R op_mod (imp_I fun _ _ _ => .int _) (xe_var 2) xe_int) (xa_cons xe_int xa_nil))))))
    xs_nil)
    (xs_one (xs_retN (xn_lst (xa_cons xe_int (xa_cons (xe_op2R op_mod (imp_I fun _ _ _ => .int _) (xe_var 2) xe_int) (xa_cons xe_int xa_nil))))))))))
theorem ok_law_draw (T : Txt K mg cv A) : FnOk P w K mg base (L2.CX P w) 1 A.a_law_draw A.d_law_draw ["_law_pen_here", "_law_many"] (spB K cv false [false] f_law_draw) := by
  have nd := sc_law_draw.nd
  exact fn_bor (body := b_law_draw) [false] T.F_law_draw sc_law_draw f_law_draw rfl (by decide) rfl (fun cdv AA outer s H E hr => by
    have tk := takes_of (X := cxOf (L2.CX P w) P w K mg base ["_law_pen_here", "_law_many", "_law_drawn", "_law_number_here"] "_law_draw" (defScope s_law_draw) A.a_law_draw cdv AA outer s H E) rfl rfl rfl rfl
    exact (xs_cons (xs_setIx (i := 0) rfl (Or.inl rfl) (pv 0) xe_int (xe_op2R op_addAll imp_add (xe_ixO (pv 0) xe_int (fun _ _ => rfl)) xe_int))
    (xs_cons (xs_if (xt_cmp op_gt (imp_I0 fun _ _ _ => .bl _) (xe_ixO (pv 0) xe_int (fun _ _ => rfl)) xe_int (nomark _))
    (xs_cons (xs_set (i := 2) nd rfl (Or.inl rfl) (xe_op2R op_mod (imp_I fun _ _ _ => .int _) (xe_ixO (pv 0) xe_int (fun _ _ => rfl)) (xe_var 1)))
    (xs_cons (xs_setIx (i := 0) rfl (Or.inl rfl) (pv 0) xe_int (xe_op2R op_fdivW (imp_I fun _ _ _ => .int _) (xe_ixO (pv 0) xe_int (fun _ _ => rfl)) (xe_var 1)))
    (xs_one (xs_ret (xe_var 2)))))
    xs_nil)
    (xs_cons (xs_set (i := 3) nd rfl (Or.inl rfl) (xe_op2R op_mod (imp_I fun _ _ _ => .int _) (xe_op2R op_addAll imp_add (xe_op2R op_addAll imp_add (xe_ixO (pv 0) xe_int (fun _ _ => rfl)) (xe_op2R op_mulA (imp_I fun _ _ _ => .int _) xe_int (xe_ixO (pv 0) xe_int (fun _ _ => rfl)))) xe_int) xe_int))
    (xs_cons (xs_set (i := 3) nd rfl (Or.inl rfl) (xe_op2R op_addAll imp_add (xe_op2R op_mod (imp_I fun _ _ _ => .int _) (xe_op2R op_mulA (imp_I fun _ _ _ => .int _) (xe_var 3) (xe_var 3)) xe_int) (xe_op2R op_mulA (imp_I fun _ _ _ => .int _) xe_int (xe_ixO (pv 0) xe_int (fun _ _ => rfl)))))
    (xs_cons (xs_set (i := 3) nd rfl (Or.inl rfl) (xe_op2R op_mod (imp_I fun _ _ _ => .int _) (xe_op2R op_mulA (imp_I fun _ _ _ => .int _) (xe_var 3) (xe_var 3)) xe_int))
    (xs_one (xs_ret (xe_op2R op_mod (imp_I fun _ _ _ => .int _) (xe_op2R op_fdivW (imp_I fun _ _ _ => .int _) (xe_var 3) xe_int) (xe_var 1))))))))))
theorem ok_law_number (T : Txt K mg cv A) : FnOk P w K mg base (L2.CX P w) 2 A.a_law_number A.d_law_number ["_law_pen_here"] (spB K cv false [] f_law_number) := by
  have G_law_draw := ok_law_draw (P := P) (w := w) (base := base) (cv := cv) T
  have nd := sc_law_number.nd
  exact fn_bor (body := b_law_number) [] T.F_law_number sc_law_number f_law_number rfl (by decide) rfl (fun cdv AA outer s H E hr => by
    have tk := takes_of (X := cxOf (L2.CX P w) P w K mg base ["_law_pen_here", "_law_way"] "_law_number" (defScope s_law_number) A.a_law_number cdv AA outer s H E) rfl rfl rfl rfl
    exact (xs_cons (xs_set (i := 1) nd rfl (Or.inl rfl) (xe_callBor tk G_law_draw (hr.mono (by decide)) (by rfl) T.M_law_draw T.F_law_draw.kp T.B_law_draw (pv 0) (xm_val xe_int xm_nil)))
    (xs_cons (xs_if (xt_cmp (op_ltAll hr.units0) imp_lt (xe_var 1) xe_int (nomark _))
    (xs_one (xs_ret (xe_op2R op_sub (imp_I0 fun _ _ _ => .int _) (xe_callBor tk G_law_draw (hr.mono (by decide)) (by rfl) T.M_law_draw T.F_law_draw.kp T.B_law_draw (pv 0) (xm_val xe_int xm_nil)) xe_int)))
    xs_nil)
    (xs_cons (xs_if (xt_cmp (op_eqD hr.units) imp_eq (xe_var 1) xe_int (nomark _))
    (xs_one (xs_ret (xe_op2R op_sub (imp_I0 fun _ _ _ => .int _) (xe_callBor tk G_law_draw (hr.mono (by decide)) (by rfl) T.M_law_draw T.F_law_draw.kp T.B_law_draw (pv 0) (xm_val (xe_op2R op_pow (imp_I fun _ _ _ => .int _) xe_int xe_int) xm_nil)) (xe_op2R op_mulA (imp_I fun _ _ _ => .int _) xe_int (xe_op2R op_pow (imp_I fun _ _ _ => .int _) xe_int xe_int)))))
    xs_nil)
    (xs_one (xs_ret (xe_op2R op_mulA (imp_I fun _ _ _ => .int _) (xe_op2R op_sub (imp_I0 fun _ _ _ => .int _) (xe_op2R op_sub (imp_I0 fun _ _ _ => .int _) (xe_op2R op_pow (imp_I fun _ _ _ => .int _) xe_int xe_int) xe_int) (xe_callBor tk G_law_draw (hr.mono (by decide)) (by rfl) T.M_law_draw T.F_law_draw.kp T.B_law_draw (pv 0) (xm_val xe_int xm_nil))) (xe_op2R op_sub (imp_I0 fun _ _ _ => .int _) xe_int (xe_op2R op_mulA (imp_I fun _ _ _ => .int _) xe_int (xe_callBor tk G_law_draw (hr.mono (by decide)) (by rfl) T.M_law_draw T.F_law_draw.kp T.B_law_draw (pv 0) (xm_val xe_int xm_nil)))))))))))
theorem ok_law_rule (T : Txt K mg cv A) : FnOk P w K mg base (L2.CX P w) 2 A.a_law_rule A.d_law_rule ["_law_pen_here"] (spB K cv false [] f_law_rule) := by
  have G_law_draw := ok_law_draw (P := P) (w := w) (base := base) (cv := cv) T
  have nd := sc_law_rule.nd
  exact fn_bor (body := b_law_rule) [] T.F_law_rule sc_law_rule f_law_rule rfl (by decide) rfl (fun cdv AA outer s H E hr => by
    have tk := takes_of (X := cxOf (L2.CX P w) P w K mg base ["_law_pen_here", "_law_kind", "_law_born", "_law_stay", "_law_count"] "_law_rule" (defScope s_law_rule) A.a_law_rule cdv AA outer s H E) rfl rfl rfl rfl
    exact (xs_cons (xs_set (i := 1) nd rfl (Or.inl rfl) (xe_ixR ix_seq imp_ix (of_new (xn_lst (xa_cons xe_int (xa_cons xe_int (xa_cons xe_int xa_nil))))) (xe_callBor tk G_law_draw (hr.mono (by decide)) (by rfl) T.M_law_draw T.F_law_draw.kp T.B_law_draw (pv 0) (xm_val xe_int xm_nil)) (fun _ _ => rfl)))
    (xs_cons (xs_if (xt_cmp (op_eqD hr.units) imp_eq (xe_callBor tk G_law_draw (hr.mono (by decide)) (by rfl) T.M_law_draw T.F_law_draw.kp T.B_law_draw (pv 0) (xm_val xe_int xm_nil)) xe_int (nomark _))
    (xs_cons (xs_set (i := 2) nd rfl (Or.inl rfl) (xe_dixV (hu1 hr) (of_new (xn_disp (ts := [((xC (.int 4)), (xOpL dLst (xCons (xOpL dTup (xCons (xC (.int 1)) xNil)) (xCons (xOpL dTup (xCons (xC (.int 2)) xNil)) (xCons (xOpL dTup (xCons (xC (.int 1)) (xCons (xC (.int 2)) xNil))) xNil))))), ((xC (.int 6)), (xOpL dLst (xCons (xOpL dTup (xCons (xC (.int 2)) xNil)) (xCons (xOpL dTup (xCons (xC (.int 2)) (xCons (xC (.int 3)) xNil))) (xCons (xOpL dTup (xCons (xC (.int 2)) (xCons (xC (.int 6)) xNil))) xNil))))), ((xC (.int 8)), (xOpL dLst (xCons (xOpL dTup (xCons (xC (.int 3)) xNil)) (xCons (xOpL dTup (xCons (xC (.int 2)) xNil)) (xCons (xOpL dTup (xCons (xC (.int 3)) (xCons (xC (.int 6)) xNil))) xNil)))))]) (pps_cons xe_int (of_new (xn_lst (xa_cons (xe_tup (xa_cons xe_int xa_nil)) (xa_cons (xe_tup (xa_cons xe_int xa_nil)) (xa_cons (xe_tup (xa_cons xe_int (xa_cons xe_int xa_nil))) xa_nil))))) (pps_cons xe_int (of_new (xn_lst (xa_cons (xe_tup (xa_cons xe_int xa_nil)) (xa_cons (xe_tup (xa_cons xe_int (xa_cons xe_int xa_nil))) (xa_cons (xe_tup (xa_cons xe_int (xa_cons xe_int xa_nil))) xa_nil))))) (pps_cons xe_int (of_new (xn_lst (xa_cons (xe_tup (xa_cons xe_int xa_nil)) (xa_cons (xe_tup (xa_cons xe_int xa_nil)) (xa_cons (xe_tup (xa_cons xe_int (xa_cons xe_int xa_nil))) xa_nil))))) pps_nil))))) (xe_var 1)))
    (xs_cons (xs_set (i := 3) nd rfl (Or.inl rfl) (xe_dixV (hu1 hr) (of_new (xn_disp (ts := [((xC (.int 4)), (xOpL dLst (xCons (xOpL dTup xNil) (xCons (xOpL dTup (xCons (xC (.int 1)) (xCons (xC (.int 2)) xNil))) (xCons (xOpL dTup (xCons (xC (.int 2)) (xCons (xC (.int 3)) xNil))) xNil))))), ((xC (.int 6)), (xOpL dLst (xCons (xOpL dTup (xCons (xC (.int 3)) (xCons (xC (.int 4)) xNil))) (xCons (xOpL dTup xNil) (xCons (xOpL dTup (xCons (xC (.int 2)) xNil)) xNil))))), ((xC (.int 8)), (xOpL dLst (xCons (xOpL dTup (xCons (xC (.int 2)) (xCons (xC (.int 3)) xNil))) (xCons (xOpL dTup xNil) (xCons (xOpL dTup (xCons (xC (.int 2)) (xCons (xC (.int 3)) xNil))) xNil)))))]) (pps_cons xe_int (of_new (xn_lst (xa_cons (xe_tup xa_nil) (xa_cons (xe_tup (xa_cons xe_int (xa_cons xe_int xa_nil))) (xa_cons (xe_tup (xa_cons xe_int (xa_cons xe_int xa_nil))) xa_nil))))) (pps_cons xe_int (of_new (xn_lst (xa_cons (xe_tup (xa_cons xe_int (xa_cons xe_int xa_nil))) (xa_cons (xe_tup xa_nil) (xa_cons (xe_tup (xa_cons xe_int xa_nil)) xa_nil))))) (pps_cons xe_int (of_new (xn_lst (xa_cons (xe_tup (xa_cons xe_int (xa_cons xe_int xa_nil))) (xa_cons (xe_tup xa_nil) (xa_cons (xe_tup (xa_cons xe_int (xa_cons xe_int xa_nil))) xa_nil))))) pps_nil))))) (xe_var 1)))
    (xs_one (xs_ret (xe_tup (xa_cons (xe_var 1) (xa_cons (xe_ixR ix_seq imp_ix (xe_var 2) (xe_callBor tk G_law_draw (hr.mono (by decide)) (by rfl) T.M_law_draw T.F_law_draw.kp T.B_law_draw (pv 0) (xm_val xe_int xm_nil)) (fun _ _ => rfl)) (xa_cons (xe_ixR ix_seq imp_ix (xe_var 3) (xe_callBor tk G_law_draw (hr.mono (by decide)) (by rfl) T.M_law_draw T.F_law_draw.kp T.B_law_draw (pv 0) (xm_val xe_int xm_nil)) (fun _ _ => rfl)) xa_nil))))))))
    xs_nil)
    (xs_cons (xs_set (i := 2) nd rfl (Or.inl rfl) (xe_callT call_tuple_of imp_tuple (by rfl) T.Z_tuple bt_tuple (xa_cons (of_new (xn_lc (own := [("_law_count", 4)]) rfl nd (xi_range2 (by rfl) T.Z_range xe_int (xe_op2R op_addAll imp_add (xe_var 1) xe_int)) (blkOk_by (own := [("_law_count", 4)]) (N := ["_law_pen_here", "_law_kind", "_law_born", "_law_stay", "_law_count"]) (sc := defScope s_law_rule) (by decide +kernel)) (fun _ _ _ _ _ => (xg_nameW nd rfl (Or.inl rfl))) (fun _ _ _ _ _ => (xts_one (xt_cmp (op_eqD hr.units) imp_eq (xe_callBor takes0 G_law_draw (hr.mono (by decide)) (by rfl) T.M_law_draw T.F_law_draw.kp T.B_law_draw (pv 0) (xm_val xe_int xm_nil)) xe_int (nomark _)))) (fun _ _ _ _ _ => (xe_var 4)))) xa_nil)))
    (xs_one (xs_ret (xe_tup (xa_cons (xe_var 1) (xa_cons (xe_var 2) (xa_cons (xe_callT call_tuple_of imp_tuple (by rfl) T.Z_tuple bt_tuple (xa_cons (of_new (xn_lc (own := [("_law_count", 4)]) rfl nd (xi_range1 (by rfl) T.Z_range (xe_op2R op_addAll imp_add (xe_var 1) xe_int)) (blkOk_by (own := [("_law_count", 4)]) (N := ["_law_pen_here", "_law_kind", "_law_born", "_law_stay", "_law_count"]) (sc := defScope s_law_rule) (by decide +kernel)) (fun _ _ _ _ _ => (xg_nameW nd rfl (Or.inl rfl))) (fun _ _ _ _ _ => (xts_one (xt_cmp (op_eqD hr.units) imp_eq (xe_callBor takes0 G_law_draw (hr.mono (by decide)) (by rfl) T.M_law_draw T.F_law_draw.kp T.B_law_draw (pv 0) (xm_val xe_int xm_nil)) xe_int (nomark _)))) (fun _ _ _ _ _ => (xe_var 4)))) xa_nil)) xa_nil))))))))))
theorem ok_law_cells (T : Txt K mg cv A) : FnOk P w K mg base (L2.CX P w) 2 A.a_law_cells A.d_law_cells ["_law_pen_here"] (spB K cv false [] f_law_cells) := by
  have G_law_draw := ok_law_draw (P := P) (w := w) (base := base) (cv := cv) T
  have nd := sc_law_cells.nd
  exact fn_bor (body := b_law_cells) [] T.F_law_cells sc_law_cells f_law_cells rfl (by decide) rfl (fun cdv AA outer s H E hr => by
    have tk := takes_of (X := cxOf (L2.CX P w) P w K mg base ["_law_pen_here", "_law_way", "_law_k", "_law_goer", "_law_side", "_law_cells_here", "_law_cell"] "_law_cells" (defScope s_law_cells) A.a_law_cells cdv AA outer s H E) rfl rfl rfl rfl
    exact (xs_cons (xs_set (i := 1) nd rfl (Or.inl rfl) (xe_callBor tk G_law_draw (hr.mono (by decide)) (by rfl) T.M_law_draw T.F_law_draw.kp T.B_law_draw (pv 0) (xm_val xe_int xm_nil)))
    (xs_cons (xs_if (xt_cmp (op_eqD hr.units) imp_eq (xe_var 1) xe_int (nomark _))
    (xs_one (xs_ret (of_new (xn_lc (own := [("_law_k", 2)]) rfl nd (xi_range1 (by rfl) T.Z_range xe_int) (blkOk_by (own := [("_law_k", 2)]) (N := ["_law_pen_here", "_law_way", "_law_k", "_law_goer", "_law_side", "_law_cells_here", "_law_cell"]) (sc := defScope s_law_cells) (by decide +kernel)) (fun _ _ _ _ _ => (xg_nameW nd rfl (Or.inl rfl))) (fun _ _ _ _ _ => (xts_one (xt_cmp (op_eqD hr.units) imp_eq (xe_callBor takes0 G_law_draw (hr.mono (by decide)) (by rfl) T.M_law_draw T.F_law_draw.kp T.B_law_draw (pv 0) (xm_val xe_int xm_nil)) xe_int (nomark _)))) (fun _ _ _ _ _ => (xe_tup (xa_cons (xe_op2R op_fdivW (imp_I fun _ _ _ => .int _) (xe_var 2) xe_int) (xa_cons (xe_op2R op_mod (imp_I fun _ _ _ => .int _) (xe_var 2) xe_int) xa_nil))))))))
    xs_nil)
    (xs_cons (xs_if (xt_cmp (op_eqD hr.units) imp_eq (xe_var 1) xe_int (nomark _))
    (xs_cons (xs_set (i := 3) nd rfl (Or.inl rfl) (of_new (xn_lst (xa_cons (xe_tup (xa_cons xe_int (xa_cons xe_int xa_nil))) (xa_cons (xe_tup (xa_cons xe_int (xa_cons xe_int xa_nil))) (xa_cons (xe_tup (xa_cons xe_int (xa_cons xe_int xa_nil))) (xa_cons (xe_tup (xa_cons xe_int (xa_cons xe_int xa_nil))) (xa_cons (xe_tup (xa_cons xe_int (xa_cons xe_int xa_nil))) xa_nil))))))))
    (xs_one (xs_ret (xe_ixR ix_seq imp_ix (of_new (xn_lst (xa_cons (xe_var 3) (xa_cons (of_new (xn_lst (xa_cons (xe_tup (xa_cons xe_int (xa_cons xe_int xa_nil))) (xa_cons (xe_tup (xa_cons xe_int (xa_cons xe_int xa_nil))) (xa_cons (xe_tup (xa_cons xe_int (xa_cons xe_int xa_nil))) xa_nil))))) (xa_cons (of_new (xn_lst (xa_cons (xe_tup (xa_cons xe_int (xa_cons xe_int xa_nil))) (xa_cons (xe_tup (xa_cons xe_int (xa_cons xe_int xa_nil))) (xa_cons (xe_tup (xa_cons xe_int (xa_cons xe_int xa_nil))) (xa_cons (xe_tup (xa_cons xe_int (xa_cons xe_int xa_nil))) xa_nil)))))) (xa_cons (of_new (xn_lst xa_nil)) xa_nil)))))) (xe_callBor tk G_law_draw (hr.mono (by decide)) (by rfl) T.M_law_draw T.F_law_draw.kp T.B_law_draw (pv 0) (xm_val xe_int xm_nil)) (fun _ _ => rfl)))))
    xs_nil)
    (xs_cons (xs_set (i := 4) nd rfl (Or.inl rfl) (xe_op2R op_addAll imp_add xe_int (xe_callBor tk G_law_draw (hr.mono (by decide)) (by rfl) T.M_law_draw T.F_law_draw.kp T.B_law_draw (pv 0) (xm_val xe_int xm_nil))))
    (xs_cons (xs_setO (i := 5) nd rfl (Or.inl rfl) (xn_lst xa_nil))
    (xs_cons (xs_for (passes_of rfl) rfl (xi_range1 (by rfl) T.Z_range (xe_callBor tk G_law_draw (hr.mono (by decide)) (by rfl) T.M_law_draw T.F_law_draw.kp T.B_law_draw (pv 0) (xm_val xe_int xm_nil))) (xg_name nd rfl (Or.inl rfl))
    (xs_cons (xs_set (i := 6) nd rfl (Or.inl rfl) (xe_tup (xa_cons (xe_callBor tk G_law_draw (hr.mono (by decide)) (by rfl) T.M_law_draw T.F_law_draw.kp T.B_law_draw (pv 0) (xm_val (xe_var 4) xm_nil)) (xa_cons (xe_callBor tk G_law_draw (hr.mono (by decide)) (by rfl) T.M_law_draw T.F_law_draw.kp T.B_law_draw (pv 0) (xm_val (xe_var 4) xm_nil)) xa_nil))))
    (xs_one (xs_if (xt_cmpO (op_notInX (hu65 hr)) imp_notInX (xe_var 6) (pv 5) (by rfl))
    (xs_one (xs_append (i := 5) rfl (Or.inl rfl) (xe_var 6) (pe_bm PySem.F.plainAttrs_list PySem.F.slot_list_append PySem.F.type_list_append mt_append (pv 5) (pa_cons (xe_var 6) pa_nil))))
    xs_nil))))
    (xs_one (xs_ret (of_new (xn_callBr (ban := 1000) (cr_sortedD (hu200 hr)) imp_sortedR (by rfl) T.Z_sorted bt_sorted (xm_own (j := 5) (pv 5) xm_nil))))))))))))
theorem ok_law_picture (T : Txt K mg cv A) : FnOk P w K mg base (L2.CX P w) 3 A.a_law_picture A.d_law_picture ["_law_pen_here"] (spB K cv true [] f_law_picture) := by
  have G_law_number := ok_law_number (P := P) (w := w) (base := base) (cv := cv) T
  have G_law_cells := ok_law_cells (P := P) (w := w) (base := base) (cv := cv) T
  have nd := sc_law_picture.nd
  exact fn_bor (body := b_law_picture) [] T.F_law_picture sc_law_picture f_law_picture rfl (by decide) rfl (fun cdv AA outer s H E hr => by
    have tk := takes_of (X := cxOf (L2.CX P w) P w K mg base ["_law_pen_here", "_law_cells_here", "_law_dx", "_law_dy", "_law_x", "_law_y"] "_law_picture" (defScope s_law_picture) A.a_law_picture cdv AA outer s H E) rfl rfl rfl rfl
    exact (xs_cons (xs_set (i := 1) nd rfl (Or.inl rfl) (xe_callBor tk G_law_cells (hr.mono (by decide)) (by rfl) T.M_law_cells T.F_law_cells.kp T.B_law_cells (pv 0) xm_nil))
    (xs_cons (xs_set (i := 2) nd rfl (Or.inr rfl) (xe_callBor tk G_law_number (hr.mono (by decide)) (by rfl) T.M_law_number T.F_law_number.kp T.B_law_number (pv 0) xm_nil))
    (xs_cons (xs_set (i := 3) nd rfl (Or.inr rfl) (xe_callBor tk G_law_number (hr.mono (by decide)) (by rfl) T.M_law_number T.F_law_number.kp T.B_law_number (pv 0) xm_nil))
    (xs_one (xs_retN (xn_lc (own := [("_law_x", 4), ("_law_y", 5)]) rfl nd (xi_seq (xe_var 1)) (blkOk_by (own := [("_law_x", 4), ("_law_y", 5)]) (N := ["_law_pen_here", "_law_cells_here", "_law_dx", "_law_dy", "_law_x", "_law_y"]) (sc := defScope s_law_picture) (by decide +kernel)) (fun _ _ _ _ _ => (xg_tup rfl (xgs_cons (xg_nameW nd rfl (Or.inl rfl)) (xgs_cons (xg_nameW nd rfl (Or.inl rfl)) xgs_nil)))) (fun _ _ _ _ _ => xts_nil) (fun _ _ _ _ _ => (xe_tup (xa_cons (xe_op2R op_addAll imp_add (xe_var 4) (xe_var 2)) (xa_cons (xe_op2R op_addAll imp_add (xe_var 5) (xe_var 3)) xa_nil)))))))))))
theorem ok_law_steps (T : Txt K mg cv A) : FnOk P w K mg base (L2.CX P w) 1 A.a_law_steps A.d_law_steps ["_law_kind"] (spP K cv false [false] f_law_steps) := by
  have nd := sc_law_steps.nd
  exact fn_pure (body := b_law_steps) [false] T.F_law_steps sc_law_steps f_law_steps rfl (by decide) rfl (fun cdv AA outer s H E hr => by
    have tk := takes_of (X := cxOf (L2.CX P w) P w K mg base ["_law_kind", "_law_found"] "_law_steps" (defScope s_law_steps) A.a_law_steps cdv AA outer s H E) rfl rfl rfl rfl
    exact (xs_cons (xs_set (i := 1) nd rfl (Or.inl rfl) (of_new (xn_lst (xa_cons (xe_tup (xa_cons xe_int (xa_cons (xe_un un_neg imp_neg xe_int) xa_nil))) (xa_cons (xe_tup (xa_cons (xe_un un_neg imp_neg xe_int) (xa_cons xe_int xa_nil))) (xa_cons (xe_tup (xa_cons xe_int (xa_cons xe_int xa_nil))) (xa_cons (xe_tup (xa_cons xe_int (xa_cons xe_int xa_nil))) xa_nil)))))))
    (xs_cons (xs_if (xt_cmp op_gt (imp_I0 fun _ _ _ => .bl _) (xe_var 0) xe_int (nomark _))
    (xs_one (xs_set (i := 1) nd rfl (Or.inl rfl) (xe_op2R op_addAll imp_add (xe_var 1) (of_new (xn_lst (xa_cons (xe_tup (xa_cons (xe_un un_neg imp_neg xe_int) (xa_cons (xe_un un_neg imp_neg xe_int) xa_nil))) (xa_cons (xe_tup (xa_cons xe_int (xa_cons xe_int xa_nil))) xa_nil)))))))
    xs_nil)
    (xs_cons (xs_if (xt_cmp (op_eqD hr.units) imp_eq (xe_var 0) xe_int (nomark _))
    (xs_one (xs_set (i := 1) nd rfl (Or.inl rfl) (xe_op2R op_addAll imp_add (xe_var 1) (of_new (xn_lst (xa_cons (xe_tup (xa_cons (xe_un un_neg imp_neg xe_int) (xa_cons xe_int xa_nil))) (xa_cons (xe_tup (xa_cons xe_int (xa_cons (xe_un un_neg imp_neg xe_int) xa_nil))) xa_nil)))))))
    xs_nil)
    (xs_one (xs_ret (xe_var 1)))))))
theorem ok_law_next (T : Txt K mg cv A) : FnOk P w K mg base (L2.CX P w) 2 A.a_law_next A.d_law_next ["_law_told", "_law_live"] (spP K cv true [false, false] f_law_next) := by
  have G_law_steps := ok_law_steps (P := P) (w := w) (base := base) (cv := cv) T
  have nd := sc_law_next.nd
  exact fn_pure (body := b_law_next) [false, false] T.F_law_next sc_law_next f_law_next rfl (by decide) rfl (fun cdv AA outer s H E hr => by
    have tk := takes_of (X := cxOf (L2.CX P w) P w K mg base ["_law_told", "_law_live", "_law_near", "_law_cell", "_law_step", "_law_there", "_law_alive"] "_law_next" (defScope s_law_next) A.a_law_next cdv AA outer s H E) rfl rfl rfl rfl
    exact (xs_cons (xs_setO (i := 2) nd rfl (Or.inr rfl) xn_dnewT)
    (xs_cons (xs_for (passes_of rfl) rfl (xi_seq (xe_var 1)) (xg_name nd rfl (Or.inl rfl))
    (xs_cons (xs_dput (i := 2) (hu1 hr) (pv 2) (xe_var 3) (xe_dget2 (hu1 hr) (pv 2) (xe_var 3) xe_int))
    (xs_one (xs_for (passes_of rfl) rfl (xi_seq (xe_call (ban := 1000) tk G_law_steps (hr.mono (by decide)) (by rfl) T.M_law_steps T.F_law_steps.kp T.B_law_steps (xm_val (xe_ixR ix_seq imp_ix (xe_var 0) xe_int (fun _ _ => rfl)) xm_nil))) (xg_name nd rfl (Or.inl rfl))
    (xs_cons (xs_set (i := 5) nd rfl (Or.inl rfl) (xe_tup (xa_cons (xe_op2R op_addAll imp_add (xe_ixR ix_seq imp_ix (xe_var 3) xe_int (fun _ _ => rfl)) (xe_ixR ix_seq imp_ix (xe_var 4) xe_int (fun _ _ => rfl))) (xa_cons (xe_op2R op_addAll imp_add (xe_ixR ix_seq imp_ix (xe_var 3) xe_int (fun _ _ => rfl)) (xe_ixR ix_seq imp_ix (xe_var 4) xe_int (fun _ _ => rfl))) xa_nil))))
    (xs_one (xs_dput (i := 2) (hu1 hr) (pv 2) (xe_var 5) (xe_op2R op_addAll imp_add (xe_dget2 (hu1 hr) (pv 2) (xe_var 5) xe_int) xe_int))))))))
    (xs_cons (xs_setO (i := 6) nd rfl (Or.inr rfl) xn_dnewT)
    (xs_cons (xs_for (passes_of rfl) rfl (xi_seq (xe_var 1)) (xg_name nd rfl (Or.inl rfl))
    (xs_one (xs_dput (i := 6) (hu1 hr) (pv 6) (xe_var 3) xe_bl)))
    (xs_one (xs_retN (xn_callB (cr_sortedD (hu200 hr)) imp_sorted (by rfl) T.Z_sorted bt_sorted (xa_cons (of_new (xn_frz 2 (xn_lock 2 (xn_lc (own := [("_law_cell", 3)]) rfl nd (xi_keys (pv 2)) (blkOk_by (own := [("_law_cell", 3)]) (N := ["_law_told", "_law_live", "_law_near", "_law_cell", "_law_step", "_law_there", "_law_alive"]) (sc := defScope s_law_next) (by decide +kernel)) (fun _ _ _ _ _ => (xg_nameW nd rfl (Or.inl rfl))) (fun _ _ _ _ _ => (xts_one (xt_cmp (op_inX (hu65 hr)) imp_inX (xe_dix (hu1 hr) (pv 2) (xe_var 3)) (xe_ixR ix_seq imp_ix (xe_var 0) (xe_op2R op_addAll imp_add xe_int (xe_callT call_int1 imp_int (by rfl) T.Z_int bt_int (xa_cons (xe_cmpO (op_inX (hu65 hr)) imp_inX (xe_var 3) (pv 6) (by rfl)) xa_nil))) (fun _ _ => rfl)) (by rfl)))) (fun _ _ _ _ _ => (xe_var 3)))))) xa_nil)))))))))
theorem ok_law_is_refused (T : Txt K mg cv A) : FnOk P w K mg base (L2.CX P w) 6 A.a_law_is_refused A.d_law_is_refused ["_law_told", "_law_live", "_law_most"] (spP K cv false [false, false, false] f_law_is_refused) := by
  have G_fate := ok_fate (P := P) (w := w) (base := base) (cv := cv) T
  have nd := sc_law_is_refused.nd
  exact fn_pure (body := b_law_is_refused) [false, false, false] T.F_law_is_refused sc_law_is_refused f_law_is_refused rfl (by decide) rfl (fun cdv AA outer s H E hr => by
    have tk := takes_of (X := cxOf (L2.CX P w) P w K mg base ["_law_told", "_law_live", "_law_most", "_law_found", "e", "_law_other"] "_law_is_refused" (defScope s_law_is_refused) A.a_law_is_refused cdv AA outer s H E) rfl rfl rfl rfl
    exact (xs_cons (xs_set (i := 3) nd rfl (Or.inl rfl) (xe_tup xa_nil))
    (xs_cons (xs_try (i := 4) (by decide) rfl rfl nd rfl rfl ⟨by rfl, by decide, Or.inl T.N_CellError⟩ tk (by intro k hk; simp only [List.mem_cons, List.not_mem_nil, or_false] at hk; subst hk; (rw [T.V_Loud]; exact kit_to (by decide) (exm_of T.L_CellError T.Y_CellError T.S_Loud_CellError))) (fun W pn xe tk po => (xs_one (xs_expr (xe_call (ban := 1000) tk G_fate (hr.mono (by decide)) (by rfl) T.M_fate T.F_fate.kp T.B_fate (xm_val (xe_var 0) (xm_val (xe_var 1) (xm_val (xe_var 2) xm_nil)))))))
    (by intro k hk hh a oe pn hz hf; simp only [List.mem_cons, List.not_mem_nil, or_false] at hk; subst hk; (rw [T.V_Loud] at hz; exact (xs_cons (xs_set (i := 5) nd rfl (Or.inl rfl) (xe_isET T.E_Loud hz hf (by rfl) T.Z_isinstance (pv 4) (ClsNs.ref (by rfl) T.N_Folded (by decide) (ClsNs.ref (by rfl) T.N_NoLine (by decide) (ClsNs.ref (by rfl) T.N_NoName (by decide) (ClsNs.ref (by rfl) T.N_NoNumber (by decide) (ClsNs.ref (by rfl) T.N_NoRest (by decide) (ClsNs.ref (by rfl) T.N_NoRule (by decide) (ClsNs.ref (by rfl) T.N_NoSize (by decide) (ClsNs.ref (by rfl) T.N_NoText (by decide) (ClsNs.ref (by rfl) T.N_NoThing (by decide) (ClsNs.ref (by rfl) T.N_Outside (by decide) ClsNs.nil)))))))))) (kit_to (by decide) (kit_cons (kit_ref T.L_Folded T.S_Loud_Folded) (kit_cons (kit_ref T.L_NoLine T.S_Loud_NoLine) (kit_cons (kit_ref T.L_NoName T.S_Loud_NoName) (kit_cons (kit_ref T.L_NoNumber T.S_Loud_NoNumber) (kit_cons (kit_ref T.L_NoRest T.S_Loud_NoRest) (kit_cons (kit_ref T.L_NoRule T.S_Loud_NoRule) (kit_cons (kit_ref T.L_NoSize T.S_Loud_NoSize) (kit_cons (kit_ref T.L_NoText T.S_Loud_NoText) (kit_cons (kit_ref T.L_NoThing T.S_Loud_NoThing) (kit_cons (kit_ref T.L_Outside T.S_Loud_Outside) kit_nil))))))))))) (by show 10 ≤ sizeLine; exact szn (by decide))))
    (xs_one (xs_set (i := 3) nd rfl (Or.inl rfl) (xe_tup (xa_cons (xe_isE T.E_Loud hz hf (by rfl) T.Z_isinstance (pv 4) (by rfl) T.N_Loud (kit_to (by decide) (kit_ref T.L_Loud T.S_Loud_Loud))) (xa_cons (xe_isEB T.E_Loud hz hf (by rfl) T.Z_isinstance (pv 4) (pe_bltn (v := .ty "ValueError") (by rfl) T.Z_ValueError bt_ValueError rfl (by decide) (by decide)) (kit_to (by decide) (kit_tyE meta_ValueError T.S_Loud_ValueError))) (xa_cons (xe_or (xe_var 5) (xe_one (xe_isE T.E_Loud hz hf (by rfl) T.Z_isinstance (pv 4) (by rfl) T.N_TooWide (kit_to (by decide) (kit_ref T.L_TooWide T.S_Loud_TooWide))))) xa_nil))))))))))
    (xs_one (xs_ret (xe_cmp (op_eqD hr.units) imp_eq (xe_var 3) (xe_tup (xa_cons xe_bl (xa_cons xe_bl (xa_cons xe_bl xa_nil)))) (nomark _)))))))
theorem ok_law_due (T : Txt K mg cv A) : FnOk P w K mg base (L2.CX P w) 3 A.a_law_due A.d_law_due ["_law_told", "_law_live", "_law_most"] (spP K cv false [false, false, false] f_law_due) := by
  have G_law_next := ok_law_next (P := P) (w := w) (base := base) (cv := cv) T
  have nd := sc_law_due.nd
  exact fn_pure (body := b_law_due) [false, false, false] T.F_law_due sc_law_due f_law_due rfl (by decide) rfl (fun cdv AA outer s H E hr => by
    have tk := takes_of (X := cxOf (L2.CX P w) P w K mg base ["_law_told", "_law_live", "_law_most", "_law_later", "_law_move", "_law_x", "_law_y"] "_law_due" (defScope s_law_due) A.a_law_due cdv AA outer s H E) rfl rfl rfl rfl
    exact (xs_cons (xs_if (xt_cmp (op_eqD hr.units) imp_eq (xe_var 1) (of_new (xn_lst xa_nil)) (nomark _))
    (xs_one (xs_ret (xe_tup (xa_cons xe_str (xa_cons xe_int xa_nil)))))
    xs_nil)
    (xs_cons (xs_if (xt_cmp (op_eqD hr.units) imp_eq (xe_var 2) xe_int (nomark _))
    (xs_one (xs_ret (xe_tup (xa_cons xe_str xa_nil))))
    xs_nil)
    (xs_cons (xs_set (i := 3) nd rfl (Or.inl rfl) (of_new (xn_call (ban := 1000) tk G_law_next (hr.mono (by decide)) (by rfl) T.M_law_next T.F_law_next.kp T.B_law_next (xm_val (xe_var 0) (xm_val (xe_var 1) xm_nil)))))
    (xs_cons (xs_if (xt_cmp (op_eqD hr.units) imp_eq (xe_var 3) (of_new (xn_lst xa_nil)) (nomark _))
    (xs_one (xs_ret (xe_tup (xa_cons xe_str (xa_cons xe_int xa_nil)))))
    xs_nil)
    (xs_cons (xs_set (i := 4) nd rfl (Or.inr rfl) (xe_tup (xa_cons (xe_op2R op_sub (imp_I0 fun _ _ _ => .int _) (xe_ixR ix_seq imp_ix (xe_ixR ix_seq imp_ix (xe_var 3) xe_int (fun _ _ => rfl)) xe_int (fun _ _ => rfl)) (xe_ixR ix_seq imp_ix (xe_ixR ix_seq imp_ix (xe_var 1) xe_int (fun _ _ => rfl)) xe_int (fun _ _ => rfl))) (xa_cons (xe_op2R op_sub (imp_I0 fun _ _ _ => .int _) (xe_ixR ix_seq imp_ix (xe_ixR ix_seq imp_ix (xe_var 3) xe_int (fun _ _ => rfl)) xe_int (fun _ _ => rfl)) (xe_ixR ix_seq imp_ix (xe_ixR ix_seq imp_ix (xe_var 1) xe_int (fun _ _ => rfl)) xe_int (fun _ _ => rfl))) xa_nil))))
    (xs_cons (xs_if (xt_cmp (op_eqD hr.units) imp_eq (of_new (xn_lc (own := [("_law_x", 5), ("_law_y", 6)]) rfl nd (xi_seq (xe_var 1)) (blkOk_by (own := [("_law_x", 5), ("_law_y", 6)]) (N := ["_law_told", "_law_live", "_law_most", "_law_later", "_law_move", "_law_x", "_law_y"]) (sc := defScope s_law_due) (by decide +kernel)) (fun _ _ _ _ _ => (xg_tup rfl (xgs_cons (xg_nameW nd rfl (Or.inl rfl)) (xgs_cons (xg_nameW nd rfl (Or.inl rfl)) xgs_nil)))) (fun _ _ _ _ _ => xts_nil) (fun _ _ _ _ _ => (xe_tup (xa_cons (xe_op2R op_addAll imp_add (xe_var 5) (xe_ixR ix_seq imp_ix (xe_var 4) xe_int (fun _ _ => rfl))) (xa_cons (xe_op2R op_addAll imp_add (xe_var 6) (xe_ixR ix_seq imp_ix (xe_var 4) xe_int (fun _ _ => rfl))) xa_nil)))))) (xe_var 3) (nomark _))
    (xs_one (xs_ret (xe_tup (xa_cons xe_str (xa_cons xe_int (xa_cons xe_int (xa_cons (xe_var 4) xa_nil)))))))
    xs_nil)
    (xs_one (xs_ret (xe_tup (xa_cons xe_str xa_nil)))))))))))
theorem ok_law_word (T : Txt K mg cv A) : FnOk P w K mg base (L2.CX P w) 1 A.a_law_word A.d_law_word ["_law_due_here"] (spP K cv false [false] f_law_word) := by
  have nd := sc_law_word.nd
  exact fn_pure (body := b_law_word) [false] T.F_law_word sc_law_word f_law_word rfl (by decide) rfl (fun cdv AA outer s H E hr => by
    have tk := takes_of (X := cxOf (L2.CX P w) P w K mg base ["_law_due_here"] "_law_word" (defScope s_law_word) A.a_law_word cdv AA outer s H E) rfl rfl rfl rfl
    exact (xs_cons (xs_if (xt_cmp (op_neD hr.units) imp_ne (xe_ixR ix_seq imp_ix (xe_var 0) xe_int (fun _ _ => rfl)) xe_str (nomark _))
    (xs_one (xs_ret (xe_ixR ix_seq imp_ix (xe_var 0) xe_int (fun _ _ => rfl))))
    xs_nil)
    (xs_cons (xs_if (PW.pt (xw_or (xt_cmp (op_neD hr.units) imp_ne (xe_ixR ix_seq imp_ix (xe_ixR ix_seq imp_ix (xe_var 0) xe_int (fun _ _ => rfl)) xe_int (fun _ _ => rfl)) xe_int (nomark _)) (xw_or1 (xt_cmp (op_neD hr.units) imp_ne (xe_ixR ix_seq imp_ix (xe_ixR ix_seq imp_ix (xe_var 0) xe_int (fun _ _ => rfl)) xe_int (fun _ _ => rfl)) xe_int (nomark _)))))
    (xs_one (xs_ret xe_str))
    xs_nil)
    (xs_one (xs_ret (xe_ixR ix_seq imp_ix (of_new (xn_lst (xa_cons xe_str (xa_cons xe_str xa_nil)))) (xe_callT call_int1 imp_int (by rfl) T.Z_int bt_int (xa_cons (xe_cmp (op_eqD hr.units) imp_eq (xe_ixR ix_seq imp_ix (xe_var 0) xe_int (fun _ _ => rfl)) xe_int (nomark _)) xa_nil)) (fun _ _ => rfl)))))))
theorem ok_law_are_whole (T : Txt K mg cv A) : FnOk P w K mg base (L2.CX P w) 1 A.a_law_are_whole A.d_law_are_whole ["_law_found"] (spP K cv false [false] f_law_are_whole) := by
  have nd := sc_law_are_whole.nd
  exact fn_pure (body := b_law_are_whole) [false] T.F_law_are_whole sc_law_are_whole f_law_are_whole rfl (by decide) rfl (fun cdv AA outer s H E hr => by
    have tk := takes_of (X := cxOf (L2.CX P w) P w K mg base ["_law_found", "_law_numbers", "_law_n"] "_law_are_whole" (defScope s_law_are_whole) A.a_law_are_whole cdv AA outer s H E) rfl rfl rfl rfl
    exact (xs_cons (xs_set (i := 1) nd rfl (Or.inl rfl) (of_new (xn_callT call_list_of imp_list (by rfl) T.Z_list bt_list (xa_cons (xe_sliceT (xe_var 0) (xp_some xe_int) (xp_some xe_int)) xa_nil))))
    (xs_cons (xs_if (xt_cmp (op_eqD hr.units) imp_eq (xe_callB call_lenAll imp_len (by rfl) T.Z_len bt_len (xa_cons (xe_var 0) xa_nil)) xe_int (nomark _))
    (xs_cons (xs_if (PW.pt (xw_or (xt_not (xt_val (xe_callB call_isi imp_isi (by rfl) T.Z_isinstance bt_isinstance (xa_cons (xe_ixR ix_seq imp_ix (xe_var 0) xe_int (fun _ _ => rfl)) (xa_cons (xe_ty (by rfl) T.Z_tuple bt_tuple) xa_nil))))) (xw_or1 (xt_cmp (op_neD hr.units) imp_ne (xe_callB call_lenAll imp_len (by rfl) T.Z_len bt_len (xa_cons (xe_ixR ix_seq imp_ix (xe_var 0) xe_int (fun _ _ => rfl)) xa_nil)) xe_int (nomark _)))))
    (xs_one (xs_ret xe_bl))
    xs_nil)
    (xs_one (xs_set (i := 1) nd rfl (Or.inl rfl) (xe_op2R op_addAll imp_add (xe_var 1) (of_new (xn_callT call_list_of imp_list (by rfl) T.Z_list bt_list (xa_cons (xe_ixR ix_seq imp_ix (xe_var 0) xe_int (fun _ _ => rfl)) xa_nil)))))))
    xs_nil)
    (xs_one (xs_ret (xe_cmp (op_eqD hr.units) imp_eq (of_new (xn_lc (own := [("_law_n", 2)]) rfl nd (xi_seq (xe_var 1)) (blkOk_by (own := [("_law_n", 2)]) (N := ["_law_found", "_law_numbers", "_law_n"]) (sc := defScope s_law_are_whole) (by decide +kernel)) (fun _ _ _ _ _ => (xg_nameW nd rfl (Or.inl rfl))) (fun _ _ _ _ _ => (xts_one (PW.pt (xw_or (xt_not (xt_val (xe_callB call_isi imp_isi (by rfl) T.Z_isinstance bt_isinstance (xa_cons (xe_var 2) (xa_cons (xe_ty (by rfl) T.Z_int bt_int) xa_nil))))) (xw_or1 (xt_val (xe_callB call_isi imp_isi (by rfl) T.Z_isinstance bt_isinstance (xa_cons (xe_var 2) (xa_cons (xe_ty (by rfl) T.Z_bool bt_bool) xa_nil))))))))) (fun _ _ _ _ _ => (xe_var 2)))) (of_new (xn_lst xa_nil)) (nomark _)))))))
theorem ok_law_built (T : Txt K mg cv A) : FnOk P w K mg base (L2.CX P w) 3 A.a_law_built A.d_law_built ["_law_pen_here"] (spB K cv false [] f_law_built) := by
  have G_law_draw := ok_law_draw (P := P) (w := w) (base := base) (cv := cv) T
  have G_law_number := ok_law_number (P := P) (w := w) (base := base) (cv := cv) T
  have nd := sc_law_built.nd
  exact fn_bor (body := b_law_built) [] T.F_law_built sc_law_built f_law_built rfl (by decide) rfl (fun cdv AA outer s H E hr => by
    have tk := takes_of (X := cxOf (L2.CX P w) P w K mg base ["_law_pen_here", "_law_way", "_law_move"] "_law_built" (defScope s_law_built) A.a_law_built cdv AA outer s H E) rfl rfl rfl rfl
    exact (xs_cons (xs_set (i := 1) nd rfl (Or.inl rfl) (xe_callBor tk G_law_draw (hr.mono (by decide)) (by rfl) T.M_law_draw T.F_law_draw.kp T.B_law_draw (pv 0) (xm_val xe_int xm_nil)))
    (xs_cons (xs_if (xt_cmp (op_eqD hr.units) imp_eq (xe_var 1) xe_int (nomark _))
    (xs_one (xs_ret (xe_tup (xa_cons xe_str xa_nil))))
    xs_nil)
    (xs_cons (xs_if (xt_cmp (op_eqD hr.units) imp_eq (xe_var 1) xe_int (nomark _))
    (xs_one (xs_ret (xe_tup (xa_cons xe_str (xa_cons (xe_callB call_abs imp_abs (by rfl) T.Z_abs bt_abs (xa_cons (xe_callBor tk G_law_number (hr.mono (by decide)) (by rfl) T.M_law_number T.F_law_number.kp T.B_law_number (pv 0) xm_nil) xa_nil)) xa_nil)))))
    xs_nil)
    (xs_cons (xs_set (i := 2) nd rfl (Or.inl rfl) (xe_tup (xa_cons (xe_callBor tk G_law_number (hr.mono (by decide)) (by rfl) T.M_law_number T.F_law_number.kp T.B_law_number (pv 0) xm_nil) (xa_cons (xe_callBor tk G_law_number (hr.mono (by decide)) (by rfl) T.M_law_number T.F_law_number.kp T.B_law_number (pv 0) xm_nil) xa_nil))))
    (xs_cons (xs_if (xt_cmp (op_eqD hr.units) imp_eq (xe_callBor tk G_law_draw (hr.mono (by decide)) (by rfl) T.M_law_draw T.F_law_draw.kp T.B_law_draw (pv 0) (xm_val xe_int xm_nil)) xe_int (nomark _))
    (xs_one (xs_set (i := 2) nd rfl (Or.inl rfl) (xe_ixR ix_seq imp_ix (of_new (xn_lst (xa_cons (xe_tup (xa_cons xe_int (xa_cons xe_int xa_nil))) (xa_cons (xe_tup (xa_cons xe_int (xa_cons (xe_ixR ix_seq imp_ix (xe_var 2) xe_int (fun _ _ => rfl)) xa_nil))) (xa_cons (xe_tup (xa_cons (xe_ixR ix_seq imp_ix (xe_var 2) xe_int (fun _ _ => rfl)) (xa_cons xe_int xa_nil))) xa_nil))))) (xe_callBor tk G_law_draw (hr.mono (by decide)) (by rfl) T.M_law_draw T.F_law_draw.kp T.B_law_draw (pv 0) (xm_val xe_int xm_nil)) (fun _ _ => rfl))))
    xs_nil)
    (xs_one (xs_ret (xe_tup (xa_cons xe_str (xa_cons (xe_callB call_abs imp_abs (by rfl) T.Z_abs bt_abs (xa_cons (xe_callBor tk G_law_number (hr.mono (by decide)) (by rfl) T.M_law_number T.F_law_number.kp T.B_law_number (pv 0) xm_nil) xa_nil)) (xa_cons (xe_ixR ix_seq imp_ix (of_new (xn_lst (xa_cons xe_int (xa_cons xe_int (xa_cons (xe_op2R op_addAll imp_add xe_int (xe_callB call_abs imp_abs (by rfl) T.Z_abs bt_abs (xa_cons (xe_callBor tk G_law_number (hr.mono (by decide)) (by rfl) T.M_law_number T.F_law_number.kp T.B_law_number (pv 0) xm_nil) xa_nil))) xa_nil))))) (xe_callBor tk G_law_draw (hr.mono (by decide)) (by rfl) T.M_law_draw T.F_law_draw.kp T.B_law_draw (pv 0) (xm_val xe_int xm_nil)) (fun _ _ => rfl)) (xa_cons (xe_var 2) xa_nil)))))))))))))
theorem ok_law (T : Txt K mg cv A) : FnOk P w K mg base (L2.CX P w) 7 A.a_law A.d_law ["_law_script"] (spP K cv false [false] f_law) := by
  have G_fate := ok_fate (P := P) (w := w) (base := base) (cv := cv) T
  have G_word_of := ok_word_of (P := P) (w := w) (base := base) (cv := cv) T
  have G_law_pen := ok_law_pen (P := P) (w := w) (base := base) (cv := cv) T
  have G_law_rule := ok_law_rule (P := P) (w := w) (base := base) (cv := cv) T
  have G_law_picture := ok_law_picture (P := P) (w := w) (base := base) (cv := cv) T
  have G_law_is_refused := ok_law_is_refused (P := P) (w := w) (base := base) (cv := cv) T
  have G_law_due := ok_law_due (P := P) (w := w) (base := base) (cv := cv) T
  have G_law_word := ok_law_word (P := P) (w := w) (base := base) (cv := cv) T
  have G_law_are_whole := ok_law_are_whole (P := P) (w := w) (base := base) (cv := cv) T
  have G_law_built := ok_law_built (P := P) (w := w) (base := base) (cv := cv) T
  have nd := sc_law.nd
  exact fn_pure (body := b_law) [false] T.F_law sc_law f_law rfl (by decide) rfl (fun cdv AA outer s H E hr => by
    have tk := takes_of (X := cxOf (L2.CX P w) P w K mg base ["_law_script", "_law_k", "_law_pen_here", "_law_told", "_law_live", "_law_handed", "_law_most", "_law_turn", "_law_loud", "_law_due_here", "_law_found"] "law" (defScope s_law) A.a_law cdv AA outer s H E) rfl rfl rfl rfl
    exact (xs_cons (xs_for (passes_of rfl) rfl (xi_range1 (by rfl) T.Z_range xe_int) (xg_name nd rfl (Or.inl rfl))
    (xs_cons (xs_setO (i := 2) nd rfl (Or.inl rfl) (xn_call (ban := 1000) tk G_law_pen (hr.mono (by decide)) (by rfl) T.M_law_pen T.F_law_pen.kp T.B_law_pen (xm_val (xe_var 0) (xm_val (xe_var 1) xm_nil))))
    (xs_cons (xs_set (i := 3) nd rfl (Or.inl rfl) (xe_callBor tk G_law_rule (hr.mono (by decide)) (by rfl) T.M_law_rule T.F_law_rule.kp T.B_law_rule (pv 2) xm_nil))
    (xs_cons (xs_set (i := 4) nd rfl (Or.inl rfl) (of_new (xn_callBor tk G_law_picture (hr.mono (by decide)) (by rfl) T.M_law_picture T.F_law_picture.kp T.B_law_picture (pv 2) xm_nil)))
    (xs_cons (xs_set (i := 5) nd rfl (Or.inl rfl) (of_new (xn_callT call_list_of imp_list (by rfl) T.Z_list bt_list (xa_cons (xe_var 4) xa_nil))))
    (xs_cons (xs_for (passes_of rfl) rfl (xi_seq (of_new (xn_lst (xa_cons xe_int (xa_cons xe_int (xa_cons xe_int (xa_cons xe_int xa_nil))))))) (xg_name nd rfl (Or.inl rfl))
    (xs_cons (xs_set (i := 9) nd rfl (Or.inl rfl) (xe_call (ban := 1000) tk G_law_due (hr.mono (by decide)) (by rfl) T.M_law_due T.F_law_due.kp T.B_law_due (xm_val (xe_var 3) (xm_val (xe_var 4) (xm_val (xe_var 6) xm_nil)))))
    (xs_cons (xs_set (i := 10) nd rfl (Or.inl rfl) (xe_call (ban := 1000) tk G_fate (hr.mono (by decide)) (by rfl) T.M_fate T.F_fate.kp T.B_fate (xm_val (xe_var 3) (xm_val (xe_var 5) (xm_val (xe_var 6) xm_nil)))))
    (xs_cons (xs_if (PW.pt (xw_or (xt_not (xt_val (xe_callB call_isi imp_isi (by rfl) T.Z_isinstance bt_isinstance (xa_cons (xe_var 10) (xa_cons (xe_ty (by rfl) T.Z_tuple bt_tuple) xa_nil))))) (xw_or (xt_cmp (op_neD hr.units) imp_ne (xe_var 10) (xe_var 9) (nomark _)) (xw_or (xt_not (xt_val (xe_call (ban := 1000) tk G_law_are_whole (hr.mono (by decide)) (by rfl) T.M_law_are_whole T.F_law_are_whole.kp T.B_law_are_whole (xm_val (xe_var 10) xm_nil)))) (xw_or1 (xt_cmp (op_neD hr.units) imp_ne (xe_var 5) (xe_var 4) (nomark _)))))))
    (xs_one (xs_ret xe_bl))
    xs_nil)
    (xs_one (xs_if (xt_cmp (op_neD hr.units) imp_ne (xe_call (ban := 1000) tk G_word_of (hr.mono (by decide)) (by rfl) T.M_word_of T.F_word_of.kp T.B_word_of (xm_val (xe_var 10) xm_nil)) (xe_call (ban := 1000) tk G_law_word (hr.mono (by decide)) (by rfl) T.M_law_word T.F_law_word.kp T.B_law_word (xm_val (xe_var 9) xm_nil)) (nomark _))
    (xs_one (xs_ret xe_bl))
    xs_nil))))))
    (xs_cons (xs_for (passes_of rfl) rfl (xi_range1 (by rfl) T.Z_range xe_int) (xg_name nd rfl (Or.inl rfl))
    (xs_cons (xs_set (i := 9) nd rfl (Or.inl rfl) (xe_callBor tk G_law_built (hr.mono (by decide)) (by rfl) T.M_law_built T.F_law_built.kp T.B_law_built (pv 2) xm_nil))
    (xs_one (xs_if (xt_cmp (op_neD hr.units) imp_ne (xe_call (ban := 1000) tk G_word_of (hr.mono (by decide)) (by rfl) T.M_word_of T.F_word_of.kp T.B_word_of (xm_val (xe_var 9) xm_nil)) (xe_call (ban := 1000) tk G_law_word (hr.mono (by decide)) (by rfl) T.M_law_word T.F_law_word.kp T.B_law_word (xm_val (xe_var 9) xm_nil)) (nomark _))
    (xs_one (xs_ret xe_bl))
    xs_nil))))
    (xs_cons (xs_set (i := 8) nd rfl (Or.inl rfl) (xe_tup (xa_cons (xe_ixR ix_seq imp_ix (xe_var 3) xe_int (fun _ _ => rfl)) (xa_cons (xe_op2R op_addAll imp_add (xe_tup (xa_cons xe_int xa_nil)) (xe_ixR ix_seq imp_ix (xe_var 3) xe_int (fun _ _ => rfl))) (xa_cons (xe_ixR ix_seq imp_ix (xe_var 3) xe_int (fun _ _ => rfl)) xa_nil)))))
    (xs_one (xs_if (PW.pt (xw_or (xt_not (xt_val (xe_call (ban := 1000) tk G_law_is_refused (hr.mono (by decide)) (by rfl) T.M_law_is_refused T.F_law_is_refused.kp T.B_law_is_refused (xm_val (xe_var 8) (xm_val (xe_var 4) (xm_val xe_int xm_nil)))))) (xw_or1 (xt_not (xt_val (xe_call (ban := 1000) tk G_law_is_refused (hr.mono (by decide)) (by rfl) T.M_law_is_refused T.F_law_is_refused.kp T.B_law_is_refused (xm_val (xe_var 8) (xm_val (of_new (xn_lst xa_nil)) (xm_val xe_int xm_nil)))))))))
    (xs_one (xs_ret xe_bl))
    xs_nil))))))))))
    (xs_one (xs_ret xe_bl))))
end
local macro_rules | `(tactic| simp! [$ls,*] $[$loc:location]?) => `(tactic| simp only [zaa, zab, zac, zad, zae, zaf, zag, zah, zai, zaj, zak, zal, zam, zan, zao, zap, zaq, zar, zas, zat, zau, zav, zaw, zax, zay, zaz, zaA, zaB, zaC, zaD, zaE, zaF, zaG, zaH, zaI, zaJ, zaK, zaL, zaM, zaN, zaO, zaP, zaQ, zaR, zaS, zaT, zaU, zaV, zaW, zaX, zaY, zaZ, zba, zbb, zbc, zbd, zbe, zbf, zbg, zbh, zbi, zbj, zbk, zbl, zbm, zbn, zbo, zbp, zbq, zbr, zbs, zbt, zbu, zbv, zbw, zbx, zby, zbz, zbA, zbB, zbC, zbD, zbE, zbF, zbG, zbH, zbI, zbJ, zbK, zbL, zbM, zbN, zbO, zbP, zbQ, zbR, zbS, zbT, zbU, zbV, zbW, zbX, zbY, zbZ, zca, zcb, zcc, zcd, zce, zcf, zcg, zch, zci, zcj, zck, zcl, zcm, zcn, zco, zcp, zcq, zcr, zcs, zct, zcu, zcv, zcw, zcx, zcy, zcz, zcA, zcB, zcC, zcD, zcE, zcF, zcG, zcH, zcI, zcJ, zcK, zcL, zcM, zcN, zcO, zcP, zcQ, zcR, zcS, zcT, zcU, zcV, zcW, zcX, zcY, zcZ, zda, zdb, zdc, zdd, zde, zdf, zdg, zdh, zdi, zdj, zdk, zdl, zdm, zdn, zdo, zdp, zdq, zdr, zds, zdt, zdu, zdv, zdw, zdx, zdy, zdz, zdA, zdB, zdC, zdD, zdE, zdF, zdG, zdH, zdI, zdJ, zdK, zdL, zdM, zdN, zdO, zdP, zdQ, zdR, zdS, zdT, zdU, zdV, G.of_f, G.of_t, zdW, zdX, zdY, zdZ, zea, zeb, zec, zed, zee, zef, zeg, zeh, zei, zej, zek, zel, zem, zen, zeo, zep, zeq, zer, zes, zet, zeu, zev, zew, zex, zey, zez, zeA, zeB, zeC, zeD, zeE, zeF, zeG, zeH, zeI, zeJ, zeK, zeL, zeM, zeN, zeO, zeP, zeQ, zeR, zeS, zeT, zeU, zeV, zeW, zeX, zeY, zeZ, zfa, zfb, zfc, G.sz_1, G.sz_2, G.sz_3, G.sz_4, G.sz_0, zfd, zfe, zff, zfg, zfh, zfi, zfj, zfk, zfl, zfm, zfn, zfo, zfp, zfq, zfr, zfs, zft, zfu, zfv, zfw, G.nc_0, G.nc_1, G.nc_2, G.nc_3, G.nc_4, G.nc_5, G.nc_6, G.nc_7, G.nc_8, G.nc_9, zfx, zfy, zfz, zfA, zfB, zfC, zfD, zfE, zfF, zfG, zfH, zfI, zfJ, zfK, zfL, zfM, zfN, zfO, zfP, zfQ, zfR, zfS, zfT, zfU, zfV, zfW, zfX, zfY, zfZ, zga, zgb, zgc, zgd, zge, zgf, zgg, zgh, zgi, zgj, zgk, zgl, zgm, zgn, zgo, zgp, zgq, zgr, zgs, zgt, zgu, zgv, zgw, zgx, zgy, zgz, zgA, zgB, zgC, zgD, zgE, zgF, zgG, zgH, zgI, zgJ, zgK, zgL, zgM, zgN, zgO, zgP, zgQ, zgR, zgS, zgT, zgU, zgV, zgW, zgX, zgY, zgZ, zha, zhb, zhc, zhd, zhe, zhf, zhg, zhh, zhi, zhj, zhk, zhl, zhm, zhn, zho, zhp, zhq, zhr, zhs, zht, zhu, zhv, zhw, zhx, zhy, zhz, zhA, zhB, zhC, zhD, zhE, zhF, zhG, zhH, zhI, zhJ, zhK, zhL, zhM, zhN, zhO, zhP, zhQ, zhR, zhS, zhT, zhU, zhV, zhW, zhX, List.getElem?_cons_zero, List.getElem?_cons_succ, List.set_cons_zero, List.set_cons_succ, G.atI_0, G.atI_1, G.atI_2, G.atI_3, Option.map_some, Option.bind_some, G.eqD_int, G.eqD_cell, G.eqD_bl, List.length_cons, List.length_nil, List.getD_cons_zero, List.getD_cons_succ, Bool.and_true, Bool.and_self, decide_true, decide_false, Bool.not_true, Bool.not_false, List.append_nil, List.nil_append, List.cons_append, if_true, if_false, Bool.false_eq_true, reduceIte, Int.reduceLT, Int.reduceLE, Int.reduceToNat, Int.reducePow, Int.reduceNeg, Int.reduceAdd, Int.reduceSub, Int.reduceMul, Nat.reduceAdd, Int.reduceEq, List.replicate, Nat.reduceSub, and_self, and_true, true_and, $ls,*] $[$loc]?)
open PySem PySem.Spec PyProof.Rows L2 G
theorem draw_is : f_law_draw = fDraw := rfl
theorem pen_is : f_law_pen = fPen := rfl
theorem fate_p : f_fate = p_fate := rfl
theorem word_p : f_word_of = p_word_of := rfl
theorem lnext_p : f_law_next = p_law_next := rfl
theorem num_p : f_law_number = fNumL 30 := rfl
theorem rule_p : f_law_rule = fRuleT (xTest (xOp2 dEq (xCallB fDraw 0 (xCons (xC (.int 2)) xNil)) (xC (.int 0)))) := rfl
theorem pic_p : f_law_picture = fPic21 30 := rfl
theorem fateV_0 {f : Nat → List (Int × Int)} (h : f 0 = []) (n : Nat) : fateV f n = .gone 0 := by
  rcases fateV_spec f n with ⟨t, _, h1, h2, e⟩ | ⟨h1, _⟩
  · by_cases ht : t = 0
    · subst ht
      rw [e]
      unfold shownV
      rw [if_pos h]
      rfl
    · exact absurd h (h1 0 (by omega)).1
  · exact absurd h (h1 0 (Nat.zero_le _)).1
theorem quiet0 {f : Nat → List (Int × Int)} (h : f 0 ≠ []) : Quiet f 0 := ⟨h, fun e he => absurd he (by omega)⟩
theorem fateV_on {f : Nat → List (Int × Int)} (h : f 0 ≠ []) : fateV f 0 = .on := by
  rcases fateV_spec f 0 with ⟨t, ht, _, h2, e⟩ | ⟨_, e⟩
  · have : t = 0 := by omega
    subst this
    exact absurd (quiet0 h) h2
  · exact e
theorem fateV_1 {f : Nat → List (Int × Int)} (h : f 0 ≠ []) : fateV f 1 = shownV f 1 := by
  rcases fateV_spec f 1 with ⟨t, ht, _, h2, e⟩ | ⟨h1, e⟩
  · by_cases h0 : t = 0
    · subst h0
      exact absurd (quiet0 h) h2
    · have : t = 1 := by omega
      subst this
      exact e
  · rw [e]
    exact (shownV_on.mpr (h1 1 (Nat.le_refl _))).symm
theorem shownV_1 (f : Nat → List (Int × Int)) : shownV f 1 = if f 1 = [] then .gone 1 else match moveL (f 0) (f 1) with
    | some m => .comes 0 1 m
    | none => .on := by
  unfold shownV
  by_cases hz : f 1 = []
  · rw [if_pos hz, if_pos hz]
    rfl
  · rw [if_neg hz, if_neg hz, show List.range 1 = [0] from rfl, List.find?_cons]
    cases hm : moveL (f 0) (f 1) with
    | none => rfl
    | some m =>
      show FV.comes ((0 : Nat) : Int) (((1 : Nat) : Int) - ((0 : Nat) : Int)) ((moveL (f 0) (f 1)).getD (0, 0)) = _
      rw [hm]
      rfl
theorem due_is {k : Int} (hk : Kind k) {bs : List Int} (hq : 0 ∉ bs) (ss : List Int) (live : List (Int × Int)) (hl : live.length ≤ 100) (n : Nat) (hn : n = 0 ∨ n = 1) : f_law_due [ruleD k bs ss, cells live, .int (n : Int)] = .ok (fvD (fateV (afterP k bs ss live) n)) [] := by
  have h00 : afterP k bs ss live 0 = live := rfl
  have h01 : afterP k bs ss live 1 = nextP k bs ss live := rfl
  generalize afterP k bs ss live = f at *
  have q := eq_cells_nil live
  unfold f_law_due b_law_due
  by_cases hz : live = []
  · rw [decide_eq_true hz] at q
    rw [fateV_0 (h00.trans hz)]
    simp! [cells, fvD] at q ⊢
    simp! [q]
  · rw [decide_eq_false hz] at q
    rcases hn with rfl | rfl
    · rw [fateV_on (by rw [h00]; exact hz)]
      simp! [cells, fvD] at q ⊢
      simp! [q, nc_0]
    · rw [fateV_1 (by rw [h00]; exact hz), shownV_1, h00, h01]
      have e1 := law_next_is hk hq ss live (by omega)
      have q2 := eq_cells_nil (nextP k bs ss live)
      cases hN : nextP k bs ss live with
      | nil =>
        rw [hN] at e1 q2
        rw [decide_eq_true rfl] at q2
        rw [if_pos rfl]
        simp! [cells, fvD, ruleD, List.map_nil] at q q2 e1 ⊢
        simp! [q, nc_1, lnext_p, e1, q2]
      | cons w other =>
        rw [hN] at e1 q2
        rw [decide_eq_false (by simp)] at q2
        rw [if_neg (by simp)]
        cases live with
        | nil => exact absurd rfl hz
        | cons v one =>
          obtain ⟨x, y⟩ := v
          obtain ⟨a, b⟩ := w
          have hz2 : (cellP (x, y) :: one.map cellP).length ≤ sizeLine := by
            rw [List.length_cons, List.length_map]
            rw [List.length_cons] at hl
            exact szn (by omega)
          have run : ∀ (S T N O : D), lcRun (gsTup 2 (gsCons (gSet 5) (gsCons (gSet 6) gsNil))) xYes (xOpL dTup (xCons (xOp2 dAdd (xVar 5) (xOp2 dIx (xVar 4) (xC (.int 0)))) (xCons (xOp2 dAdd (xVar 6) (xOp2 dIx (xVar 4) (xC (.int 1)))) xNil))) [5, 6] (((x, y) :: one).map cellP) [] [.val T, .val S, .val N, .val O, .val (.tup [.int (a - x), .int (b - y)]), .emp, .emp] = .ok ((((x, y) :: one).map (sh (a - x, b - y))).map cellP) [.val T, .val S, .val N, .val O, .val (.tup [.int (a - x), .int (b - y)]), .emp, .emp] := fun S T N O => by
            rw [lcMap cellP (sh (a - x, b - y))]
            intro c hc
            obtain ⟨u, v⟩ := c
            simp! [cellP, sh]
          have run := run (.lst (cellP (x, y) :: one.map cellP)) (ruleD k bs ss) (.int 1) (.lst (cellP (a, b) :: other.map cellP))
          have he : eqD (.lst ((((x, y) :: one).map (sh (a - x, b - y))).map cellP)) (.lst (cellP (a, b) :: other.map cellP)) = some (decide (((x, y) :: one).map (sh (a - x, b - y)) = (a, b) :: other)) := eq_cells (((x, y) :: one).map (sh (a - x, b - y))) ((a, b) :: other)
          have hm : moveL ((x, y) :: one) ((a, b) :: other) = if ((x, y) :: one).map (sh (a - x, b - y)) = (a, b) :: other then some (a - x, b - y) else none := rfl
          rw [hm]
          generalize ((x, y) :: one).map (sh (a - x, b - y)) = R at run he
          have rr : ((x, y) :: one).map cellP = cellP (x, y) :: one.map cellP := rfl
          rw [rr] at run
          by_cases hR : R = (a, b) :: other
          · rw [decide_eq_true hR] at he
            rw [if_pos hR]
            simp! [cells, fvD, ruleD, List.map_cons, cellP] at q q2 e1 run he hz2 ⊢
            simp! [q, nc_1, lnext_p, e1, q2, run, hz2, he]
          · rw [decide_eq_false hR] at he
            rw [if_neg hR]
            simp! [cells, fvD, ruleD, List.map_cons, cellP] at q q2 e1 run he hz2 ⊢
            simp! [q, nc_1, lnext_p, e1, q2, run, hz2, he]
theorem law_word_is (v : FV) : f_law_word [fvD v] = .ok (wordV v) [] := by
  have s_oc : eqD (.str "on") (.str "comes") = some false := by kernel_rfl
  have s_gc : eqD (.str "gone") (.str "comes") = some false := by kernel_rfl
  have s_cc : eqD (.str "comes") (.str "comes") = some true := by kernel_rfl
  unfold f_law_word b_law_word
  cases v with
  | on => simp! [fvD, wordV, s_oc]
  | gone t => simp! [fvD, wordV, s_gc]
  | comes a b m =>
    obtain ⟨x, y⟩ := m
    by_cases hx : x = 0
    · by_cases hy : y = 0
      · subst hx hy
        by_cases hb : b = 1
        · rw [show wordV (.comes a b (0, 0)) = .str "rests" by (show (if ((0 : Int), (0 : Int)) = (0, 0) then (if b = 1 then D.str "rests" else D.str "again") else D.str "goes") = _); rw [if_pos rfl, if_pos hb]]
          simp! [fvD, s_cc, hb, dInt_bl]
        · rw [show wordV (.comes a b (0, 0)) = .str "again" by (show (if ((0 : Int), (0 : Int)) = (0, 0) then (if b = 1 then D.str "rests" else D.str "again") else D.str "goes") = _); rw [if_pos rfl, if_neg hb]]
          simp! [fvD, s_cc, hb, dInt_bl]
      · rw [show wordV (.comes a b (x, y)) = .str "goes" from if_neg (by intro z; exact hy (congrArg Prod.snd z))]
        simp! [fvD, s_cc, hx, hy]
    · rw [show wordV (.comes a b (x, y)) = .str "goes" from if_neg (by intro z; exact hx (congrArg Prod.fst z))]
      simp! [fvD, s_cc, hx]
theorem c_on (a : D) : cutG [a] (some 1) (some 3) = [] := rfl
theorem c_gone (a b : D) : cutG [a, b] (some 1) (some 3) = [b] := rfl
theorem c_comes (a b c d : D) : cutG [a, b, c, d] (some 1) (some 3) = [b, c] := rfl
theorem whole_run (ns : List Int) (T L : D) : lcRun (gSet 2) (xOr (xNot (xTest (xOpL dIsi (xCons (xVar 2) (xCons (xC (.ty "int")) xNil))))) (xTest (xOpL dIsi (xCons (xVar 2) (xCons (xC (.ty "bool")) xNil))))) (xVar 2) [2] (ns.map D.int) [] [.val T, .val L, .emp] = .ok [] [.val T, .val L, .emp] := by
  have h := lcFilt (g := gSet 2) (tt := xOr (xNot (xTest (xOpL dIsi (xCons (xVar 2) (xCons (xC (.ty "int")) xNil))))) (xTest (xOpL dIsi (xCons (xVar 2) (xCons (xC (.ty "bool")) xNil))))) (te := xVar 2) (vs := [2]) (ρ := [.val T, .val L, .emp]) (e1 := D.int) D.int (fun _ => false) id (l := ns) (fun n _ => by
    rw [if_neg (by decide)]
    simp! [zaa])
  rw [List.filter_eq_nil_iff.mpr (by intro a _; decide)] at h
  exact h
theorem whole_is (v : FV) : f_law_are_whole [fvD v] = .ok (.bl true) [] := by
  have q0 : eqD (.lst []) (.lst []) = some true := rfl
  have ad : ∀ a b c d : Int, dAdd (.lst [.int a, .int b]) (.lst [.int c, .int d]) = some (.lst [.int a, .int b, .int c, .int d]) := fun a b c d => zfb (szn (show 4 ≤ 1000 by decide))
  unfold f_law_are_whole b_law_are_whole
  cases v with
  | on =>
    have r := whole_run [] (fvD .on) (.lst [])
    simp! [fvD, List.map_nil] at r ⊢
    simp! [c_on, r, sz_0, q0]
  | gone t =>
    have r := whole_run [t] (fvD (.gone t)) (.lst [.int t])
    simp! [fvD, List.map_cons, List.map_nil] at r ⊢
    simp! [c_gone, r, sz_1, q0]
  | comes a b m =>
    have r := whole_run [a, b, m.1, m.2] (fvD (.comes a b m)) (.lst [.int a, .int b, .int m.1, .int m.2])
    simp! [fvD, List.map_cons, List.map_nil] at r ⊢
    simp! [c_comes, r, ad, sz_4, q0]
theorem built_ex {n : Nat} {p : D} (hp : PenOk n p) (hn : n + 40 < 2 ^ 60) : ∃ (v : FV) (p' : D), f_law_built [p] = .ok (fvD v) [p'] ∧ PenOk (n + 30) p' := by
  unfold f_law_built b_law_built
  obtain ⟨w, p1, e1, a1, b1, h1⟩ := draw_ex hp (by omega) (m := 6) (by decide) (by decide)
  by_cases w0 : w = 0
  · subst w0
    refine ⟨.on, p1, ?_, h1.mono (by omega)⟩
    simp! [draw_is, e1, fvD]
  by_cases w1 : w = 1
  · subst w1
    obtain ⟨x, p2, e2, h2⟩ := numL_ex 30 h1 (by omega)
    refine ⟨.gone (if x < 0 then -x else x), p2, ?_, h2.mono (by omega)⟩
    simp! [draw_is, num_p, e1, e2, fvD]
  obtain ⟨x, p2, e2, h2⟩ := numL_ex 30 h1 (by omega)
  obtain ⟨y, p3, e3, h3⟩ := numL_ex 30 h2 (by omega)
  obtain ⟨z, p4, e4, a4, b4, h4⟩ := draw_ex h3 (by omega) (m := 2) (by decide) (by decide)
  have fin : ∀ (q : D) (m : Int × Int) (N : Nat), PenOk N q → N ≤ n + 15 → ∃ (v : FV) (p' : D), (xRet (xOpL dTup (xCons (xC (.str "comes")) (xCons (xOpL dAbs (xCons (xCallB f_law_number 0 xNil) xNil)) (xCons (xOp2 dIx (xOpL dLst (xCons (xC (.int 1)) (xCons (xC (.int 2)) (xCons (xOp2 dAdd (xC (.int 1)) (xOpL dAbs (xCons (xCallB f_law_number 0 xNil) xNil))) xNil)))) (xCallB f_law_draw 0 (xCons (xC (.int 3)) xNil))) (xCons (xVar 2) xNil)))))) [.own q, .val (.int w), .val (.tup [.int m.1, .int m.2])] = .ret (fvD v) [.own p', .val (.int w), .val (.tup [.int m.1, .int m.2])] ∧ PenOk (n + 30) p' := fun q m N hq hN => by
    obtain ⟨x, q1, f1, g1⟩ := numL_ex 30 hq (by omega)
    obtain ⟨y, q2, f2, g2⟩ := numL_ex 30 g1 (by omega)
    obtain ⟨r, q3, f3, c3, d3, g3⟩ := draw_ex g2 (by omega) (m := 3) (by decide) (by decide)
    rcases (show r = 0 ∨ r = 1 ∨ r = 2 by omega) with rfl | rfl | rfl
    · refine ⟨.comes (if x < 0 then -x else x) 1 m, q3, ?_, g3.mono (by omega)⟩
      simp! [draw_is, num_p, f1, f2, f3, fvD]
    · refine ⟨.comes (if x < 0 then -x else x) 2 m, q3, ?_, g3.mono (by omega)⟩
      simp! [draw_is, num_p, f1, f2, f3, fvD]
    · refine ⟨.comes (if x < 0 then -x else x) (1 + (if y < 0 then -y else y)) m, q3, ?_, g3.mono (by omega)⟩
      simp! [draw_is, num_p, f1, f2, f3, fvD]
  generalize (xRet (xOpL dTup (xCons (xC (.str "comes")) (xCons (xOpL dAbs (xCons (xCallB f_law_number 0 xNil) xNil)) (xCons (xOp2 dIx (xOpL dLst (xCons (xC (.int 1)) (xCons (xC (.int 2)) (xCons (xOp2 dAdd (xC (.int 1)) (xOpL dAbs (xCons (xCallB f_law_number 0 xNil) xNil))) xNil)))) (xCallB f_law_draw 0 (xCons (xC (.int 3)) xNil))) (xCons (xVar 2) xNil)))))) = B at *
  by_cases hz : z = 0
  · subst hz
    obtain ⟨r, p5, e5, a5, b5, h5⟩ := draw_ex h4 (by omega) (m := 3) (by decide) (by decide)
    rcases (show r = 0 ∨ r = 1 ∨ r = 2 by omega) with rfl | rfl | rfl
    · obtain ⟨v, p', g, h⟩ := fin p5 (0, 0) _ h5 (by omega)
      refine ⟨v, p', ?_, h⟩
      simp! [draw_is, num_p, e1, w0, w1, e2, e3, e4, e5, g]
    · obtain ⟨v, p', g, h⟩ := fin p5 (0, y) _ h5 (by omega)
      refine ⟨v, p', ?_, h⟩
      simp! [draw_is, num_p, e1, w0, w1, e2, e3, e4, e5, g]
    · obtain ⟨v, p', g, h⟩ := fin p5 (x, 0) _ h5 (by omega)
      refine ⟨v, p', ?_, h⟩
      simp! [draw_is, num_p, e1, w0, w1, e2, e3, e4, e5, g]
  · obtain ⟨v, p', g, h⟩ := fin p4 (x, y) _ h4 (by omega)
    refine ⟨v, p', ?_, h⟩
    simp! [draw_is, num_p, e1, w0, w1, e2, e3, e4, hz, g]
theorem refused_is (k : Int) {bs : List Int} (hq : 0 ∈ bs) (ss : List Int) (R T : D) : f_law_is_refused [ruleD k bs ss, R, T] = .ok (.bl true) [] := by
  have e2 := fate_loud k hq ss R T
  have i1 : isX "Loud" ["CellError"] = true := by decide
  have i2 : isX "Loud" ["Loud"] = true := by decide
  have i3 : isX "Loud" ["ValueError"] = true := by decide
  have i4 : isX "Loud" ["TooWide"] = false := by decide
  have i5 : isX "Loud" ["Folded", "NoLine", "NoName", "NoNumber", "NoRest", "NoRule", "NoSize", "NoText", "NoThing", "Outside"] = false := by decide
  have c1 : List.contains ["Loud"] "Loud" = true := by decide
  have hand : ∀ ρ : Rho, ρ = [.val (ruleD k bs ss), .val R, .val T, .val (.tup []), .emp, .emp] → tryk 4 ["Loud"] (fun k => isX k ["CellError"]) e_law_is_refused_2 (.exc "Loud" ρ) = .nx [.val (ruleD k bs ss), .val R, .val T, .val (.tup [.bl true, .bl true, .bl false]), .emp, .val (.bl false)] := by
    rintro _ rfl
    have tr : ∀ ρ : Rho, tryk 4 ["Loud"] (fun k => isX k ["CellError"]) e_law_is_refused_2 (.exc "Loud" ρ) = if List.contains ["Loud"] "Loud" = true then (if isX "Loud" ["CellError"] = true then unif 4 fun a => e_law_is_refused_2 "Loud" a (ρ.set 4 (.adr a)) else .exc "Loud" ρ) else .bad := fun _ => rfl
    rw [tr, if_pos c1, if_pos i1]
    refine unif_of fun a => ?_
    unfold e_law_is_refused_2
    simp! [i2, i3, i4, i5]
    rfl
  have q3 : eqD (.tup [.bl true, .bl true, .bl false]) (.tup [.bl true, .bl true, .bl false]) = some true := by decide
  have hand := hand _ rfl
  unfold f_law_is_refused b_law_is_refused
  rw [show b_law_is_refused_1 = (xDrop (xCall p_fate (xCons (xVar 0) (xCons (xVar 1) (xCons (xVar 2) xNil))))) from rfl]
  simp! [ruleD] at e2 hand ⊢
  simp! [e2, hand, q3]
theorem eq_word (v : FV) : eqD (wordV v) (wordV v) = some true := by
  have h : wordV v = .str "on" ∨ wordV v = .str "gone" ∨ wordV v = .str "rests" ∨ wordV v = .str "again" ∨ wordV v = .str "goes" := by
    cases v with
    | on => exact .inl rfl
    | gone t => exact .inr (.inl rfl)
    | comes a b m =>
      by_cases hm : m = (0, 0)
      · by_cases hb : b = 1
        · exact .inr (.inr (.inl ((if_pos hm).trans (if_pos hb))))
        · exact .inr (.inr (.inr (.inl ((if_pos hm).trans (if_neg hb)))))
      · exact .inr (.inr (.inr (.inr (if_neg hm))))
  rcases h with h | h | h | h | h <;> rw [h] <;> kernel_rfl
theorem main (ns : List Int) (hl : ns.length ≤ 63) : f_law [.fix (ns.map D.int)] = .ok (.bl true) [] := by
  unfold f_law b_law
  obtain ⟨ρ', e, s1, s2, s3, s4, s5, s6, s7, s8, s9, s10, rfl⟩ := for_range_inv (g := gSet 1) (body := b_law_3) (lo := 0) (n := 3)
    (fun i ρ => ∃ s1 s2 s3 s4 s5 s6 s7 s8 s9 s10, ρ = [.val (.fix (ns.map D.int)), s1, s2, s3, s4, s5, s6, s7, s8, s9, s10]) (ρ := [.val (.fix (ns.map D.int)), .emp, .emp, .emp, .emp, .emp, .emp, .emp, .emp, .emp, .emp]) ⟨_, _, _, _, _, _, _, _, _, _, rfl⟩ (fun i ρ hi hρ => by
      obtain ⟨s1, s2, s3, s4, s5, s6, s7, s8, s9, s10, rfl⟩ := hρ
      refine ⟨_, rfl, ?_⟩
      obtain ⟨p, hp, hp1⟩ := pen_ex ns i
      obtain ⟨k, bs, ss, p1, e1, hr, h1⟩ := ruleT_ex (t := xTest (xOp2 dEq (xCallB fDraw 0 (xCons (xC (.int 2)) xNil)) (xC (.int 0)))) (c := 1) hp1 (by decide) (fun q k hq => by
        obtain ⟨x, q', e, _, _, hq'⟩ := draw_ex hq (by decide) (m := 2) (by decide) (by decide)
        refine ⟨decide (x = 0), q', ?_, hq'⟩
        simp! [e])
      obtain ⟨live, p2, e2, _, hlive, h2⟩ := pic21_ex 30 h1 (by decide)
      have hk := hr.1
      have hq := hr.quiet
      have fd : ∀ n : Nat, n = 0 ∨ n = 1 → ∃ v : FV, f_law_due [ruleD k bs ss, cells live, .int (n : Int)] = .ok (fvD v) [] ∧ p_fate [ruleD k bs ss, cells live, .int (n : Int)] = .ok (fvD v) [] := fun n hn => by
        refine ⟨_, due_is hk hq ss live (by omega) n hn, fate_is hk hq ss live n rfl (by omega) (fun t ht _ => ?_) (fun t ht _ => ?_)⟩
        · have : t = 0 := by omega
          subst this
          show live.length ≤ 440
          omega
        · rcases (show t = 0 ∨ t = 1 by omega) with rfl | rfl
          · show live.length ≤ 1000
            omega
          · have := nextP_len k bs ss live
            show (nextP k bs ss live).length ≤ 1000
            omega
      have ql := eq_cells live live
      rw [decide_eq_true rfl] at ql
      have one : ∀ (v : FV), eqD (fvD v) (fvD v) = some true := fun v => by
        rw [eq_fv, decide_eq_true rfl]
      have fv_tup : ∀ v : FV, dIsi [fvD v, .ty "tuple"] = some (.bl true) := fun v => by cases v <;> rfl
      obtain ⟨ρ1, g1, t6, t9, t10, rfl⟩ := for_list (g := gSet 6) (body := b_law_1) (e := D.int) (fun j ρ => ∃ s6 s9 s10, ρ = [.val (.fix (ns.map D.int)), .val (.int (i : Int)), .own p2, .val (ruleD k bs ss), .val (cells live), .val (cells live), s6, s7, s8, s9, s10]) (l := [0, 1, 0, 1]) (ρ := [.val (.fix (ns.map D.int)), .val (.int (i : Int)), .own p2, .val (ruleD k bs ss), .val (cells live), .val (cells live), s6, s7, s8, s9, s10]) ⟨_, _, _, rfl⟩ (fun j a ρ hj hρ => by
        obtain ⟨s6, s9, s10, rfl⟩ := hρ
        refine ⟨_, rfl, ?_⟩
        have ha : a = 0 ∨ a = 1 := by
          have := List.mem_of_getElem? hj
          simp at this
          omega
        obtain ⟨n, rfl, hn⟩ : ∃ n : Nat, a = (n : Int) ∧ (n = 0 ∨ n = 1) := by
          rcases ha with rfl | rfl
          · exact ⟨0, rfl, .inl rfl⟩
          · exact ⟨1, rfl, .inr rfl⟩
        obtain ⟨v, f1, f2⟩ := fd n hn
        have f3 := whole_is v
        have f4 := word_is v
        have f5 := law_word_is v
        have f6 := one v
        have f7 := fv_tup v
        have f8 := eq_word v
        generalize fvD v = V at *
        generalize wordV v = W at *
        unfold b_law_1
        simp! [ruleD, cells] at f1 f2 ⊢
        simp! [fate_p, word_p, f1, f2, f3, f4, f5, f6, f7, f8, ql]
        exact ⟨_, .inl rfl, _, _, _, rfl⟩)
      obtain ⟨ρ2, g2, q, t7, t9, rfl, _⟩ := for_range_inv (g := gSet 7) (body := b_law_2) (lo := 0) (n := 4)
        (fun j ρ => ∃ (q : D) (s7 s9 : Slot), ρ = [.val (.fix (ns.map D.int)), .val (.int (i : Int)), .own q, .val (ruleD k bs ss), .val (cells live), .val (cells live), t6, s7, s8, s9, t10] ∧ PenOk (1000 + 40 * j) q) (ρ := [.val (.fix (ns.map D.int)), .val (.int (i : Int)), .own p2, .val (ruleD k bs ss), .val (cells live), .val (cells live), t6, s7, s8, t9, t10]) ⟨p2, _, _, rfl, h2.mono (by decide)⟩ (fun j ρ hj hρ => by
          obtain ⟨q, s7, s9, rfl, hq1⟩ := hρ
          refine ⟨_, rfl, ?_⟩
          obtain ⟨v, q2, f1, hq2⟩ := built_ex hq1 (by omega)
          have f4 := word_is v
          have f5 := law_word_is v
          have f8 := eq_word v
          generalize fvD v = V at *
          generalize wordV v = W at *
          unfold b_law_2
          simp! [word_p, f1, f4, f5, f8]
          exact ⟨_, .inl rfl, _, _, _, rfl, hq2.mono (by omega)⟩)
      have hadd : dAdd (.tup [.int 0]) (.tup (bs.map D.int)) = some (.tup ((0 :: bs).map D.int)) := by
        have hbl := hr.len.1
        exact if_pos ⟨by simp, szn (by rw [List.length_map]; show 1 + bs.length ≤ 1000; omega)⟩
      have r1 := refused_is k (bs := 0 :: bs) (List.mem_cons_self ..) ss (cells live) (.int 1)
      have r2 := refused_is k (bs := 0 :: bs) (List.mem_cons_self ..) ss (.lst []) (.int 0)
      rw [Int.zero_add]
      unfold b_law_3
      simp! [ruleD, cells, List.map_cons, List.map_nil] at e1 e2 g1 g2 hadd r1 r2 ⊢
      simp! [rule_p, pic_p, draw_is, pen_is, hp, e1, e2, g1, g2, hadd, r1, r2]
      exact ⟨_, .inl rfl, _, _, _, _, _, _, _, _, _, _, rfl⟩)
  simp! [e]

theorem all_mk {l : PySem.W.OpenLaw} {w : World} {K : PySem.W.Frag} {h : Heap} {mg : Str → Option Value} {fa : Addr} (X : K.In h) (G : h.Ns mainGlobals mg) (hfa : mg "law" = some (.ref fa))
    {f0 : Addr} {od0 an0 : Option Addr} {sl0 : Array (Option Value)} {oc0 kV0 dc0 pm0 cd0 ct0 : Value}
    {f1 : Addr} {od1 an1 : Option Addr} {sl1 : Array (Option Value)} {oc1 kV1 dc1 pm1 cd1 ct1 : Value}
    {f2 : Addr} {od2 an2 : Option Addr} {sl2 : Array (Option Value)} {oc2 kV2 dc2 pm2 cd2 ct2 : Value}
    {f3 : Addr} {od3 an3 : Option Addr} {sl3 : Array (Option Value)} {oc3 kV3 dc3 pm3 cd3 ct3 : Value}
    {f4 : Addr} {od4 an4 : Option Addr} {sl4 : Array (Option Value)} {oc4 kV4 dc4 pm4 cd4 ct4 : Value}
    {f5 : Addr} {od5 an5 : Option Addr} {sl5 : Array (Option Value)} {oc5 kV5 dc5 pm5 cd5 ct5 : Value}
    {f6 : Addr} {od6 an6 : Option Addr} {sl6 : Array (Option Value)} {oc6 kV6 dc6 pm6 cd6 ct6 : Value}
    {f7 : Addr} {od7 an7 : Option Addr} {sl7 : Array (Option Value)} {oc7 kV7 dc7 pm7 cd7 ct7 : Value}
    {f8 : Addr} {od8 an8 : Option Addr} {sl8 : Array (Option Value)} {oc8 kV8 dc8 pm8 cd8 ct8 : Value}
    {f9 : Addr} {od9 an9 : Option Addr} {sl9 : Array (Option Value)} {oc9 kV9 dc9 pm9 cd9 ct9 : Value}
    {f10 : Addr} {od10 an10 : Option Addr} {sl10 : Array (Option Value)} {oc10 kV10 dc10 pm10 cd10 ct10 : Value}
    {f11 : Addr} {od11 an11 : Option Addr} {sl11 : Array (Option Value)} {oc11 kV11 dc11 pm11 cd11 ct11 : Value}
    {f12 : Addr} {od12 an12 : Option Addr} {sl12 : Array (Option Value)} {oc12 kV12 dc12 pm12 cd12 ct12 : Value}
    {f13 : Addr} {od13 an13 : Option Addr} {sl13 : Array (Option Value)} {oc13 kV13 dc13 pm13 cd13 ct13 : Value}
    {f14 : Addr} {od14 an14 : Option Addr} {sl14 : Array (Option Value)} {oc14 kV14 dc14 pm14 cd14 ct14 : Value}
    {f15 : Addr} {od15 an15 : Option Addr} {sl15 : Array (Option Value)} {oc15 kV15 dc15 pm15 cd15 ct15 : Value}
    {f16 : Addr} {od16 an16 : Option Addr} {sl16 : Array (Option Value)} {oc16 kV16 dc16 pm16 cd16 ct16 : Value}
    {f17 : Addr} {od17 an17 : Option Addr} {sl17 : Array (Option Value)} {oc17 kV17 dc17 pm17 cd17 ct17 : Value}
    {f18 : Addr} {od18 an18 : Option Addr} {sl18 : Array (Option Value)} {oc18 kV18 dc18 pm18 cd18 ct18 : Value}
    {f19 : Addr} {od19 an19 : Option Addr} {sl19 : Array (Option Value)} {oc19 kV19 dc19 pm19 cd19 ct19 : Value}
    {f20 : Addr} {od20 an20 : Option Addr} {sl20 : Array (Option Value)} {oc20 kV20 dc20 pm20 cd20 ct20 : Value}
    {f21 : Addr} {od21 an21 : Option Addr} {sl21 : Array (Option Value)} {oc21 kV21 dc21 pm21 cd21 ct21 : Value}
    {f22 : Addr} {od22 an22 : Option Addr} {sl22 : Array (Option Value)} {oc22 kV22 dc22 pm22 cd22 ct22 : Value}
    {f23 : Addr} {od23 an23 : Option Addr} {sl23 : Array (Option Value)} {oc23 kV23 dc23 pm23 cd23 ct23 : Value}
    {f24 : Addr} {od24 an24 : Option Addr} {sl24 : Array (Option Value)} {oc24 kV24 dc24 pm24 cd24 ct24 : Value}
    {f25 : Addr} {od25 an25 : Option Addr} {sl25 : Array (Option Value)} {oc25 kV25 dc25 pm25 cd25 ct25 : Value}
    {f26 : Addr} {od26 an26 : Option Addr} {sl26 : Array (Option Value)} {oc26 kV26 dc26 pm26 cd26 ct26 : Value}
    {f27 : Addr} {od27 an27 : Option Addr} {sl27 : Array (Option Value)} {oc27 kV27 dc27 pm27 cd27 ct27 : Value}
    {c_Loud : Addr}
    {c_CellError : Addr}
    {c_Folded : Addr}
    {c_NoLine : Addr}
    {c_NoName : Addr}
    {c_NoNumber : Addr}
    {c_NoRest : Addr}
    {c_NoRule : Addr}
    {c_NoSize : Addr}
    {c_NoText : Addr}
    {c_NoThing : Addr}
    {c_Outside : Addr}
    {c_TooWide : Addr}
    (a0 : PySem.W.nsIn K mainGlobals "moved" = some (some (.ref f0)))
    (l0 : K.lookup f0 = some ⟨oc0, od0, .func (PySem.W.fnOf "moved" "moved" (defArgs s_moved) (defBody s_moved) (defScope s_moved) .none kV0 dc0 pm0 an0 cd0 ct0), sl0⟩)
    (c0 : PySem.W.codeIn K cd0 "moved" = true)
    (k0 : PySem.W.keepIn K (.ref f0) = true)
    (a1 : PySem.W.nsIn K mainGlobals "box_of" = some (some (.ref f1)))
    (l1 : K.lookup f1 = some ⟨oc1, od1, .func (PySem.W.fnOf "box_of" "box_of" (defArgs s_box_of) (defBody s_box_of) (defScope s_box_of) .none kV1 dc1 pm1 an1 cd1 ct1), sl1⟩)
    (c1 : PySem.W.codeIn K cd1 "box_of" = true)
    (k1 : PySem.W.keepIn K (.ref f1) = true)
    (a2 : PySem.W.nsIn K mainGlobals "at_nought" = some (some (.ref f2)))
    (l2 : K.lookup f2 = some ⟨oc2, od2, .func (PySem.W.fnOf "at_nought" "at_nought" (defArgs s_at_nought) (defBody s_at_nought) (defScope s_at_nought) .none kV2 dc2 pm2 an2 cd2 ct2), sl2⟩)
    (c2 : PySem.W.codeIn K cd2 "at_nought" = true)
    (k2 : PySem.W.keepIn K (.ref f2) = true)
    (a3 : PySem.W.nsIn K mainGlobals "is_near" = some (some (.ref f3)))
    (l3 : K.lookup f3 = some ⟨oc3, od3, .func (PySem.W.fnOf "is_near" "is_near" (defArgs s_is_near) (defBody s_is_near) (defScope s_is_near) .none kV3 dc3 pm3 an3 cd3 ct3), sl3⟩)
    (c3 : PySem.W.codeIn K cd3 "is_near" = true)
    (k3 : PySem.W.keepIn K (.ref f3) = true)
    (a4 : PySem.W.nsIn K mainGlobals "offsets" = some (some (.ref f4)))
    (l4 : K.lookup f4 = some ⟨oc4, od4, .func (PySem.W.fnOf "offsets" "offsets" (defArgs s_offsets) (defBody s_offsets) (defScope s_offsets) .none kV4 dc4 pm4 an4 cd4 ct4), sl4⟩)
    (c4 : PySem.W.codeIn K cd4 "offsets" = true)
    (k4 : PySem.W.keepIn K (.ref f4) = true)
    (a5 : PySem.W.nsIn K mainGlobals "around" = some (some (.ref f5)))
    (l5 : K.lookup f5 = some ⟨oc5, od5, .func (PySem.W.fnOf "around" "around" (defArgs s_around) (defBody s_around) (defScope s_around) .none kV5 dc5 pm5 an5 cd5 ct5), sl5⟩)
    (c5 : PySem.W.codeIn K cd5 "around" = true)
    (k5 : PySem.W.keepIn K (.ref f5) = true)
    (a6 : PySem.W.nsIn K mainGlobals "is_quiet" = some (some (.ref f6)))
    (l6 : K.lookup f6 = some ⟨oc6, od6, .func (PySem.W.fnOf "is_quiet" "is_quiet" (defArgs s_is_quiet) (defBody s_is_quiet) (defScope s_is_quiet) .none kV6 dc6 pm6 an6 cd6 ct6), sl6⟩)
    (c6 : PySem.W.codeIn K cd6 "is_quiet" = true)
    (k6 : PySem.W.keepIn K (.ref f6) = true)
    (a7 : PySem.W.nsIn K mainGlobals "ask_quiet" = some (some (.ref f7)))
    (l7 : K.lookup f7 = some ⟨oc7, od7, .func (PySem.W.fnOf "ask_quiet" "ask_quiet" (defArgs s_ask_quiet) (defBody s_ask_quiet) (defScope s_ask_quiet) .none kV7 dc7 pm7 an7 cd7 ct7), sl7⟩)
    (c7 : PySem.W.codeIn K cd7 "ask_quiet" = true)
    (k7 : PySem.W.keepIn K (.ref f7) = true)
    (a8 : PySem.W.nsIn K mainGlobals "comes" = some (some (.ref f8)))
    (l8 : K.lookup f8 = some ⟨oc8, od8, .func (PySem.W.fnOf "comes" "comes" (defArgs s_comes) (defBody s_comes) (defScope s_comes) .none kV8 dc8 pm8 an8 cd8 ct8), sl8⟩)
    (c8 : PySem.W.codeIn K cd8 "comes" = true)
    (k8 : PySem.W.keepIn K (.ref f8) = true)
    (a9 : PySem.W.nsIn K mainGlobals "counts" = some (some (.ref f9)))
    (l9 : K.lookup f9 = some ⟨oc9, od9, .func (PySem.W.fnOf "counts" "counts" (defArgs s_counts) (defBody s_counts) (defScope s_counts) .none kV9 dc9 pm9 an9 cd9 ct9), sl9⟩)
    (c9 : PySem.W.codeIn K cd9 "counts" = true)
    (k9 : PySem.W.keepIn K (.ref f9) = true)
    (a10 : PySem.W.nsIn K mainGlobals "next_turn" = some (some (.ref f10)))
    (l10 : K.lookup f10 = some ⟨oc10, od10, .func (PySem.W.fnOf "next_turn" "next_turn" (defArgs s_next_turn) (defBody s_next_turn) (defScope s_next_turn) .none kV10 dc10 pm10 an10 cd10 ct10), sl10⟩)
    (c10 : PySem.W.codeIn K cd10 "next_turn" = true)
    (k10 : PySem.W.keepIn K (.ref f10) = true)
    (a11 : PySem.W.nsIn K mainGlobals "step_to" = some (some (.ref f11)))
    (l11 : K.lookup f11 = some ⟨oc11, od11, .func (PySem.W.fnOf "step_to" "step_to" (defArgs s_step_to) (defBody s_step_to) (defScope s_step_to) .none kV11 dc11 pm11 an11 cd11 ct11), sl11⟩)
    (c11 : PySem.W.codeIn K cd11 "step_to" = true)
    (k11 : PySem.W.keepIn K (.ref f11) = true)
    (a12 : PySem.W.nsIn K mainGlobals "fate" = some (some (.ref f12)))
    (l12 : K.lookup f12 = some ⟨oc12, od12, .func (PySem.W.fnOf "fate" "fate" (defArgs s_fate) (defBody s_fate) (defScope s_fate) .none kV12 dc12 pm12 an12 cd12 ct12), sl12⟩)
    (c12 : PySem.W.codeIn K cd12 "fate" = true)
    (k12 : PySem.W.keepIn K (.ref f12) = true)
    (a13 : PySem.W.nsIn K mainGlobals "word_of" = some (some (.ref f13)))
    (l13 : K.lookup f13 = some ⟨oc13, od13, .func (PySem.W.fnOf "word_of" "word_of" (defArgs s_word_of) (defBody s_word_of) (defScope s_word_of) .none kV13 dc13 pm13 an13 cd13 ct13), sl13⟩)
    (c13 : PySem.W.codeIn K cd13 "word_of" = true)
    (k13 : PySem.W.keepIn K (.ref f13) = true)
    (a14 : PySem.W.nsIn K mainGlobals "_law_pen" = some (some (.ref f14)))
    (l14 : K.lookup f14 = some ⟨oc14, od14, .func (PySem.W.fnOf "_law_pen" "_law_pen" (defArgs s_law_pen) (defBody s_law_pen) (defScope s_law_pen) .none kV14 dc14 pm14 an14 cd14 ct14), sl14⟩)
    (c14 : PySem.W.codeIn K cd14 "_law_pen" = true)
    (k14 : PySem.W.keepIn K (.ref f14) = true)
    (a15 : PySem.W.nsIn K mainGlobals "_law_draw" = some (some (.ref f15)))
    (l15 : K.lookup f15 = some ⟨oc15, od15, .func (PySem.W.fnOf "_law_draw" "_law_draw" (defArgs s_law_draw) (defBody s_law_draw) (defScope s_law_draw) .none kV15 dc15 pm15 an15 cd15 ct15), sl15⟩)
    (c15 : PySem.W.codeIn K cd15 "_law_draw" = true)
    (k15 : PySem.W.keepIn K (.ref f15) = true)
    (a16 : PySem.W.nsIn K mainGlobals "_law_number" = some (some (.ref f16)))
    (l16 : K.lookup f16 = some ⟨oc16, od16, .func (PySem.W.fnOf "_law_number" "_law_number" (defArgs s_law_number) (defBody s_law_number) (defScope s_law_number) .none kV16 dc16 pm16 an16 cd16 ct16), sl16⟩)
    (c16 : PySem.W.codeIn K cd16 "_law_number" = true)
    (k16 : PySem.W.keepIn K (.ref f16) = true)
    (a17 : PySem.W.nsIn K mainGlobals "_law_rule" = some (some (.ref f17)))
    (l17 : K.lookup f17 = some ⟨oc17, od17, .func (PySem.W.fnOf "_law_rule" "_law_rule" (defArgs s_law_rule) (defBody s_law_rule) (defScope s_law_rule) .none kV17 dc17 pm17 an17 cd17 ct17), sl17⟩)
    (c17 : PySem.W.codeIn K cd17 "_law_rule" = true)
    (k17 : PySem.W.keepIn K (.ref f17) = true)
    (a18 : PySem.W.nsIn K mainGlobals "_law_cells" = some (some (.ref f18)))
    (l18 : K.lookup f18 = some ⟨oc18, od18, .func (PySem.W.fnOf "_law_cells" "_law_cells" (defArgs s_law_cells) (defBody s_law_cells) (defScope s_law_cells) .none kV18 dc18 pm18 an18 cd18 ct18), sl18⟩)
    (c18 : PySem.W.codeIn K cd18 "_law_cells" = true)
    (k18 : PySem.W.keepIn K (.ref f18) = true)
    (a19 : PySem.W.nsIn K mainGlobals "_law_picture" = some (some (.ref f19)))
    (l19 : K.lookup f19 = some ⟨oc19, od19, .func (PySem.W.fnOf "_law_picture" "_law_picture" (defArgs s_law_picture) (defBody s_law_picture) (defScope s_law_picture) .none kV19 dc19 pm19 an19 cd19 ct19), sl19⟩)
    (c19 : PySem.W.codeIn K cd19 "_law_picture" = true)
    (k19 : PySem.W.keepIn K (.ref f19) = true)
    (a20 : PySem.W.nsIn K mainGlobals "_law_steps" = some (some (.ref f20)))
    (l20 : K.lookup f20 = some ⟨oc20, od20, .func (PySem.W.fnOf "_law_steps" "_law_steps" (defArgs s_law_steps) (defBody s_law_steps) (defScope s_law_steps) .none kV20 dc20 pm20 an20 cd20 ct20), sl20⟩)
    (c20 : PySem.W.codeIn K cd20 "_law_steps" = true)
    (k20 : PySem.W.keepIn K (.ref f20) = true)
    (a21 : PySem.W.nsIn K mainGlobals "_law_next" = some (some (.ref f21)))
    (l21 : K.lookup f21 = some ⟨oc21, od21, .func (PySem.W.fnOf "_law_next" "_law_next" (defArgs s_law_next) (defBody s_law_next) (defScope s_law_next) .none kV21 dc21 pm21 an21 cd21 ct21), sl21⟩)
    (c21 : PySem.W.codeIn K cd21 "_law_next" = true)
    (k21 : PySem.W.keepIn K (.ref f21) = true)
    (a22 : PySem.W.nsIn K mainGlobals "_law_is_refused" = some (some (.ref f22)))
    (l22 : K.lookup f22 = some ⟨oc22, od22, .func (PySem.W.fnOf "_law_is_refused" "_law_is_refused" (defArgs s_law_is_refused) (defBody s_law_is_refused) (defScope s_law_is_refused) .none kV22 dc22 pm22 an22 cd22 ct22), sl22⟩)
    (c22 : PySem.W.codeIn K cd22 "_law_is_refused" = true)
    (k22 : PySem.W.keepIn K (.ref f22) = true)
    (a23 : PySem.W.nsIn K mainGlobals "_law_due" = some (some (.ref f23)))
    (l23 : K.lookup f23 = some ⟨oc23, od23, .func (PySem.W.fnOf "_law_due" "_law_due" (defArgs s_law_due) (defBody s_law_due) (defScope s_law_due) .none kV23 dc23 pm23 an23 cd23 ct23), sl23⟩)
    (c23 : PySem.W.codeIn K cd23 "_law_due" = true)
    (k23 : PySem.W.keepIn K (.ref f23) = true)
    (a24 : PySem.W.nsIn K mainGlobals "_law_word" = some (some (.ref f24)))
    (l24 : K.lookup f24 = some ⟨oc24, od24, .func (PySem.W.fnOf "_law_word" "_law_word" (defArgs s_law_word) (defBody s_law_word) (defScope s_law_word) .none kV24 dc24 pm24 an24 cd24 ct24), sl24⟩)
    (c24 : PySem.W.codeIn K cd24 "_law_word" = true)
    (k24 : PySem.W.keepIn K (.ref f24) = true)
    (a25 : PySem.W.nsIn K mainGlobals "_law_are_whole" = some (some (.ref f25)))
    (l25 : K.lookup f25 = some ⟨oc25, od25, .func (PySem.W.fnOf "_law_are_whole" "_law_are_whole" (defArgs s_law_are_whole) (defBody s_law_are_whole) (defScope s_law_are_whole) .none kV25 dc25 pm25 an25 cd25 ct25), sl25⟩)
    (c25 : PySem.W.codeIn K cd25 "_law_are_whole" = true)
    (k25 : PySem.W.keepIn K (.ref f25) = true)
    (a26 : PySem.W.nsIn K mainGlobals "_law_built" = some (some (.ref f26)))
    (l26 : K.lookup f26 = some ⟨oc26, od26, .func (PySem.W.fnOf "_law_built" "_law_built" (defArgs s_law_built) (defBody s_law_built) (defScope s_law_built) .none kV26 dc26 pm26 an26 cd26 ct26), sl26⟩)
    (c26 : PySem.W.codeIn K cd26 "_law_built" = true)
    (k26 : PySem.W.keepIn K (.ref f26) = true)
    (a27 : PySem.W.nsIn K mainGlobals "law" = some (some (.ref f27)))
    (l27 : K.lookup f27 = some ⟨oc27, od27, .func (PySem.W.fnOf "law" "law" (defArgs s_law) (defBody s_law) (defScope s_law) .none kV27 dc27 pm27 an27 cd27 ct27), sl27⟩)
    (c27 : PySem.W.codeIn K cd27 "law" = true)
    (k27 : PySem.W.keepIn K (.ref f27) = true)
    (z0 : PySem.W.nsIn K mainGlobals "ValueError" = some none)
    (z1 : PySem.W.nsIn K mainGlobals "abs" = some none)
    (z2 : PySem.W.nsIn K mainGlobals "bool" = some none)
    (z3 : PySem.W.nsIn K mainGlobals "int" = some none)
    (z4 : PySem.W.nsIn K mainGlobals "isinstance" = some none)
    (z5 : PySem.W.nsIn K mainGlobals "len" = some none)
    (z6 : PySem.W.nsIn K mainGlobals "list" = some none)
    (z7 : PySem.W.nsIn K mainGlobals "max" = some none)
    (z8 : PySem.W.nsIn K mainGlobals "min" = some none)
    (z9 : PySem.W.nsIn K mainGlobals "range" = some none)
    (z10 : PySem.W.nsIn K mainGlobals "set" = some none)
    (z11 : PySem.W.nsIn K mainGlobals "sorted" = some none)
    (z12 : PySem.W.nsIn K mainGlobals "tuple" = some none)
    (g_Loud : PySem.W.nsIn K mainGlobals "Loud" = some (some (.ref c_Loud)))
    (i_Loud : PySem.W.isClsIn K c_Loud = true)
    (y_Loud : PySem.W.typeIn K (.ref c_Loud) = some (.type "type"))
    (s_Loud : PySem.W.subIn K (.ref c_Loud) (.ref c_Loud) = some true)
    (b_Loud : PySem.W.subIn K (.ref c_Loud) (.type "BaseException") = some true)
    (g_CellError : PySem.W.nsIn K mainGlobals "CellError" = some (some (.ref c_CellError)))
    (i_CellError : PySem.W.isClsIn K c_CellError = true)
    (y_CellError : PySem.W.typeIn K (.ref c_CellError) = some (.type "type"))
    (s_CellError : PySem.W.subIn K (.ref c_CellError) (.ref c_CellError) = some true)
    (b_CellError : PySem.W.subIn K (.ref c_CellError) (.type "BaseException") = some true)
    (g_Folded : PySem.W.nsIn K mainGlobals "Folded" = some (some (.ref c_Folded)))
    (i_Folded : PySem.W.isClsIn K c_Folded = true)
    (y_Folded : PySem.W.typeIn K (.ref c_Folded) = some (.type "type"))
    (s_Folded : PySem.W.subIn K (.ref c_Folded) (.ref c_Folded) = some true)
    (b_Folded : PySem.W.subIn K (.ref c_Folded) (.type "BaseException") = some true)
    (g_NoLine : PySem.W.nsIn K mainGlobals "NoLine" = some (some (.ref c_NoLine)))
    (i_NoLine : PySem.W.isClsIn K c_NoLine = true)
    (y_NoLine : PySem.W.typeIn K (.ref c_NoLine) = some (.type "type"))
    (s_NoLine : PySem.W.subIn K (.ref c_NoLine) (.ref c_NoLine) = some true)
    (b_NoLine : PySem.W.subIn K (.ref c_NoLine) (.type "BaseException") = some true)
    (g_NoName : PySem.W.nsIn K mainGlobals "NoName" = some (some (.ref c_NoName)))
    (i_NoName : PySem.W.isClsIn K c_NoName = true)
    (y_NoName : PySem.W.typeIn K (.ref c_NoName) = some (.type "type"))
    (s_NoName : PySem.W.subIn K (.ref c_NoName) (.ref c_NoName) = some true)
    (b_NoName : PySem.W.subIn K (.ref c_NoName) (.type "BaseException") = some true)
    (g_NoNumber : PySem.W.nsIn K mainGlobals "NoNumber" = some (some (.ref c_NoNumber)))
    (i_NoNumber : PySem.W.isClsIn K c_NoNumber = true)
    (y_NoNumber : PySem.W.typeIn K (.ref c_NoNumber) = some (.type "type"))
    (s_NoNumber : PySem.W.subIn K (.ref c_NoNumber) (.ref c_NoNumber) = some true)
    (b_NoNumber : PySem.W.subIn K (.ref c_NoNumber) (.type "BaseException") = some true)
    (g_NoRest : PySem.W.nsIn K mainGlobals "NoRest" = some (some (.ref c_NoRest)))
    (i_NoRest : PySem.W.isClsIn K c_NoRest = true)
    (y_NoRest : PySem.W.typeIn K (.ref c_NoRest) = some (.type "type"))
    (s_NoRest : PySem.W.subIn K (.ref c_NoRest) (.ref c_NoRest) = some true)
    (b_NoRest : PySem.W.subIn K (.ref c_NoRest) (.type "BaseException") = some true)
    (g_NoRule : PySem.W.nsIn K mainGlobals "NoRule" = some (some (.ref c_NoRule)))
    (i_NoRule : PySem.W.isClsIn K c_NoRule = true)
    (y_NoRule : PySem.W.typeIn K (.ref c_NoRule) = some (.type "type"))
    (s_NoRule : PySem.W.subIn K (.ref c_NoRule) (.ref c_NoRule) = some true)
    (b_NoRule : PySem.W.subIn K (.ref c_NoRule) (.type "BaseException") = some true)
    (g_NoSize : PySem.W.nsIn K mainGlobals "NoSize" = some (some (.ref c_NoSize)))
    (i_NoSize : PySem.W.isClsIn K c_NoSize = true)
    (y_NoSize : PySem.W.typeIn K (.ref c_NoSize) = some (.type "type"))
    (s_NoSize : PySem.W.subIn K (.ref c_NoSize) (.ref c_NoSize) = some true)
    (b_NoSize : PySem.W.subIn K (.ref c_NoSize) (.type "BaseException") = some true)
    (g_NoText : PySem.W.nsIn K mainGlobals "NoText" = some (some (.ref c_NoText)))
    (i_NoText : PySem.W.isClsIn K c_NoText = true)
    (y_NoText : PySem.W.typeIn K (.ref c_NoText) = some (.type "type"))
    (s_NoText : PySem.W.subIn K (.ref c_NoText) (.ref c_NoText) = some true)
    (b_NoText : PySem.W.subIn K (.ref c_NoText) (.type "BaseException") = some true)
    (g_NoThing : PySem.W.nsIn K mainGlobals "NoThing" = some (some (.ref c_NoThing)))
    (i_NoThing : PySem.W.isClsIn K c_NoThing = true)
    (y_NoThing : PySem.W.typeIn K (.ref c_NoThing) = some (.type "type"))
    (s_NoThing : PySem.W.subIn K (.ref c_NoThing) (.ref c_NoThing) = some true)
    (b_NoThing : PySem.W.subIn K (.ref c_NoThing) (.type "BaseException") = some true)
    (g_Outside : PySem.W.nsIn K mainGlobals "Outside" = some (some (.ref c_Outside)))
    (i_Outside : PySem.W.isClsIn K c_Outside = true)
    (y_Outside : PySem.W.typeIn K (.ref c_Outside) = some (.type "type"))
    (s_Outside : PySem.W.subIn K (.ref c_Outside) (.ref c_Outside) = some true)
    (b_Outside : PySem.W.subIn K (.ref c_Outside) (.type "BaseException") = some true)
    (g_TooWide : PySem.W.nsIn K mainGlobals "TooWide" = some (some (.ref c_TooWide)))
    (i_TooWide : PySem.W.isClsIn K c_TooWide = true)
    (y_TooWide : PySem.W.typeIn K (.ref c_TooWide) = some (.type "type"))
    (s_TooWide : PySem.W.subIn K (.ref c_TooWide) (.ref c_TooWide) = some true)
    (b_TooWide : PySem.W.subIn K (.ref c_TooWide) (.type "BaseException") = some true)
    (x_Loud : PySem.W.excIn K c_Loud [.type "ValueError", .type "Exception", .type "BaseException", .type "object"] "ValueError.__new__" = true)
    (k_Loud : PySem.W.keepIn K (.ref c_Loud) = true)
    (e1_Loud : PySem.W.findIn K (.ref c_Loud) "__getattribute__" = some (some (.builtin "BaseException.__getattribute__")))
    (e2_Loud : PySem.W.findIn K (.ref c_Loud) "__getattr__" = some none)
    (e4_Loud : PySem.W.hasDictIn K c_Loud = true)
    (e5_Loud : PySem.W.findIn K (.ref c_Loud) "__class__" = some (some (.builtin "object.__class__")))
    (e8_Loud : PySem.W.mroIn K c_Loud (.type "object") = some true)
    (e6 : PySem.W.specialIn K (.builtin "object.__class__") "__get__" = some (some (.builtin "getset_descriptor.__get__")))
    (e7 : PySem.W.takesIn K (.builtin "object.__class__") = some true)
    (p_Loud_Loud : PySem.W.subIn K (.ref c_Loud) (.ref c_Loud) = some true)
    (p_Loud_CellError : PySem.W.subIn K (.ref c_Loud) (.ref c_CellError) = some true)
    (p_Loud_Folded : PySem.W.subIn K (.ref c_Loud) (.ref c_Folded) = some false)
    (p_Loud_NoLine : PySem.W.subIn K (.ref c_Loud) (.ref c_NoLine) = some false)
    (p_Loud_NoName : PySem.W.subIn K (.ref c_Loud) (.ref c_NoName) = some false)
    (p_Loud_NoNumber : PySem.W.subIn K (.ref c_Loud) (.ref c_NoNumber) = some false)
    (p_Loud_NoRest : PySem.W.subIn K (.ref c_Loud) (.ref c_NoRest) = some false)
    (p_Loud_NoRule : PySem.W.subIn K (.ref c_Loud) (.ref c_NoRule) = some false)
    (p_Loud_NoSize : PySem.W.subIn K (.ref c_Loud) (.ref c_NoSize) = some false)
    (p_Loud_NoText : PySem.W.subIn K (.ref c_Loud) (.ref c_NoText) = some false)
    (p_Loud_NoThing : PySem.W.subIn K (.ref c_Loud) (.ref c_NoThing) = some false)
    (p_Loud_Outside : PySem.W.subIn K (.ref c_Loud) (.ref c_Outside) = some false)
    (p_Loud_TooWide : PySem.W.subIn K (.ref c_Loud) (.ref c_TooWide) = some false)
    (p_Loud_ValueError : PySem.W.subIn K (.ref c_Loud) (.type "ValueError") = some true)
    : ∃ fd : FuncData, (∀ (s : Shared) (v : Value), BindsTo s fd ⟨[v], []⟩ [("_law_script", v)]) ∧ ∀ base : Heap, K.In base → base.Ns mainGlobals mg → FnOk l.prog w K mg base (L2.CX l.prog w) 7 fa fd ["_law_script"] (spA K f_law) := by
  have e := hfa.symm.trans (PySem.W.mg_of X G a27)
  cases e
  have F0 := fun_mk (st := s_moved) l0 c0 k0
  have B0 := F0.binds (ps := ["live", "move"]) fun _ _ _ _ _ _ us hl => match us, hl with | [_, _], _ => rfl
  have F1 := fun_mk (st := s_box_of) l1 c1 k1
  have B1 := F1.binds (ps := ["live"]) fun _ _ _ _ _ _ us hl => match us, hl with | [_], _ => rfl
  have F2 := fun_mk (st := s_at_nought) l2 c2 k2
  have B2 := F2.binds (ps := ["live"]) fun _ _ _ _ _ _ us hl => match us, hl with | [_], _ => rfl
  have F3 := fun_mk (st := s_is_near) l3 c3 k3
  have B3 := F3.binds (ps := ["kind", "dx", "dy"]) fun _ _ _ _ _ _ us hl => match us, hl with | [_, _, _], _ => rfl
  have F4 := fun_mk (st := s_offsets) l4 c4 k4
  have B4 := F4.binds (ps := ["kind"]) fun _ _ _ _ _ _ us hl => match us, hl with | [_], _ => rfl
  have F5 := fun_mk (st := s_around) l5 c5 k5
  have B5 := F5.binds (ps := []) fun _ _ _ _ _ _ us hl => match us, hl with | [], _ => rfl
  have F6 := fun_mk (st := s_is_quiet) l6 c6 k6
  have B6 := F6.binds (ps := ["told"]) fun _ _ _ _ _ _ us hl => match us, hl with | [_], _ => rfl
  have F7 := fun_mk (st := s_ask_quiet) l7 c7 k7
  have B7 := F7.binds (ps := ["told"]) fun _ _ _ _ _ _ us hl => match us, hl with | [_], _ => rfl
  have F8 := fun_mk (st := s_comes) l8 c8 k8
  have B8 := F8.binds (ps := ["told", "alive", "count"]) fun _ _ _ _ _ _ us hl => match us, hl with | [_, _, _], _ => rfl
  have F9 := fun_mk (st := s_counts) l9 c9 k9
  have B9 := F9.binds (ps := ["kind", "live"]) fun _ _ _ _ _ _ us hl => match us, hl with | [_, _], _ => rfl
  have F10 := fun_mk (st := s_next_turn) l10 c10 k10
  have B10 := F10.binds (ps := ["rule", "live"]) fun _ _ _ _ _ _ us hl => match us, hl with | [_, _], _ => rfl
  have F11 := fun_mk (st := s_step_to) l11 c11 k11
  have B11 := F11.binds (ps := ["one", "other"]) fun _ _ _ _ _ _ us hl => match us, hl with | [_, _], _ => rfl
  have F12 := fun_mk (st := s_fate) l12 c12 k12
  have B12 := F12.binds (ps := ["rule", "live", "most"]) fun _ _ _ _ _ _ us hl => match us, hl with | [_, _, _], _ => rfl
  have F13 := fun_mk (st := s_word_of) l13 c13 k13
  have B13 := F13.binds (ps := ["told"]) fun _ _ _ _ _ _ us hl => match us, hl with | [_], _ => rfl
  have F14 := fun_mk (st := s_law_pen) l14 c14 k14
  have B14 := F14.binds (ps := ["_law_script", "_law_k"]) fun _ _ _ _ _ _ us hl => match us, hl with | [_, _], _ => rfl
  have F15 := fun_mk (st := s_law_draw) l15 c15 k15
  have B15 := F15.binds (ps := ["_law_pen_here", "_law_many"]) fun _ _ _ _ _ _ us hl => match us, hl with | [_, _], _ => rfl
  have F16 := fun_mk (st := s_law_number) l16 c16 k16
  have B16 := F16.binds (ps := ["_law_pen_here"]) fun _ _ _ _ _ _ us hl => match us, hl with | [_], _ => rfl
  have F17 := fun_mk (st := s_law_rule) l17 c17 k17
  have B17 := F17.binds (ps := ["_law_pen_here"]) fun _ _ _ _ _ _ us hl => match us, hl with | [_], _ => rfl
  have F18 := fun_mk (st := s_law_cells) l18 c18 k18
  have B18 := F18.binds (ps := ["_law_pen_here"]) fun _ _ _ _ _ _ us hl => match us, hl with | [_], _ => rfl
  have F19 := fun_mk (st := s_law_picture) l19 c19 k19
  have B19 := F19.binds (ps := ["_law_pen_here"]) fun _ _ _ _ _ _ us hl => match us, hl with | [_], _ => rfl
  have F20 := fun_mk (st := s_law_steps) l20 c20 k20
  have B20 := F20.binds (ps := ["_law_kind"]) fun _ _ _ _ _ _ us hl => match us, hl with | [_], _ => rfl
  have F21 := fun_mk (st := s_law_next) l21 c21 k21
  have B21 := F21.binds (ps := ["_law_told", "_law_live"]) fun _ _ _ _ _ _ us hl => match us, hl with | [_, _], _ => rfl
  have F22 := fun_mk (st := s_law_is_refused) l22 c22 k22
  have B22 := F22.binds (ps := ["_law_told", "_law_live", "_law_most"]) fun _ _ _ _ _ _ us hl => match us, hl with | [_, _, _], _ => rfl
  have F23 := fun_mk (st := s_law_due) l23 c23 k23
  have B23 := F23.binds (ps := ["_law_told", "_law_live", "_law_most"]) fun _ _ _ _ _ _ us hl => match us, hl with | [_, _, _], _ => rfl
  have F24 := fun_mk (st := s_law_word) l24 c24 k24
  have B24 := F24.binds (ps := ["_law_due_here"]) fun _ _ _ _ _ _ us hl => match us, hl with | [_], _ => rfl
  have F25 := fun_mk (st := s_law_are_whole) l25 c25 k25
  have B25 := F25.binds (ps := ["_law_found"]) fun _ _ _ _ _ _ us hl => match us, hl with | [_], _ => rfl
  have F26 := fun_mk (st := s_law_built) l26 c26 k26
  have B26 := F26.binds (ps := ["_law_pen_here"]) fun _ _ _ _ _ _ us hl => match us, hl with | [_], _ => rfl
  have F27 := fun_mk (st := s_law) l27 c27 k27
  have B27 := F27.binds (ps := ["_law_script"]) fun _ _ _ _ _ _ us hl => match us, hl with | [_], _ => rfl
  exact ⟨_, fun s v => .of_eq rfl, fun base _ _ => fnOk_A (cv := fun q => if q = "Loud" then .ref c_Loud else .none) (ok_law (A := ⟨f0, _, f1, _, f2, _, f3, _, f4, _, f5, _, f6, _, f7, _, f8, _, f9, _, f10, _, f11, _, f12, _, f13, _, f14, _, f15, _, f16, _, f17, _, f18, _, f19, _, f20, _, f21, _, f22, _, f23, _, f24, _, f25, _, f26, _, fa, _, c_Loud, c_CellError, c_Folded, c_NoLine, c_NoName, c_NoNumber, c_NoRest, c_NoRule, c_NoSize, c_NoText, c_NoThing, c_Outside, c_TooWide⟩) ⟨F0, B0, PySem.W.mg_of X G a0, F1, B1, PySem.W.mg_of X G a1, F2, B2, PySem.W.mg_of X G a2, F3, B3, PySem.W.mg_of X G a3, F4, B4, PySem.W.mg_of X G a4, F5, B5, PySem.W.mg_of X G a5, F6, B6, PySem.W.mg_of X G a6, F7, B7, PySem.W.mg_of X G a7, F8, B8, PySem.W.mg_of X G a8, F9, B9, PySem.W.mg_of X G a9, F10, B10, PySem.W.mg_of X G a10, F11, B11, PySem.W.mg_of X G a11, F12, B12, PySem.W.mg_of X G a12, F13, B13, PySem.W.mg_of X G a13, F14, B14, PySem.W.mg_of X G a14, F15, B15, PySem.W.mg_of X G a15, F16, B16, PySem.W.mg_of X G a16, F17, B17, PySem.W.mg_of X G a17, F18, B18, PySem.W.mg_of X G a18, F19, B19, PySem.W.mg_of X G a19, F20, B20, PySem.W.mg_of X G a20, F21, B21, PySem.W.mg_of X G a21, F22, B22, PySem.W.mg_of X G a22, F23, B23, PySem.W.mg_of X G a23, F24, B24, PySem.W.mg_of X G a24, F25, B25, PySem.W.mg_of X G a25, F26, B26, PySem.W.mg_of X G a26, F27, B27, PySem.W.mg_of X G a27, PySem.W.mg_none_of X G z0, PySem.W.mg_none_of X G z1, PySem.W.mg_none_of X G z2, PySem.W.mg_none_of X G z3, PySem.W.mg_none_of X G z4, PySem.W.mg_none_of X G z5, PySem.W.mg_none_of X G z6, PySem.W.mg_none_of X G z7, PySem.W.mg_none_of X G z8, PySem.W.mg_none_of X G z9, PySem.W.mg_none_of X G z10, PySem.W.mg_none_of X G z11, PySem.W.mg_none_of X G z12, PySem.W.mg_of X G g_Loud, ⟨i_Loud, y_Loud, s_Loud⟩, PySem.W.mg_of X G g_CellError, ⟨i_CellError, y_CellError, s_CellError⟩, PySem.W.mg_of X G g_Folded, ⟨i_Folded, y_Folded, s_Folded⟩, PySem.W.mg_of X G g_NoLine, ⟨i_NoLine, y_NoLine, s_NoLine⟩, PySem.W.mg_of X G g_NoName, ⟨i_NoName, y_NoName, s_NoName⟩, PySem.W.mg_of X G g_NoNumber, ⟨i_NoNumber, y_NoNumber, s_NoNumber⟩, PySem.W.mg_of X G g_NoRest, ⟨i_NoRest, y_NoRest, s_NoRest⟩, PySem.W.mg_of X G g_NoRule, ⟨i_NoRule, y_NoRule, s_NoRule⟩, PySem.W.mg_of X G g_NoSize, ⟨i_NoSize, y_NoSize, s_NoSize⟩, PySem.W.mg_of X G g_NoText, ⟨i_NoText, y_NoText, s_NoText⟩, PySem.W.mg_of X G g_NoThing, ⟨i_NoThing, y_NoThing, s_NoThing⟩, PySem.W.mg_of X G g_Outside, ⟨i_Outside, y_Outside, s_Outside⟩, PySem.W.mg_of X G g_TooWide, ⟨i_TooWide, y_TooWide, s_TooWide⟩, b_CellError, p_Loud_Loud, p_Loud_CellError, p_Loud_Folded, p_Loud_NoLine, p_Loud_NoName, p_Loud_NoNumber, p_Loud_NoRest, p_Loud_NoRule, p_Loud_NoSize, p_Loud_NoText, p_Loud_NoThing, p_Loud_Outside, p_Loud_TooWide, p_Loud_ValueError, ⟨x_Loud, k_Loud, b_Loud, y_Loud⟩, (by simp), ⟨e1_Loud, e2_Loud, b_Loud, e4_Loud, e5_Loud, e6, e7, e8_Loud⟩⟩)⟩
end K20
open PySem PySem.W PyProof.Rows
set_option maxHeartbeats 0 in
theorem PySem.Challenge.cw_cellships_k20_fates_of_a_turn_holds : PySem.Challenge.rw_cellships_k20_fates_of_a_turn.Holds := by
  w_on; o_law; k_head; (case hw => w_witness2)
  k_fill
  refine L2.walk_of (l := PySem.Challenge.rw_cellships_k20_fates_of_a_turn) (n := 63) (k := 7) (x := "_law_script") (CX := fun w => L2.CX PySem.Challenge.rw_cellships_k20_fates_of_a_turn.prog w) (sp := fun w => G.spA _ K20.f_law) rfl (by decide) rfl ⟨rfl, by decide, by decide⟩ (fun w h Y => PySem.W.kIn_of Y) ?F (fun w H a ns hl _ hS => G.law_spA hS (K20.main ns hl)) (fun w H s e s' h => G.law_cx (P := PySem.Challenge.rw_cellships_k20_fates_of_a_turn.prog) h)
  case F =>
    intro w mg fa h KX G hmg
    refine' K20.all_mk KX G hmg ?a0 ?l0 ?c0 ?k0 ?a1 ?l1 ?c1 ?k1 ?a2 ?l2 ?c2 ?k2 ?a3 ?l3 ?c3 ?k3 ?a4 ?l4 ?c4 ?k4 ?a5 ?l5 ?c5 ?k5 ?a6 ?l6 ?c6 ?k6 ?a7 ?l7 ?c7 ?k7 ?a8 ?l8 ?c8 ?k8 ?a9 ?l9 ?c9 ?k9 ?a10 ?l10 ?c10 ?k10 ?a11 ?l11 ?c11 ?k11 ?a12 ?l12 ?c12 ?k12 ?a13 ?l13 ?c13 ?k13 ?a14 ?l14 ?c14 ?k14 ?a15 ?l15 ?c15 ?k15 ?a16 ?l16 ?c16 ?k16 ?a17 ?l17 ?c17 ?k17 ?a18 ?l18 ?c18 ?k18 ?a19 ?l19 ?c19 ?k19 ?a20 ?l20 ?c20 ?k20 ?a21 ?l21 ?c21 ?k21 ?a22 ?l22 ?c22 ?k22 ?a23 ?l23 ?c23 ?k23 ?a24 ?l24 ?c24 ?k24 ?a25 ?l25 ?c25 ?k25 ?a26 ?l26 ?c26 ?k26 ?a27 ?l27 ?c27 ?k27 ?z0 ?z1 ?z2 ?z3 ?z4 ?z5 ?z6 ?z7 ?z8 ?z9 ?z10 ?z11 ?z12 ?g_Loud ?i_Loud ?y_Loud ?s_Loud ?b_Loud ?g_CellError ?i_CellError ?y_CellError ?s_CellError ?b_CellError ?g_Folded ?i_Folded ?y_Folded ?s_Folded ?b_Folded ?g_NoLine ?i_NoLine ?y_NoLine ?s_NoLine ?b_NoLine ?g_NoName ?i_NoName ?y_NoName ?s_NoName ?b_NoName ?g_NoNumber ?i_NoNumber ?y_NoNumber ?s_NoNumber ?b_NoNumber ?g_NoRest ?i_NoRest ?y_NoRest ?s_NoRest ?b_NoRest ?g_NoRule ?i_NoRule ?y_NoRule ?s_NoRule ?b_NoRule ?g_NoSize ?i_NoSize ?y_NoSize ?s_NoSize ?b_NoSize ?g_NoText ?i_NoText ?y_NoText ?s_NoText ?b_NoText ?g_NoThing ?i_NoThing ?y_NoThing ?s_NoThing ?b_NoThing ?g_Outside ?i_Outside ?y_Outside ?s_Outside ?b_Outside ?g_TooWide ?i_TooWide ?y_TooWide ?s_TooWide ?b_TooWide ?x_Loud ?k_Loud ?e1_Loud ?e2_Loud ?e4_Loud ?e5_Loud ?e8_Loud ?e6 ?e7 ?p_Loud_Loud ?p_Loud_CellError ?p_Loud_Folded ?p_Loud_NoLine ?p_Loud_NoName ?p_Loud_NoNumber ?p_Loud_NoRest ?p_Loud_NoRule ?p_Loud_NoSize ?p_Loud_NoText ?p_Loud_NoThing ?p_Loud_Outside ?p_Loud_TooWide ?p_Loud_ValueError
    (case a0 => k_is); (case l0 => k_is); (case c0 => k_is); (case k0 => k_is); (case a1 => k_is); (case l1 => k_is); (case c1 => k_is); (case k1 => k_is); (case a2 => k_is); (case l2 => k_is); (case c2 => k_is); (case k2 => k_is); (case a3 => k_is); (case l3 => k_is); (case c3 => k_is); (case k3 => k_is); (case a4 => k_is); (case l4 => k_is); (case c4 => k_is); (case k4 => k_is); (case a5 => k_is); (case l5 => k_is); (case c5 => k_is); (case k5 => k_is); (case a6 => k_is); (case l6 => k_is); (case c6 => k_is); (case k6 => k_is); (case a7 => k_is); (case l7 => k_is); (case c7 => k_is); (case k7 => k_is); (case a8 => k_is); (case l8 => k_is); (case c8 => k_is); (case k8 => k_is); (case a9 => k_is); (case l9 => k_is); (case c9 => k_is); (case k9 => k_is); (case a10 => k_is); (case l10 => k_is); (case c10 => k_is); (case k10 => k_is); (case a11 => k_is); (case l11 => k_is); (case c11 => k_is); (case k11 => k_is); (case a12 => k_is); (case l12 => k_is); (case c12 => k_is); (case k12 => k_is); (case a13 => k_is); (case l13 => k_is); (case c13 => k_is); (case k13 => k_is); (case a14 => k_is); (case l14 => k_is); (case c14 => k_is); (case k14 => k_is); (case a15 => k_is); (case l15 => k_is); (case c15 => k_is); (case k15 => k_is); (case a16 => k_is); (case l16 => k_is); (case c16 => k_is); (case k16 => k_is); (case a17 => k_is); (case l17 => k_is); (case c17 => k_is); (case k17 => k_is); (case a18 => k_is); (case l18 => k_is); (case c18 => k_is); (case k18 => k_is); (case a19 => k_is); (case l19 => k_is); (case c19 => k_is); (case k19 => k_is); (case a20 => k_is); (case l20 => k_is); (case c20 => k_is); (case k20 => k_is); (case a21 => k_is); (case l21 => k_is); (case c21 => k_is); (case k21 => k_is); (case a22 => k_is); (case l22 => k_is); (case c22 => k_is); (case k22 => k_is); (case a23 => k_is); (case l23 => k_is); (case c23 => k_is); (case k23 => k_is); (case a24 => k_is); (case l24 => k_is); (case c24 => k_is); (case k24 => k_is); (case a25 => k_is); (case l25 => k_is); (case c25 => k_is); (case k25 => k_is); (case a26 => k_is); (case l26 => k_is); (case c26 => k_is); (case k26 => k_is); (case a27 => k_is); (case l27 => k_is); (case c27 => k_is); (case k27 => k_is); (case z0 => k_is); (case z1 => k_is); (case z2 => k_is); (case z3 => k_is); (case z4 => k_is); (case z5 => k_is); (case z6 => k_is); (case z7 => k_is); (case z8 => k_is); (case z9 => k_is); (case z10 => k_is); (case z11 => k_is); (case z12 => k_is); (case g_Loud => k_is); (case i_Loud => k_is); (case y_Loud => k_is); (case s_Loud => first | rfl | k_is); (case b_Loud => k_is); (case g_CellError => k_is); (case i_CellError => k_is); (case y_CellError => k_is); (case s_CellError => first | rfl | k_is); (case b_CellError => k_is); (case g_Folded => k_is); (case i_Folded => k_is); (case y_Folded => k_is); (case s_Folded => first | rfl | k_is); (case b_Folded => k_is); (case g_NoLine => k_is); (case i_NoLine => k_is); (case y_NoLine => k_is); (case s_NoLine => first | rfl | k_is); (case b_NoLine => k_is); (case g_NoName => k_is); (case i_NoName => k_is); (case y_NoName => k_is); (case s_NoName => first | rfl | k_is); (case b_NoName => k_is); (case g_NoNumber => k_is); (case i_NoNumber => k_is); (case y_NoNumber => k_is); (case s_NoNumber => first | rfl | k_is); (case b_NoNumber => k_is); (case g_NoRest => k_is); (case i_NoRest => k_is); (case y_NoRest => k_is); (case s_NoRest => first | rfl | k_is); (case b_NoRest => k_is); (case g_NoRule => k_is); (case i_NoRule => k_is); (case y_NoRule => k_is); (case s_NoRule => first | rfl | k_is); (case b_NoRule => k_is); (case g_NoSize => k_is); (case i_NoSize => k_is); (case y_NoSize => k_is); (case s_NoSize => first | rfl | k_is); (case b_NoSize => k_is); (case g_NoText => k_is); (case i_NoText => k_is); (case y_NoText => k_is); (case s_NoText => first | rfl | k_is); (case b_NoText => k_is); (case g_NoThing => k_is); (case i_NoThing => k_is); (case y_NoThing => k_is); (case s_NoThing => first | rfl | k_is); (case b_NoThing => k_is); (case g_Outside => k_is); (case i_Outside => k_is); (case y_Outside => k_is); (case s_Outside => first | rfl | k_is); (case b_Outside => k_is); (case g_TooWide => k_is); (case i_TooWide => k_is); (case y_TooWide => k_is); (case s_TooWide => first | rfl | k_is); (case b_TooWide => k_is); (case x_Loud => k_exc); (case k_Loud => k_is); (case e1_Loud => k_is); (case e2_Loud => k_is); (case e4_Loud => k_is); (case e5_Loud => k_is); (case e8_Loud => k_is); (case e6 => k_is); (case e7 => k_is); (case p_Loud_Loud => k_is); (case p_Loud_CellError => k_is); (case p_Loud_Folded => k_is); (case p_Loud_NoLine => k_is); (case p_Loud_NoName => k_is); (case p_Loud_NoNumber => k_is); (case p_Loud_NoRest => k_is); (case p_Loud_NoRule => k_is); (case p_Loud_NoSize => k_is); (case p_Loud_NoText => k_is); (case p_Loud_NoThing => k_is); (case p_Loud_Outside => k_is); (case p_Loud_TooWide => k_is); (case p_Loud_ValueError => k_is)
